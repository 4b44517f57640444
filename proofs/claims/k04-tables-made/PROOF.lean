import PyProof.Rows.All
import HandS.More
import HandS.Dict
import HandS.Words
import KE.KeyNested
import KE.KDictKeyed
import KE.DataEq
import Wide.All
import OpenK.AllK
import Wide.FinOn
import HandS.ForMost
import HandS.Conv
import HandS.Rev
import PyProof.ListNew
import HandS.Exc
import HandS.ExcOwn
import HandS.TryOnly
import HandS.TryMany
import HandS.WordsExc
import HandS.IsInst
import HandS.Deep
import HandS.StrMore
import HandS.TupAny
import HandS.Wide
import HandS.WideBits
import HandS.Flow
import HandS.Style
import HandS.RevRange
import HandS.SortOrd
import HandS.SortInts
import HandS.Replace
import HandS.ExcValue
import HandS.ExcIs
import HandS.SuiteRaise
import HandS.HotCalls
import HandS.EndBits
import HandS.Text
import PyProof.StrBlock2
import PyProof.Rows.StrMul
import PySem.Challenge.RW_shrinkhouse_k04_tables_made
set_option Elab.async false
set_option linter.all false
set_option maxRecDepth 100000
/-! PN1: dicts whose keys are nested tuples, tracked: what stands there, d[k], k in d, d.get(k, x), d[k] = v, {}. -/
namespace PM
open PySem PySem.Spec PyProof.Rows L2
/-- where the classes stand; the program and the world -/
structure ClsP where
  f : Nat → Addr
  P : Program
  w : World
instance : CoeFun ClsP fun _ => Nat → Addr := ⟨ClsP.f⟩
mutual
theorem nested_of_reads {h : Heap} : ∀ (k : NestedKey) (v : Value) (as : List Addr), Reads h v k.data as → NestedIs h k v
  | .none, _, _, r => by cases r; exact .none
  | .num i, _, _, r => by cases r; exact .int _ _
  | .text x, _, _, r => by cases r; exact .text _ _
  | .tup ks, _, _, r => by
    cases r with
    | tuple h1 h2 h3 h4 => exact .tup h1 h2 h3 (nested_of_readsAll ks _ _ h4)
theorem nested_of_readsAll {h : Heap} : ∀ (ks : List NestedKey) (vs : List Value) (as : List Addr), ReadsAll h vs (NestedKey.datas ks) as → NestedAll h ks vs
  | [], _, _, r => by cases r; exact .nil
  | k :: ks, _, _, r => by
    cases r with
    | cons h1 h2 => exact .cons (nested_of_reads k _ _ h1) (nested_of_readsAll ks _ _ h2)
end
mutual
theorem dp_mono {K : PySem.W.Frag} {Z Z' : Hp} (hz : Same Z Z') : ∀ (p : PyData) (v : V), Dp K Z v p → Dp K Z' v p
  | .none, _, h => by cases h; exact .non
  | .bool _, _, h => by cases h; exact .bl _
  | .int _, _, h => by cases h; exact .int _
  | .str _, _, h => by cases h; exact .str _
  | .list ds, _, h => by
    cases h with
    | lst h1 h2 => exact .lst (hz.seq h1) (dpAll_mono hz ds _ h2)
  | .tuple ds, _, h => by
    cases h with
    | tup h1 h2 =>
      refine .tup ?_ (dpAll_mono hz ds _ h2)
      rcases h1 with (h | ⟨o, h⟩) | h
      · exact .inl (.inl (hz _ _ h))
      · exact .inl (.inr ⟨o, hz _ _ h⟩)
      · exact .inr h
  | .dict _, _, h => by cases h
theorem dpAll_mono {K : PySem.W.Frag} {Z Z' : Hp} (hz : Same Z Z') : ∀ (ps : List PyData) (vs : List V), DpAll K Z vs ps → DpAll K Z' vs ps
  | [], _, h => by cases h; exact .nil
  | p :: ps, _, h => by
    cases h with
    | cons h1 h2 => exact .cons (dp_mono hz p _ h1) (dpAll_mono hz ps _ h2)
end
theorem KeyAt.mono' {K : PySem.W.Frag} {Z Z' : Hp} (hz : Same Z Z') {k : NestedKey} {b : Addr} (h : Dp K Z (.ref b) k.data ∧ k.depth ≤ 8) : Dp K Z' (.ref b) k.data ∧ k.depth ≤ 8 := ⟨dp_mono hz _ _ h.1, h.2⟩
abbrev NRow := NestedKey × Addr × V
def NR : List NRow → List (NestedKey × Addr × Value) → Prop := Paired fun p q => p.1 = q.1 ∧ p.2.1 = q.2.1 ∧ RelV p.2.2 q.2.2
def atN (vs : List NRow) (k : NestedKey) : Option V := (vs.find? fun x => decide (x.1 = k)).map (·.2.2)
def putN (vs : List NRow) (k : NestedKey) (b : Addr) (v : V) : List NRow := if (atN vs k).isSome = true then vs.map (fun x => if x.1 = k then (x.1, x.2.1, v) else x) else vs ++ [(k, b, v)]
theorem NR.at {vs : List NRow} {ys : List (NestedKey × Addr × Value)} (r : NR vs ys) (k : NestedKey) : RelO (atN vs k) ((atKey ys k).map (·.2)) := by
  induction r with
  | nil => trivial
  | @cons p q ps qs hq t ih =>
    unfold atN atKey at ih ⊢
    rw [List.find?_cons, List.find?_cons]
    by_cases e : p.1 = k
    · rw [decide_eq_true e, decide_eq_true (hq.1 ▸ e)]
      exact hq.2.2
    · rw [decide_eq_false e, decide_eq_false (fun z => e (hq.1.trans z))]
      exact ih
theorem NR.snoc {vs : List NRow} {ys : List (NestedKey × Addr × Value)} (r : NR vs ys) {x : NRow} {y : NestedKey × Addr × Value} (h : x.1 = y.1 ∧ x.2.1 = y.2.1 ∧ RelV x.2.2 y.2.2) : NR (vs ++ [x]) (ys ++ [y]) := Paired.snoc r h
theorem NR.repl {vs : List NRow} {ys : List (NestedKey × Addr × Value)} (r : NR vs ys) (k : NestedKey) {v : V} {u : Value} (rv : RelV v u) : NR (vs.map fun x => if x.1 = k then (x.1, x.2.1, v) else x) (ys.map (putAt k u)) := by
  induction r with
  | nil => exact .nil
  | @cons p q ps qs hq t ih =>
    refine .cons ?_ ih
    unfold putAt
    show (if p.1 = k then (p.1, p.2.1, v) else p).1 = _ ∧ (if p.1 = k then (p.1, p.2.1, v) else p).2.1 = _ ∧ L2.RelV (if p.1 = k then (p.1, p.2.1, v) else p).2.2 _
    by_cases e : p.1 = k
    · rw [if_pos e, if_pos (hq.1 ▸ e)]
      exact ⟨hq.1, hq.2.1, rv⟩
    · rw [if_neg e, if_neg (fun z => e (hq.1.trans z))]
      exact hq
theorem NR.put {vs : List NRow} {ys : List (NestedKey × Addr × Value)} (r : NR vs ys) (k : NestedKey) {b : Addr} {v : V} {u : Value} (rv : RelV v u) : NR (putN vs k b v) (storedH ys k b u) := by
  have e : (atN vs k).isSome = (atKey ys k).isSome := by
    have := (r.at k).isSome_eq
    rw [Option.isSome_map] at this
    exact this
  unfold putN storedH
  rw [e]
  split
  · exact r.repl k rv
  · exact r.snoc ⟨rfl, rfl, rv⟩
theorem putN_len (vs : List NRow) (k : NestedKey) (b : Addr) (v : V) : (putN vs k b v).length ≤ vs.length + 1 := by
  unfold putN
  split <;> simp
def nestφ (P : Program) (w : World) (a : Addr) (vs : List NRow) : Heap → Prop := fun h => vs.length ≤ sizeLine ∧ (a == sysModules) = false ∧ ∃ ys, NR vs ys ∧
  ∃ o es ep, h.get? a = some o ∧ o.ExactDict ∧ o.data = .dict es ep ∧ es.toList = ys.map (entryOfKey (nestedKind P w)) ∧ (ys.map (·.1)).Nodup
abbrev nestO (P : Program) (w : World) (a : Addr) (vs : List NRow) : HO := .ext (nestφ P w a vs)
theorem nestφ.stay {P : Program} {w : World} {a : Addr} {vs : List NRow} (h1 h2 : Heap) (x : nestφ P w a vs h1) (k : ∀ o, h1.get? a = some o → h2.get? a = some o) : nestφ P w a vs h2 := by
  obtain ⟨z, y, ys, r, o, es, ep, e1, e2, e3, e4, e5⟩ := x
  exact ⟨z, y, ys, r, o, es, ep, k _ e1, e2, e3, e4, e5⟩
theorem nestφ.ok {P : Program} {w : World} {a : Addr} {vs : List NRow} {H : Hp} {h : Heap} (x : nestφ P w a vs h) : ObjOk P w H h a (nestO P w a vs) := by
  have x' := x
  obtain ⟨z, y, ys, r, o, es, ep, e1, _⟩ := x'
  exact ⟨x, ⟨o, e1⟩, fun h1 h2 y k => nestφ.stay h1 h2 y k⟩
/-- the value at b is the key k -/
def KeyAt (K : PySem.W.Frag) (H : Hp) (k : NestedKey) (b : Addr) : Prop := Dp K H (.ref b) k.data ∧ k.depth ≤ 8
structure NDict (P : Program) (w : World) (K : PySem.W.Frag) (H : Hp) (a : Addr) (vs : List NRow) : Prop where
  at' : H a = some (nestO P w a vs)
  keys : ∀ x ∈ vs, KeyAt K H x.1 x.2.1
section
variable {X : Cx} {pins : List (Addr × Obj)} {σ : L2.St} {H : Hp} {s : Shared} {a b : Addr} {vs : List NRow} {k : NestedKey} {v : V} {A : Around} {E : Value → Shared → Prop}
theorem KeyAt.is (I : Inv X pins σ H s) (h : KeyAt X.K H k b) : (nestedKind X.prog X.w).is s.heap k b := by
  obtain ⟨as, r⟩ := Dp.reads I _ _ _ h.1 (show RelV (.ref b) (.ref b) from rfl)
  exact ⟨nested_of_reads k _ _ r, h.2⟩
theorem NDict.of (I : Inv X pins σ H s) (g : NDict X.prog X.w X.K H a vs) : vs.length ≤ sizeLine ∧ (a == sysModules) = false ∧ ∃ ys, NR vs ys ∧ s.heap.DictOfH (nestedKind X.prog X.w) a ys := by
  obtain ⟨x, _, _⟩ := (show ObjOk X.prog X.w H s.heap a (nestO X.prog X.w a vs) from I.hok a _ g.at')
  obtain ⟨z, y, ys, r, o, es, ep, e1, e2, e3, e4, e5⟩ := x
  refine ⟨z, y, ys, r, o, es, ep, e1, e2, e3, e4, ?_, e5⟩
  have all : ∀ {l : List NRow} {m : List (NestedKey × Addr × Value)}, NR l m → (∀ x ∈ l, KeyAt X.K H x.1 x.2.1) → ∀ x ∈ m, (nestedKind X.prog X.w).is s.heap x.1 x.2.1 := by
    intro l m q
    induction q with
    | nil => intro _ x hx; exact nomatch hx
    | @cons p q ps qs hq t ih =>
      intro hall x hx
      rcases List.mem_cons.mp hx with e | hx
      · subst e
        rw [← hq.1, ← hq.2.1]
        exact (hall p (by simp)).is I
      · exact ih (fun y hy => hall y (List.mem_cons_of_mem _ hy)) x hx
  exact all r g.keys
theorem nroom (hu : A.units + 9 < cLine) : (nestedKind X.prog X.w).room A.in1 := by
  show A.units + 1 + 8 < cLine
  omega
theorem n_getItem {Q : Value → Shared → Prop} (hu : A.units + 9 < cLine) (I : Inv X pins σ H s) (g : NDict X.prog X.w X.K H a vs) (hk : KeyAt X.K H k b) (l : atN vs k = some v) (h : ∀ w' s', Inv X pins σ H s' → RelV v w' → Q w' s') :
    wpAny (model X.prog X.w) A (getItem (.ref a) (.ref b)) Q E s := by
  obtain ⟨z, hd, ys, r, dd⟩ := g.of I
  obtain ⟨w', hw, rw'⟩ := RelO.some_of (v := v) (o := (atKey ys k).map (·.2)) (by rw [← l]; exact r.at k)
  obtain ⟨p, hp, hp2⟩ := Option.map_eq_some_iff.mp hw
  refine wpAny_getItem_heap (nroom hu) (hk.is I) dd hp ?_
  rw [hp2]
  exact h w' _ (I.tok _) rw'
theorem n_in {Q : Value → Shared → Prop} (hu : A.units + 9 < cLine) (I : Inv X pins σ H s) (g : NDict X.prog X.w X.K H a vs) (hk : KeyAt X.K H k b) (h : ∀ s', Inv X pins σ H s' → Q (.bool (atN vs k).isSome) s') :
    wpAny (model X.prog X.w) A (compareOp .In (.ref b) (.ref a)) Q E s := by
  obtain ⟨z, hd, ys, r, dd⟩ := g.of I
  refine wpAny_in_heap (nroom hu) (hk.is I) hd dd ?_
  have q := (r.at k).isSome_eq
  rw [Option.isSome_map] at q
  rw [← q]
  exact h _ (I.tok _)
theorem n_notIn {Q : Value → Shared → Prop} (hu : A.units + 9 < cLine) (I : Inv X pins σ H s) (g : NDict X.prog X.w X.K H a vs) (hk : KeyAt X.K H k b) (h : ∀ s', Inv X pins σ H s' → Q (.bool (!(atN vs k).isSome)) s') :
    wpAny (model X.prog X.w) A (compareOp .NotIn (.ref b) (.ref a)) Q E s := by
  obtain ⟨z, hd, ys, r, dd⟩ := g.of I
  refine wpAny_notIn_heap (nroom hu) (hk.is I) hd dd ?_
  have q := (r.at k).isSome_eq
  rw [Option.isSome_map] at q
  rw [← q]
  exact h _ (I.tok _)
theorem n_getOr {r : Value} {vd : V} {Q : Value → Shared → Prop} (hu : A.units + 9 < cLine) (I : Inv X pins σ H s) (g : NDict X.prog X.w X.K H a vs) (hk : KeyAt X.K H k b) (rd : RelV vd r) (h : ∀ w' s', Inv X pins σ H s' → RelV ((atN vs k).getD vd) w' → Q w' s') :
    wpAny (model X.prog X.w) A (call (.builtin "dict.get") [.ref a, .ref b, r]) Q E s := by
  obtain ⟨z, hd, ys, rr, dd⟩ := g.of I
  refine getOr_keyed (nroom hu) (hk.is I) hd ⟨ys, dd, rfl⟩ ?_
  rw [valueAt_pairsH]
  exact h _ _ (I.tok _) ((rr.at k).getD rd)
theorem n_setItem {r : Value} {Q : Unit → Shared → Prop} (hu : A.units + 9 < cLine) (I : Inv X pins σ H s) (g : NDict X.prog X.w X.K H a vs) (hk : KeyAt X.K H k b) (hl : vs.length < sizeLine) (rv : RelV v r) (h : ∀ s', Inv X pins σ (upd H a (nestO X.prog X.w a (putN vs k b v))) s' → Q () s') :
    wpAny (model X.prog X.w) A (setItem (.ref a) (.ref b) r) Q E s := by
  obtain ⟨z, hd, ys, rr, dd⟩ := g.of I
  have hz : ys.length ≤ sizeLine := by rw [← Paired.length rr]; exact z
  have hl2 : (putN vs k b v).length ≤ sizeLine := by have := putN_len vs k b v; omega
  refine wpAny_setItem_heap (hsz := hz) (nroom hu) (hk.is I) dd fun h' dd' hs => h _ ?_
  obtain ⟨q, es, ep, hq, h2, h3, h4, _, h5⟩ := dd'
  exact d_write I (by rw [g.at']; exact True.intro) hs ⟨q, hq⟩ (nestφ.ok ⟨hl2, hd, _, rr.put k rv, q, es, ep, hq, h2, h3, h4, h5⟩)
theorem n_typeIs (I : Inv X pins σ H s) (g : NDict X.prog X.w X.K H a vs) : s.TypeIs (.ref a) "dict" := by
  obtain ⟨z, hd, ys, r, dd⟩ := g.of I
  exact dd.typeIs
end
/-- {}, to be such a dict -/
def tDNewN (P : Program) (w : World) : TE := fun _ H Q => ∀ p, H p = none → Q (.ref p) (upd H p (nestO P w p []))
theorem nest_empty {P : Program} {w : World} {H : Hp} (h : Heap) (hb : sysModules < h.objs.size) : ObjOk P w H (h.push { cls := .type "dict", data := .dict #[] }) h.objs.size (nestO P w h.objs.size []) :=
  nestφ.ok ⟨Nat.zero_le _, beq_eq_false_iff_ne.mpr (Ne.symm (Nat.ne_of_lt hb)), [], .nil, _, #[], 0, Heap.get?_push_size _ rfl, ⟨rfl, rfl, rfl⟩, rfl, rfl, List.nodup_nil⟩
section
variable {X : Cx} {pos : Pos}
theorem pe_dnewN : PE X (.Dict [] [] pos) (tDNewN X.prog X.w) := ⟨fun pins s σ H Q I h =>
  wpAny_Dict_empty ⟨.ref s.heap.objs.size, _, I.laid (a := s.heap.objs.size) (o := nestO X.prog X.w s.heap.objs.size []) (t' := s.toks) (fun _ _ q => Heap.get?_push_of_some _ q) (Nat.le_refl _) (nest_empty s.heap I.big), rfl, h _ (I.hok.fresh (Nat.le_refl _))⟩⟩
end
/-! rules -/
def tNGet (P : Program) (w : World) (K : PySem.W.Frag) (td ty : TE) : TE := fun σ H Q => td σ H fun x H1 => ty σ H1 fun y H2 => ∃ a b vs k v, x = .ref a ∧ y = .ref b ∧ NDict P w K H2 a vs ∧ KeyAt K H2 k b ∧ atN vs k = some v ∧ Q v H2
def tNIn (P : Program) (w : World) (K : PySem.W.Frag) (neg : Bool) (ty td : TE) : TE := fun σ H Q => ty σ H fun y H1 => td σ H1 fun x H2 => ∃ a b vs k, x = .ref a ∧ y = .ref b ∧ NDict P w K H2 a vs ∧ KeyAt K H2 k b ∧ Q (.bl (if neg = true then !(atN vs k).isSome else (atN vs k).isSome)) H2
def sNPut (P : Program) (w : World) (K : PySem.W.Frag) (td ty tv : TE) : TS := fun D σ H => tv σ H fun v H1 => td σ H1 fun x H2 => ty σ H2 fun y H3 => ∃ a b vs k, x = .ref a ∧ y = .ref b ∧ NDict P w K H3 a vs ∧ KeyAt K H3 k b ∧ vs.length < sizeLine ∧ D.nx σ (upd H3 a (nestO P w a (putN vs k b v)))
section
variable {X : Cx} {o i e value : Expr} {pos pos' tpos : Pos} {td ty tv : TE}
theorem pe_nget (hu : X.A.units + 9 < cLine) (ho : PE X o td) (hi : PE X i ty) (hs : NoSl i) : PE X (.Subscript o i pos) (tNGet X.prog X.w X.K td ty) := by
  refine ⟨fun pins s σ H Q I h => ?_⟩
  refine subD_of PySem.F.slot_dict_getitem.lookup hs (thn (ho.run pins s σ H _ I h) fun u s1 ⟨x, H1, I1, rx, q1⟩ => thn (hi.run pins s1 σ H1 _ I1 q1) fun iv s2 ⟨y, H2, I2, ry, a, b, vs, k, v, ex, ey, g, hk, l, q2⟩ => ?_)
  subst ex ey
  obtain rfl : u = Value.ref a := rx
  obtain rfl : iv = Value.ref b := ry
  exact ⟨n_typeIs I2 g, n_getItem hu I2 g hk l fun w' s3 I3 rw' => ⟨v, H2, I3, rw', q2⟩⟩
theorem pc_nin (hu : X.A.units + 9 < cLine) (hi : PE X i ty) (ho : PE X o td) : PC X .In i o (tNIn X.prog X.w X.K false ty td) := by
  refine ⟨fun pins s σ H Q I h => ?_⟩
  refine thn (hi.run pins s σ H _ I h) fun iv s1 ⟨y, H1, I1, ry, q1⟩ => thn (ho.run pins s1 σ H1 _ I1 q1) fun u s2 ⟨x, H2, I2, rx, a, b, vs, k, ex, ey, g, hk, q2⟩ => ?_
  subst ex ey
  obtain rfl : u = Value.ref a := rx
  obtain rfl : iv = Value.ref b := ry
  exact n_in hu I2 g hk fun s3 I3 => ⟨.bl (atN vs k).isSome, H2, I3, rfl, q2⟩
theorem pc_nnotin (hu : X.A.units + 9 < cLine) (hi : PE X i ty) (ho : PE X o td) : PC X .NotIn i o (tNIn X.prog X.w X.K true ty td) := by
  refine ⟨fun pins s σ H Q I h => ?_⟩
  refine thn (hi.run pins s σ H _ I h) fun iv s1 ⟨y, H1, I1, ry, q1⟩ => thn (ho.run pins s1 σ H1 _ I1 q1) fun u s2 ⟨x, H2, I2, rx, a, b, vs, k, ex, ey, g, hk, q2⟩ => ?_
  subst ex ey
  obtain rfl : u = Value.ref a := rx
  obtain rfl : iv = Value.ref b := ry
  exact n_notIn hu I2 g hk fun s3 I3 => ⟨.bl (!(atN vs k).isSome), H2, I3, rfl, q2⟩
theorem ps_nput (hu : X.A.units + 9 < cLine) (ho : PE X o td) (hi : PE X i ty) (hv : PE X value tv) (hs : swapsWith value (some (.Subscript o i pos')) pos.line X.env = pure false) :
    PS X (.Assign [.Subscript o i pos'] value pos) (sNPut X.prog X.w X.K td ty tv) := by
  refine ⟨fun pins s σ H D I h => ?_⟩
  refine wpAny_Assign_Subscript (thn (hv.run pins s σ H _ I h) fun r s1 ⟨v, H1, I1, rv, q1⟩ => thn (ho.run pins s1 σ H1 _ I1 q1) fun u s2 ⟨x, H2, I2, rx, q2⟩ => thn (hi.run pins s2 σ H2 _ I2 q2) fun iv s3 ⟨y, H3, I3, ry, a, b, vs, k, ex, ey, g, hk, hl, q3⟩ => ?_) hs
  subst ex ey
  obtain rfl : u = Value.ref a := rx
  obtain rfl : iv = Value.ref b := ry
  exact n_setItem hu I3 g hk hl rv fun s4 I4 => ⟨σ, _, I4, q3⟩
end
def tNGetOr (P : Program) (w : World) (K : PySem.W.Frag) (td ty tx : TE) : TE := fun σ H Q => td σ H fun x H1 => ∃ a vs, x = .ref a ∧ NDict P w K H1 a vs ∧ ty σ H1 fun y H2 => tx σ H2 fun z H3 => ∃ b vs' k, y = .ref b ∧ NDict P w K H3 a vs' ∧ KeyAt K H3 k b ∧ Q ((atN vs' k).getD z) H3
section
variable {X : Cx} {o e f : Expr} {apos cpos : Pos} {td ty tx : TE}
theorem pe_ngetor (hu : X.A.units + 9 < cLine) (ho : PE X o td) (he : PE X e ty) (hf : PE X f tx) (m : M2 X o "get" apos e f cpos) : PE X (.Call (.Attribute o "get" apos) [e, f] [] cpos) (tNGetOr X.prog X.w X.K td ty tx) := by
  refine ⟨fun pins s σ H Q I h => ?_⟩
  refine wpAny_Call_method m.base m.few m.line PySem.F.plainAttrs_dict PySem.F.slot_dict_get PySem.F.type_dict_get (thn (ho.run pins s σ H _ I h) fun u s1 ⟨x, H1, I1, rx, a, vs, ex, d, q1⟩ => ?_)
  subst ex
  obtain rfl : u = Value.ref a := rx
  obtain ⟨_, _, _, _, ob, _, _, hob, hx, _⟩ := d.of I1
  refine ⟨n_typeIs I1 d, (fun b q => by cases q; exact ⟨ob, hob, hx.2.1⟩), ?_⟩
  rw [m.trees]
  refine Calls.callWith_builtin rfl (Calls.evalArgs_plain (Calls.spliced_cons (thn (he.run pins s1 σ H1 _ I1 q1) fun iv s2 ⟨y, H2, I2, ry, q2⟩ =>
    Calls.spliced_cons (thn (hf.run pins s2 σ H2 _ I2 q2) fun fv s3 ⟨z, H3, I3, rz, b, vs', k, ey, g, hk, q3⟩ => Calls.spliced_nil ?_))))
  subst ey
  obtain rfl : iv = Value.ref b := ry
  exact n_getOr hu I3 g hk rz fun w' s4 I4 rw' => ⟨_, H3, I4, rw', q3⟩
end
end PM
set_option maxHeartbeats 1000000
/-! PN2: list(reversed(a list)). -/
namespace PM
open PySem PySem.Spec PyProof.Rows
section
variable {prog : Program} {w : World} {A : Around} {E : Value → Shared → Prop} {s : Shared} {R : Result → Shared → Prop}
theorem extend_rev {it l : Addr} {items : Array Value} (hh : A.handled = none) (hit : s.heap.IsRevIter it l ((items.size : Int) - 1)) (hl : s.heap.IsList l items) (hne : l ≠ it) (hn : items.size ≤ sizeLine)
    (S : Addr) (res : Value) (c₀ : Nat) (hSi : S ≠ it) (hSl : S ≠ l) (hS : s.heap.get? S = some { cls := .type "list", data := .seq #[] c₀ })
    (hR : ∀ h' tk acc' c', (∀ b o, b ≠ S → b ≠ it → s.heap.get? b = some o → h'.get? b = some o) → h'.get? S = some { cls := .type "list", dict := none, data := .seq acc' c', slots := #[] } →
      ItemsOf (fun i v => items[items.size - 1 - i]? = some v) acc' items.size → R (.ok (.ret res)) { s with heap := h', toks := tk }) :
    wpAny (model prog w) A.in1 (Builtin.List.listExtendWith (.ref S) (.ref it) res)
      (fun fin s' => match fin with | .done f => R (.ok f) s' | .again c' => c'.quiet = true ∧ codeAny (model prog w) A c' R s') (fun e s' => R (.error e) s') s := by
  have W := (Walks.listRev (prog := prog) (w := w) (A := A.in1) hh it l hne items).toS
  have hSf : S ∉ [it, l] := by simp only [List.mem_cons, List.not_mem_nil, or_false, not_or]; exact ⟨hSi, hSl⟩
  have hT : s.TypeIs (.ref it) "list_reverseiterator" := hit.typeIs
  have h1 : Builtin.List.listSameRef (.ref S) (.ref it) = false := by simp [Builtin.List.listSameRef, hSi]
  unfold Builtin.List.listExtendWith
  refine wpAny_bind (wpAny_typeOf hT ?_)
  rw [if_neg (by rw [h1]; decide)]
  refine wpAny_bind (wpAny_pyIter_revIter hit ?_)
  refine wpAny_bind (wpAny_holding ?_)
  unfold Builtin.List.listLengthHint
  refine wpAny_bind (wpAny_specialOf hT RT.nolen_lri ?_)
  show wpAny _ A.in1 (specialOf (Value.ref it) (Str.ofString "__length_hint__") >>= _) _ _ _
  refine wpAny_bind (wpAny_specialOf hT RT.hint_lri ?_)
  generalize hid : ("list_reverseiterator.__length_hint__" : String) = id0
  wp_delta
  rw [show splitId id0 = some ("list_reverseiterator", "__length_hint__") from by subst hid; decide +kernel]
  subst hid
  refine wpAny_bind (wpAny_isInstance (b := true) hT (by rw [isSubtype_type]; kernel_rfl) ?_)
  refine wpAny_pure ?_
  rw [if_neg (by decide)]
  have e0 : ((items.size : Nat) : Int) - 1 - ((0 : Nat) : Int) = (items.size : Int) - 1 := by omega
  refine wpAny_pure ⟨plainId_quiet F.plain_extend_loop _, codeAny_extend_loopS W hn _ hSf _ items.size 0 _ _ _ rfl (Nat.zero_le _) ⟨Nat.zero_le _, by rw [e0]; exact hit, hl⟩ hS (ItemsOf.nil _) fun s' acc' c' hm hS' hacc => ?_⟩
  rw [Moved.eq_with hm]
  refine hR s'.heap s'.toks acc' c' (fun b o hb hb2 e => hm.heap b o (fun hmem => ?_) e) hS' hacc
  rcases List.mem_cons.mp hmem with e' | hmem
  · exact hb e'
  · exact hb2 (List.mem_singleton.mp hmem)
theorem init_rev {it l : Addr} {items : Array Value} (hh : A.handled = none) (hit : s.heap.IsRevIter it l ((items.size : Int) - 1)) (hl : s.heap.IsList l items) (hne : l ≠ it) (hn : items.size ≤ sizeLine)
    (S : Addr) (hSi : S ≠ it) (hSl : S ≠ l) (hS : s.heap.get? S = some { cls := .type "list", data := .seq #[] })
    (hR : ∀ h' tk acc' c', (∀ b o, b ≠ S → b ≠ it → s.heap.get? b = some o → h'.get? b = some o) → h'.get? S = some { cls := .type "list", dict := none, data := .seq acc' c', slots := #[] } →
      ItemsOf (fun i v => items[items.size - 1 - i]? = some v) acc' items.size → R (.ok (.ret .none)) { s with heap := h', toks := tk }) :
    wpAny (model prog w) A.in1 (Builtin.«list.__init__» ⟨[.ref S, .ref it], []⟩)
      (fun fin s' => match fin with | .done f => R (.ok f) s' | .again c' => c'.quiet = true ∧ codeAny (model prog w) A c' R s') (fun e s' => R (.error e) s') s := by
  show wpAny _ _ (do let old ← Builtin.List.listItems (.ref S); Builtin.List.listUpdate (.ref S) (fun _ => #[]); letGo old.toList.reverse; Builtin.List.listExtendWith (.ref S) (.ref it) .none) _ _ s
  refine wpAny_bind ?_
  unfold Builtin.List.listItems
  refine wpAny_bind (wpAny_seqItems hS rfl (wpAny_pure ?_))
  show wpAny _ _ (updateSeq S (fun _ => #[]) >>= fun _ => letGo (#[] : Array Value).toList.reverse >>= fun _ => Builtin.List.listExtendWith (.ref S) (.ref it) .none) _ _ s
  refine wpAny_bind (wpAny_updateSeq hS rfl ?_)
  have hS₂ := Heap.get?_update_self (Obj.mapSeq (fun _ => (#[] : Array Value))) hS rfl
  have oth : ∀ b o, b ≠ S → s.heap.get? b = some o → (s.heap.update S (Obj.mapSeq (fun _ => (#[] : Array Value)))).get? b = some o :=
    fun b o hb e => (Heap.get?_update_other _ _ (Ne.symm hb)).trans e
  refine wpAny_bind (wpAny_letGo ?_)
  obtain ⟨ol, hol, hc, hd⟩ := id hl
  refine extend_rev (s := { s with heap := s.heap.update S (Obj.mapSeq (fun _ => (#[] : Array Value))) }) hh (hit.at fun o e => oth it o (Ne.symm hSi) e) ⟨ol, oth l _ (Ne.symm hSl) hol, hc, hd⟩ hne hn S .none _ hSi hSl hS₂ fun h' tk acc' c' hk hS' hacc => ?_
  exact hR h' tk acc' c' (fun b o hb hb2 e => hk b o hb hb2 (oth b o hb e)) hS' hacc
theorem call_list_rev {Q : Value → Shared → Prop} {it l : Addr} {items : Array Value} (hh : A.handled = none) (hit : s.heap.IsRevIter it l ((items.size : Int) - 1)) (hl : s.heap.IsList l items) (hne : l ≠ it) (hn : items.size ≤ sizeLine)
    (hQ : ∀ h' tk acc' c', (∀ b o, b ≠ it → s.heap.get? b = some o → h'.get? b = some o) →
      h'.get? s.heap.objs.size = some { cls := .type "list", dict := none, data := .seq acc' c', slots := #[] } → ItemsOf (fun i v => items[items.size - 1 - i]? = some v) acc' items.size → Q (.ref s.heap.objs.size) { s with heap := h', toks := tk }) :
    wpAny (model prog w) A (call (.type "list") [.ref it]) Q E s := by
  refine callType_codes (Q₁ := fun obj s₁ => obj = .ref s.heap.objs.size ∧ s₁ = { s with heap := s.heap.push { cls := .type "list", data := .seq #[] } }) F.called_list (F.typeCall_list_1 _) F.entry_list_init
    (code_list_new _ ⟨rfl, rfl⟩) fun obj s₁ h₁ => ?_
  obtain ⟨rfl, rfl⟩ := h₁
  obtain ⟨oi, hoi, _⟩ := id hit
  obtain ⟨ol, hol, _⟩ := id hl
  have hSi : s.heap.objs.size ≠ it := Nat.ne_of_gt (Heap.lt_size hoi)
  have hSl : s.heap.objs.size ≠ l := Nat.ne_of_gt (Heap.lt_size hol)
  have hS : (s.heap.push { cls := .type "list", data := .seq #[] }).get? s.heap.objs.size = some { cls := .type "list", data := .seq #[] } := Heap.get?_push_size _ rfl
  refine ⟨⟨_, hS, rfl⟩, F.args_list_init_2 _ _, init_rev (A := A.in1) (s := { s with heap := s.heap.push { cls := .type "list", data := .seq #[] } }) hh (hit.at fun o e => Heap.get?_push_of_some _ e) (hl.push _) hne hn _ hSi hSl hS fun h' tk acc' c' hk hS' hacc => ?_⟩
  exact ⟨rfl, hQ h' tk acc' c' (fun b o hb e => hk b o (Nat.ne_of_lt (Heap.lt_size e)) hb (Heap.get?_push_of_some _ e)) hS' hacc⟩
end
end PM
namespace PM
open PySem PySem.Spec PyProof.Rows L2
/-- list(reversed(x)), x a list: a new list -/
def tLstRev (K : PySem.W.Frag) (te : TE) : TE := fun σ H Q => te σ H fun v H1 => ∃ (a : Addr) (xs : List V), v = .ref a ∧ SqL K H1 a xs ∧ ∀ q, H1 q = none → Q (.ref q) (upd H1 q (.lst xs.reverse))
section
variable {X : Cx}
theorem pe_lstRev {e : Expr} {te : TE} {p p2 pos pos2 : Pos} (hc : X.calm = true) (hg : Gl X "list") (hm : X.mg "list" = none) (hg2 : Gl X "reversed") (hm2 : X.mg "reversed" = none) (he : PE X e te)
    (hs : starEach [e] X.env = (false, eval e X.env) :: starEach [] X.env := by rfl)
    (hs2 : starEach [.Call (.Name "reversed" p2) [e] [] pos2] X.env = (false, eval (.Call (.Name "reversed" p2) [e] [] pos2) X.env) :: starEach [] X.env := by rfl) :
    PE X (.Call (.Name "list" p) [.Call (.Name "reversed" p2) [e] [] pos2] [] pos) (tLstRev X.K te) := by
  refine ⟨fun pins s σ H Q I h => ?_⟩
  refine Call_ (ld_blt I hg hm boot_list (PyProof.Rows.callWith_type1 (args_cons (Call_ (ld_blt I hg2 hm2 PyProof.Rows.boot_reversed (PyProof.Rows.callWith_type1 (args_cons (thn (he.run pins s σ H _ I h) fun u s1 ⟨v, H1, I1, r1, q1⟩ => args_nil ?_) hs) hs rfl))) hs2) hs2))
  obtain ⟨a, xs, ev, hq, q⟩ := q1
  subst ev
  obtain rfl : u = Value.ref a := r1
  obtain ⟨its, rv, p', hz⟩ := I1.list hq
  refine call_reversed_list p'.isList (args_nil ?_)
  have k0 : ∀ b o, s1.heap.get? b = some o → (s1.heap.push (revObj a ((its.toArray.size : Int) - 1))).get? b = some o := fun b o e => Heap.get?_push_of_some _ e
  have I2 : Inv X pins σ H1 { s1 with heap := s1.heap.push (revObj a ((its.toArray.size : Int) - 1)) } := I1.kept (t' := s1.toks) k0
  obtain ⟨f0, f1, f2, f3, f4, f5⟩ := I1.fpOk (H' := H1) (b := s1.heap.objs.size) (Nat.le_refl _) (I1.hok.fresh (Nat.le_refl _))
  have hl := p'.isList
  obtain ⟨ol, hol, _⟩ := id hl
  have hne : a ≠ s1.heap.objs.size := Nat.ne_of_lt (Heap.lt_size hol)
  have hn : its.toArray.size ≤ sizeLine := by rw [List.size_toArray, ← rv.length]; exact hz
  refine call_list_rev (s := { s1 with heap := s1.heap.push (revObj a ((its.toArray.size : Int) - 1)) }) (I1.ok.hd hc) ⟨_, Heap.get?_push_size _ rfl, rfl, rfl⟩ (hl.push _) hne hn fun h' tk acc c' hk e' hi => ?_
  have hsz : s1.heap.objs.size ≤ (s1.heap.push (revObj a ((its.toArray.size : Int) - 1))).objs.size := by simp [Heap.push]
  refine ⟨.ref (s1.heap.push (revObj a ((its.toArray.size : Int) - 1))).objs.size, upd H1 (s1.heap.push (revObj a ((its.toArray.size : Int) - 1))).objs.size (.lst xs.reverse),
    I1.laid (t' := tk) (fun b o e => hk b o (Nat.ne_of_lt (Heap.lt_size e)) (k0 b o e)) hsz (show ObjOk X.prog X.w _ _ _ (.lst xs.reverse) from ⟨by rw [List.length_reverse]; exact hz, acc.toList, c', RT.vals_rev rv hi, ?_⟩), rfl, q _ (I2.hok.fresh (Nat.le_refl _))⟩
  rw [Array.toArray_toList]
  exact e'
end
end PM
/-! PM1: values as data, ownership, what a state of the machine stands for. -/
namespace PM
open PySem PySem.Spec PyProof.Rows L2

/-- data: what a value stands for -/
inductive D where
  | non | bl (b : Bool) | int (i : Int) | str (x : Str)
  | lst (xs : List D) | tup (xs : List D) | dic (kvs : List (Key × D))
  | obj (c : Nat) (fs : List (Str × D))
  | rf (n : Nat)
  | scr (ns : List Int)
  | exn (n : Nat)
  | dit (kvs : List (NestedKey × D))
  /-- a list; where it is owned, what it holds are lists that are owned too, each another -/
  | nst (xs : List D)
/-- an exception of a class, that stands at its place -/
def exnO (kind : Value) (at_ : Addr) : HO := .ext fun heap => ∃ (ob : Obj) (parts : Array Value), heap.get? at_ = some ob ∧ Zc kind none ob ∧ ob.data = .fields parts

inductive Lab where
  | slot (i : Nat) | cell (n : Nat) | fld (n k : Nat)
def Lab.st : Lab → Bool
  | .slot _ => false
  | _ => true

/-- the ghost: what is frozen, who owns what, where the store's objects stand -/
structure Gh where
  Z : Hp
  lab : Addr → Option Lab
  mu : List Addr
  me : Option V := none

mutual
inductive Rep (K : PySem.W.Frag) (cl : ClsP) (mu : List Addr) (Z : Hp) : V → D → Prop
  | non : Rep K cl mu Z .non .non
  | bl (b : Bool) : Rep K cl mu Z (.bl b) (.bl b)
  | int (i : Int) : Rep K cl mu Z (.int i) (.int i)
  | str (x : Str) : Rep K cl mu Z (.str x) (.str x)
  | lst {a : Addr} {vs : List V} {ds : List D} : Z a = some (.lst vs) → RepAll K cl mu Z vs ds → Rep K cl mu Z (.ref a) (.lst ds)
  | tup {a : Addr} {vs : List V} {ds : List D} : SqT K Z a vs → RepAll K cl mu Z vs ds → Rep K cl mu Z (.ref a) (.tup ds)
  | dic {a : Addr} {vs : List (Key × V)} {ds : List (Key × D)} : Z a = some (.dK vs) → RepK K cl mu Z vs ds → Rep K cl mu Z (.ref a) (.dic ds)
  | obj {a dx : Addr} {c : Nat} {vs : List (Str × V)} {ds : List (Str × D)} : Z a = some (.ins (cl c) dx vs) → Z dx = some (.own a) → RepF K cl mu Z vs ds → Rep K cl mu Z (.ref a) (.obj c ds)
  | rf {n : Nat} {a : Addr} : mu[n]? = some a → Rep K cl mu Z (.ref a) (.rf n)
  | scr {a : Addr} {ns : List Int} : SqL K Z a (ns.map V.int) → Rep K cl mu Z (.ref a) (.scr ns)
  | exn {a : Addr} {n : Nat} : Z a = some (exnO (.ref (cl n)) a) → Rep K cl mu Z (.ref a) (.exn n)
  | dit {a : Addr} {vs : List NRow} {ds : List (NestedKey × D)} : Z a = some (nestO cl.P cl.w a vs) → RepN K cl mu Z vs ds → Rep K cl mu Z (.ref a) (.dit ds)
  | nst {a : Addr} {vs : List V} {ds : List D} : Z a = some (.lst vs) → RepAll K cl mu Z vs ds → Rep K cl mu Z (.ref a) (.nst ds)
inductive RepAll (K : PySem.W.Frag) (cl : ClsP) (mu : List Addr) (Z : Hp) : List V → List D → Prop
  | nil : RepAll K cl mu Z [] []
  | cons {v : V} {vs : List V} {d : D} {ds : List D} : Rep K cl mu Z v d → RepAll K cl mu Z vs ds → RepAll K cl mu Z (v :: vs) (d :: ds)
inductive RepK (K : PySem.W.Frag) (cl : ClsP) (mu : List Addr) (Z : Hp) : List (Key × V) → List (Key × D) → Prop
  | nil : RepK K cl mu Z [] []
  | cons {k : Key} {v : V} {vs : List (Key × V)} {d : D} {ds : List (Key × D)} : Rep K cl mu Z v d → RepK K cl mu Z vs ds → RepK K cl mu Z ((k, v) :: vs) ((k, d) :: ds)
inductive RepN (K : PySem.W.Frag) (cl : ClsP) (mu : List Addr) (Z : Hp) : List NRow → List (NestedKey × D) → Prop
  | nil : RepN K cl mu Z [] []
  | cons {k : NestedKey} {b : Addr} {v : V} {vs : List NRow} {d : D} {ds : List (NestedKey × D)} : KeyAt K Z k b → Rep K cl mu Z v d → RepN K cl mu Z vs ds → RepN K cl mu Z ((k, b, v) :: vs) ((k, d) :: ds)
inductive RepF (K : PySem.W.Frag) (cl : ClsP) (mu : List Addr) (Z : Hp) : List (Str × V) → List (Str × D) → Prop
  | nil : RepF K cl mu Z [] []
  | cons {k : Str} {v : V} {vs : List (Str × V)} {d : D} {ds : List (Str × D)} : Rep K cl mu Z v d → RepF K cl mu Z vs ds → RepF K cl mu Z ((k, v) :: vs) ((k, d) :: ds)
end

section
variable {K : PySem.W.Frag} {cl : ClsP} {mu mu' : List Addr} {Z Z' : Hp}
theorem sameT {H H' : Hp} {a : Addr} {xs : List V} (e : Same H H') (h : SqT K H a xs) : SqT K H' a xs := by
  rcases h with (h | ⟨o, h⟩) | h
  · exact .inl (.inl (e _ _ h))
  · exact .inl (.inr ⟨o, e _ _ h⟩)
  · exact .inr h
mutual
theorem Rep.mono (hz : Same Z Z') (hm : ∃ t, mu' = mu ++ t) : ∀ (d : D) (v : V), Rep K cl mu Z v d → Rep K cl mu' Z' v d
  | .non, _, h => by cases h; exact .non
  | .bl _, _, h => by cases h; exact .bl _
  | .int _, _, h => by cases h; exact .int _
  | .str _, _, h => by cases h; exact .str _
  | .lst ds, _, h => by
    cases h with
    | lst hs ha => exact .lst (hz _ _ hs) (RepAll.mono hz hm ds _ ha)
  | .tup ds, _, h => by
    cases h with
    | tup hs ha => exact .tup (sameT hz hs) (RepAll.mono hz hm ds _ ha)
  | .dic ds, _, h => by
    cases h with
    | dic hs ha => exact .dic (hz _ _ hs) (RepK.mono hz hm ds _ ha)
  | .obj c ds, _, h => by
    cases h with
    | obj hs hx ha => exact .obj (hz _ _ hs) (hz _ _ hx) (RepF.mono hz hm ds _ ha)
  | .rf n, _, h => by
    cases h with
    | rf e =>
      obtain ⟨t, rfl⟩ := hm
      exact .rf (by rw [List.getElem?_append_left (List.getElem?_eq_some_iff.mp e).1]; exact e)
  | .scr ns, _, h => by
    cases h with
    | scr hs => exact .scr (hz.seq hs)
  | .exn n, _, h => by
    cases h with
    | exn hs => exact .exn (hz _ _ hs)
  | .dit ds, _, h => by
    cases h with
    | dit hs ha => exact .dit (hz _ _ hs) (RepN.mono hz hm ds _ ha)
  | .nst ds, _, h => by
    cases h with
    | nst hs ha => exact .nst (hz _ _ hs) (RepAll.mono hz hm ds _ ha)
theorem RepAll.mono (hz : Same Z Z') (hm : ∃ t, mu' = mu ++ t) : ∀ (ds : List D) (vs : List V), RepAll K cl mu Z vs ds → RepAll K cl mu' Z' vs ds
  | [], _, h => by cases h; exact .nil
  | d :: ds, _, h => by
    cases h with
    | cons h1 h2 => exact .cons (Rep.mono hz hm d _ h1) (RepAll.mono hz hm ds _ h2)
theorem RepK.mono (hz : Same Z Z') (hm : ∃ t, mu' = mu ++ t) : ∀ (ds : List (Key × D)) (vs : List (Key × V)), RepK K cl mu Z vs ds → RepK K cl mu' Z' vs ds
  | [], _, h => by cases h; exact .nil
  | (k, d) :: ds, _, h => by
    cases h with
    | cons h1 h2 => exact .cons (Rep.mono hz hm d _ h1) (RepK.mono hz hm ds _ h2)
theorem RepN.mono (hz : Same Z Z') (hm : ∃ t, mu' = mu ++ t) : ∀ (ds : List (NestedKey × D)) (vs : List NRow), RepN K cl mu Z vs ds → RepN K cl mu' Z' vs ds
  | [], _, h => by cases h; exact .nil
  | (k, d) :: ds, _, h => by
    cases h with
    | cons h0 h1 h2 => exact .cons (KeyAt.mono' hz h0) (Rep.mono hz hm d _ h1) (RepN.mono hz hm ds _ h2)
theorem RepF.mono (hz : Same Z Z') (hm : ∃ t, mu' = mu ++ t) : ∀ (ds : List (Str × D)) (vs : List (Str × V)), RepF K cl mu Z vs ds → RepF K cl mu' Z' vs ds
  | [], _, h => by cases h; exact .nil
  | (k, d) :: ds, _, h => by
    cases h with
    | cons h1 h2 => exact .cons (Rep.mono hz hm d _ h1) (RepF.mono hz hm ds _ h2)
end
theorem RepAll.length : ∀ {vs : List V} {ds : List D}, RepAll K cl mu Z vs ds → vs.length = ds.length
  | _, _, .nil => rfl
  | _, _, .cons _ t => congrArg (· + 1) (RepAll.length t)
theorem RepAll.get : ∀ {vs : List V} {ds : List D} {i : Nat} {d : D}, RepAll K cl mu Z vs ds → ds[i]? = some d → ∃ v, vs[i]? = some v ∧ Rep K cl mu Z v d
  | _, _, _, _, .nil, e => by simp at e
  | _, _, 0, _, .cons r _, e => by simp at e; subst e; exact ⟨_, rfl, r⟩
  | _, _, i + 1, d, .cons _ t, e => by
    obtain ⟨v, h1, h2⟩ := RepAll.get (i := i) (d := d) t (by simpa using e)
    exact ⟨v, by simpa using h1, h2⟩
theorem RepAll.getV : ∀ {vs : List V} {ds : List D} {i : Nat} {v : V}, RepAll K cl mu Z vs ds → vs[i]? = some v → ∃ d, ds[i]? = some d ∧ Rep K cl mu Z v d
  | _, _, _, _, .nil, e => by simp at e
  | _, _, 0, _, .cons r _, e => by simp at e; subst e; exact ⟨_, rfl, r⟩
  | _, _, i + 1, d, .cons _ t, e => by
    obtain ⟨v, h1, h2⟩ := RepAll.getV (i := i) t (by simpa using e)
    exact ⟨v, by simpa using h1, h2⟩
theorem RepAll.append : ∀ {vs ws : List V} {ds es : List D}, RepAll K cl mu Z vs ds → RepAll K cl mu Z ws es → RepAll K cl mu Z (vs ++ ws) (ds ++ es)
  | _, _, _, _, .nil, t => t
  | _, _, _, _, .cons r s, t => .cons r (RepAll.append s t)
theorem RepAll.take : ∀ {vs : List V} {ds : List D} (n : Nat), RepAll K cl mu Z vs ds → RepAll K cl mu Z (vs.take n) (ds.take n)
  | _, _, 0, _ => .nil
  | _, _, _ + 1, .nil => .nil
  | _, _, n + 1, .cons r t => .cons r (RepAll.take n t)
theorem RepAll.drop : ∀ {vs : List V} {ds : List D} (n : Nat), RepAll K cl mu Z vs ds → RepAll K cl mu Z (vs.drop n) (ds.drop n)
  | _, _, 0, r => r
  | _, _, _ + 1, .nil => .nil
  | _, _, n + 1, .cons _ t => RepAll.drop n t
theorem RepAll.set {v : V} {d : D} (r : Rep K cl mu Z v d) : ∀ {vs : List V} {ds : List D} (n : Nat), RepAll K cl mu Z vs ds → RepAll K cl mu Z (vs.set n v) (ds.set n d)
  | _, _, _, .nil => .nil
  | _, _, 0, .cons _ t => .cons r t
  | _, _, n + 1, .cons q t => .cons q (RepAll.set r n t)
theorem RepAll.replicate {vs : List V} {ds : List D} (h : RepAll K cl mu Z vs ds) : ∀ n : Nat, RepAll K cl mu Z (List.replicate n vs).flatten (List.replicate n ds).flatten
  | 0 => .nil
  | n + 1 => by
    rw [List.replicate_succ, List.replicate_succ, List.flatten_cons, List.flatten_cons]
    exact h.append (RepAll.replicate h n)
theorem RepAll.dropLast {vs : List V} {ds : List D} (h : RepAll K cl mu Z vs ds) : RepAll K cl mu Z vs.dropLast ds.dropLast := by
  rw [List.dropLast_eq_take, List.dropLast_eq_take, h.length]; exact h.take _
theorem RepAll.reverse {vs : List V} {ds : List D} (h : RepAll K cl mu Z vs ds) : RepAll K cl mu Z vs.reverse ds.reverse := by
  induction vs generalizing ds with
  | nil => cases h; exact .nil
  | cons v vs ih =>
    cases h with
    | cons r t =>
      rw [List.reverse_cons, List.reverse_cons]
      exact (ih t).append (.cons r .nil)
theorem RepAll.eraseIdx : ∀ {vs : List V} {ds : List D} (n : Nat), RepAll K cl mu Z vs ds → RepAll K cl mu Z (vs.eraseIdx n) (ds.eraseIdx n)
  | _, _, _, .nil => .nil
  | _, _, 0, .cons _ t => t
  | _, _, n + 1, .cons q t => .cons q (RepAll.eraseIdx n t)
theorem RepAll.ints : ∀ (ns : List Int), RepAll K cl mu Z (ns.map V.int) (ns.map D.int)
  | [] => .nil
  | n :: r => .cons (.int n) (RepAll.ints r)
theorem RepAll.strs : ∀ (ns : List Str), RepAll K cl mu Z (ns.map V.str) (ns.map D.str)
  | [] => .nil
  | n :: r => .cons (.str n) (RepAll.strs r)
theorem RepF.lookup {f : Str} : ∀ {vs : List (Str × V)} {ds : List (Str × D)} {d : D}, RepF K cl mu Z vs ds → ds.lookup f = some d → ∃ v, vs.lookup f = some v ∧ Rep K cl mu Z v d
  | _, _, _, .nil, e => by simp at e
  | _, _, d, @RepF.cons _ _ _ _ k v vs d' ds r t, e => by
    rw [List.lookup_cons] at e ⊢
    cases q : f == k with
    | true => rw [q] at e; simp at e; subst e; exact ⟨v, by simp, r⟩
    | false => rw [q] at e; exact RepF.lookup t e
theorem RepF.lookupN {f : Str} : ∀ {vs : List (Str × V)} {ds : List (Str × D)}, RepF K cl mu Z vs ds → ds.lookup f = none → vs.lookup f = none
  | _, _, .nil, e => rfl
  | _, _, @RepF.cons _ _ _ _ k v vs d' ds r t, e => by
    rw [List.lookup_cons] at e ⊢
    cases q : f == k with
    | true => rw [q] at e; simp at e
    | false => rw [q] at e; exact RepF.lookupN t e
theorem RepF.length : ∀ {vs : List (Str × V)} {ds : List (Str × D)}, RepF K cl mu Z vs ds → vs.length = ds.length
  | _, _, .nil => rfl
  | _, _, .cons _ t => congrArg (· + 1) (RepF.length t)
theorem RepN.length : ∀ {vs : List NRow} {ds : List (NestedKey × D)}, RepN K cl mu Z vs ds → vs.length = ds.length
  | _, _, .nil => rfl
  | _, _, .cons _ _ t => congrArg (· + 1) (RepN.length t)
theorem RepK.length : ∀ {vs : List (Key × V)} {ds : List (Key × D)}, RepK K cl mu Z vs ds → vs.length = ds.length
  | _, _, .nil => rfl
  | _, _, .cons _ t => congrArg (· + 1) (RepK.length t)
end

/-- lists that stand at bs -/
inductive Inn (K : PySem.W.Frag) (cl : ClsP) (mu : List Addr) (Z H : Hp) : List Addr → List D → Prop
  | nil : Inn K cl mu Z H [] []
  | cons {b : Addr} {bs : List Addr} {vs : List V} {es ds : List D} : H b = some (.lst vs) → RepAll K cl mu Z vs es → Inn K cl mu Z H bs ds → Inn K cl mu Z H (b :: bs) (.lst es :: ds)
/-- what stands at a, told as data; the addresses that are its own -/
inductive Cont (K : PySem.W.Frag) (cl : ClsP) (mu : List Addr) (Z H : Hp) : Addr → D → List Addr → Prop
  | lst {a : Addr} {vs : List V} {ds : List D} : H a = some (.lst vs) → RepAll K cl mu Z vs ds → Cont K cl mu Z H a (.lst ds) [a]
  | dic {a : Addr} {vs : List (Key × V)} {ds : List (Key × D)} : H a = some (.dK vs) → RepK K cl mu Z vs ds → Cont K cl mu Z H a (.dic ds) [a]
  | dit {a : Addr} {vs : List NRow} {ds : List (NestedKey × D)} : H a = some (nestO cl.P cl.w a vs) → RepN K cl mu Z vs ds → Cont K cl mu Z H a (.dit ds) [a]
  | obj {a dx : Addr} {c : Nat} {vs : List (Str × V)} {ds : List (Str × D)} : H a = some (.ins (cl c) dx vs) → H dx = some (.own a) → RepF K cl mu Z vs ds → Cont K cl mu Z H a (.obj c ds) [a, dx]
  | nst {a : Addr} {bs : List Addr} {ds : List D} : H a = some (.lst (bs.map .ref)) → Inn K cl mu Z H bs ds → (a :: bs).Nodup → Cont K cl mu Z H a (.nst ds) (a :: bs)

inductive Slot where
  | un | fr (d : D) | ow (d : D) | bo (d : D) | me (d : D)
structure Cell where
  c : Nat
  fs : List (Str × Slot)
abbrev Store := List Cell
abbrev Env := List Slot

/-- how the state moves while an expression runs -/
structure Stp (G : Gh) (H : Hp) (G' : Gh) (H' : Hp) : Prop where
  z : Same G.Z G'.Z
  lab : ∀ a l, G.lab a = some l → G'.lab a = some l
  keep : ∀ a o, H a = some o → (∀ l, G.lab a = some l → l.st = false) → H' a = some o
  labn : ∀ a l, G'.lab a = some l → G.lab a = some l ∨ H a = none
  zn : ∀ a o, G'.Z a = some o → G.Z a = some o ∨ H a = none
  mu : ∃ t, G'.mu = G.mu ++ t
  dom : ∀ a, H' a = none → H a = none

theorem Stp.refl (G : Gh) (H : Hp) : Stp G H G H := ⟨Same.refl _, fun _ _ h => h, fun _ _ h _ => h, fun _ _ h => .inl h, fun _ _ h => .inl h, ⟨[], by simp⟩, fun _ h => h⟩
theorem Stp.trans {G G1 G2 : Gh} {H H1 H2 : Hp} (a : Stp G H G1 H1) (b : Stp G1 H1 G2 H2) : Stp G H G2 H2 where
  z := a.z.trans b.z
  lab := fun x l h => b.lab x l (a.lab x l h)
  keep := fun x o h hl => b.keep x o (a.keep x o h hl) fun l e => by
    rcases a.labn x l e with q | q
    · exact hl l q
    · rw [h] at q; cases q
  labn := fun x l h => by
    rcases b.labn x l h with q | q
    · exact a.labn x l q
    · exact .inr (a.dom x q)
  zn := fun x o h => by
    rcases b.zn x o h with q | q
    · exact a.zn x o q
    · exact .inr (a.dom x q)
  mu := by
    obtain ⟨t, h1⟩ := a.mu
    obtain ⟨u, h2⟩ := b.mu
    exact ⟨t ++ u, by rw [h2, h1, List.append_assoc]⟩
  dom := fun x h => a.dom x (b.dom x h)

section
variable (K : PySem.W.Frag) (cl : ClsP)
abbrev RepG (G : Gh) (v : V) (d : D) : Prop := Rep K cl G.mu G.Z v d
abbrev ContG (G : Gh) (H : Hp) (a : Addr) (d : D) (as : List Addr) : Prop := Cont K cl G.mu G.Z H a d as
/-- owned under a label -/
def OwnAt (G : Gh) (H : Hp) (l : Lab) (v : V) (d : D) : Prop := ∃ a as, v = .ref a ∧ ContG K cl G H a d as ∧ ∀ b ∈ as, G.lab b = some l
/-- new, nobody's -/
def NewAt (G : Gh) (H : Hp) (a : Addr) (d : D) (as : List Addr) : Prop := ContG K cl G H a d as ∧ ∀ b ∈ as, G.lab b = none ∧ G.Z b = none
/-- borrowed from a heap H0 that nobody changes -/
def BorAt (G : Gh) (G0 : Gh) (H0 : Hp) (v : V) (d : D) : Prop := RepG K cl G v d ∨ ∃ a as, v = .ref a ∧ ContG K cl G H0 a d as ∧ ∀ b ∈ as, G0.lab b = none
/-- for the moment -/
def RepT (G : Gh) (H : Hp) (v : V) (d : D) : Prop := RepG K cl G v d ∨ ∃ a as, v = .ref a ∧ ContG K cl G H a d as ∧ ∀ b ∈ as, ∀ l, G.lab b = some l → l.st = false
def SlotOk (G0 : Gh) (H0 : Hp) (G : Gh) (H : Hp) (l : Lab) (s : Slot) (o : Option V) : Prop :=
  match s with
  | .un => True
  | .fr d => ∃ v, o = some v ∧ RepG K cl G v d
  | .ow d => ∃ v, o = some v ∧ OwnAt K cl G H l v d
  | .bo d => ∃ v, o = some v ∧ BorAt K cl G G0 H0 v d
  | .me d => ∃ v, o = some v ∧ OwnAt K cl G H l v d ∧ G0.me = some v
def FldOk (G : Gh) (H : Hp) (l : Lab) (s : Slot) (v : V) : Prop :=
  match s with
  | .fr d => RepG K cl G v d
  | .ow d => OwnAt K cl G H l v d
  | _ => False
structure CellOk (G : Gh) (H : Hp) (n : Nat) (c : Cell) : Prop where
  ok : ∃ a dx vs, G.mu[n]? = some a ∧ G.lab a = some (.cell n) ∧ G.lab dx = some (.cell n) ∧ H a = some (.ins (cl c.c) dx vs) ∧ H dx = some (.own a) ∧
    vs.map (·.1) = c.fs.map (·.1) ∧ ∀ (k : Nat) (f : Str) (s : Slot) (v : V), c.fs[k]? = some (f, s) → vs[k]? = some (f, v) → FldOk K cl G H (.fld n k) s v
/-- what holds of every state -/
structure GOk (S : Store) (G : Gh) (H : Hp) : Prop where
  zsub : Same G.Z H
  labz : ∀ a l, G.lab a = some l → G.Z a = none ∧ ∃ o, H a = some o
  st : ∀ n c, S[n]? = some c → CellOk K cl G H n c
  stn : S = [] ∧ G.mu = []
structure Rel (G0 : Gh) (H0 : Hp) (S : Store) (ρ : Env) (G : Gh) (σ : L2.St) (H : Hp) : Prop where
  ok : GOk K cl S G H
  len : ρ.length = σ.length
  slot : ∀ i s, ρ[i]? = some s → ∃ o, σ[i]? = some o ∧ SlotOk K cl G0 H0 G H (.slot i) s o
  stp : Stp G0 H0 G H
  s0 : ∀ a l, G0.lab a = some l → l.st = true
end
end PM
set_option maxHeartbeats 1000000
/-! PM2: how states move. -/
namespace PM
open PySem PySem.Spec PyProof.Rows L2
section
variable {K : PySem.W.Frag} {cl : ClsP} {G0 G G' G1 : Gh} {H0 H H' H1 : Hp} {S S' : Store} {ρ : Env} {σ : L2.St} {l : Lab} {s : Slot} {o : Option V} {v : V} {d : D} {a p : Addr} {as : List Addr}

theorem RepG.stp (s : Stp G H G' H') (h : RepG K cl G v d) : RepG K cl G' v d := Rep.mono s.z s.mu d v h
theorem Inn.mono {mu mu' : List Addr} {Z Z' : Hp} (hz : Same Z Z') (hm : ∃ t, mu' = mu ++ t) : ∀ {bs : List Addr} {ds : List D}, Inn K cl mu Z H bs ds → (∀ b ∈ bs, ∀ o, H b = some o → H' b = some o) → Inn K cl mu' Z' H' bs ds
  | _, _, .nil, _ => .nil
  | _, _, .cons h r t, hH => .cons (hH _ (by simp) _ h) (RepAll.mono hz hm _ _ r) (Inn.mono hz hm t fun b hb => hH b (List.mem_cons_of_mem _ hb))
theorem Inn.there {mu : List Addr} {Z : Hp} : ∀ {bs : List Addr} {ds : List D}, Inn K cl mu Z H bs ds → ∀ b ∈ bs, ∃ o, H b = some o
  | _, _, .nil, b, hb => by cases hb
  | _, _, .cons h r t, b, hb => by
    rcases List.mem_cons.mp hb with rfl | hb
    · exact ⟨_, h⟩
    · exact Inn.there t b hb
theorem Inn.length {mu : List Addr} {Z : Hp} : ∀ {bs : List Addr} {ds : List D}, Inn K cl mu Z H bs ds → bs.length = ds.length
  | _, _, .nil => rfl
  | _, _, .cons h r t => congrArg (· + 1) (Inn.length t)
theorem Inn.rep {mu : List Addr} {Z Z' : Hp} (hz : Same Z Z') : ∀ {bs : List Addr} {ds : List D}, Inn K cl mu Z H bs ds → (∀ b ∈ bs, ∀ o, H b = some o → Z' b = some o) → RepAll K cl mu Z' (bs.map V.ref) ds
  | _, _, .nil, _ => .nil
  | _, _, .cons h r t, hH => .cons (.lst (hH _ (by simp) _ h) (RepAll.mono hz ⟨[], by simp⟩ _ _ r)) (Inn.rep hz t fun b hb => hH b (List.mem_cons_of_mem _ hb))
theorem Cont.mono {mu mu' : List Addr} {Z Z' : Hp} (c : Cont K cl mu Z H a d as) (hH : ∀ b ∈ as, ∀ o, H b = some o → H' b = some o) (hz : Same Z Z') (hm : ∃ t, mu' = mu ++ t) : Cont K cl mu' Z' H' a d as := by
  cases c with
  | lst h r => exact .lst (hH _ (by simp) _ h) (RepAll.mono hz hm _ _ r)
  | dic h r => exact .dic (hH _ (by simp) _ h) (RepK.mono hz hm _ _ r)
  | dit h r => exact .dit (hH _ (by simp) _ h) (RepN.mono hz hm _ _ r)
  | obj h h2 r => exact .obj (hH _ (by simp) _ h) (hH _ (by simp) _ h2) (RepF.mono hz hm _ _ r)
  | nst h r n => exact .nst (hH _ (by simp) _ h) (r.mono hz hm fun b hb => hH b (List.mem_cons_of_mem _ hb)) n
theorem Cont.there {mu : List Addr} {Z : Hp} (c : Cont K cl mu Z H a d as) : ∀ b ∈ as, ∃ o, H b = some o := by
  cases c with
  | lst h r => intro b hb; simp at hb; subst hb; exact ⟨_, h⟩
  | dic h r => intro b hb; simp at hb; subst hb; exact ⟨_, h⟩
  | dit h r => intro b hb; simp at hb; subst hb; exact ⟨_, h⟩
  | obj h h2 r =>
    intro b hb
    simp at hb
    rcases hb with rfl | rfl
    · exact ⟨_, h⟩
    · exact ⟨_, h2⟩
  | nst h r n =>
    intro b hb
    rcases List.mem_cons.mp hb with rfl | hb
    · exact ⟨_, h⟩
    · exact r.there b hb
theorem Cont.mem {mu : List Addr} {Z : Hp} (c : Cont K cl mu Z H a d as) : a ∈ as := by cases c <;> simp
/-- frozen where it stands -/
theorem Cont.rep {mu : List Addr} {Z Z' : Hp} (c : Cont K cl mu Z H a d as) (h : ∀ b ∈ as, ∀ o, H b = some o → Z' b = some o) (hz : Same Z Z') : Rep K cl mu Z' (.ref a) d := by
  cases c with
  | lst h1 r => exact .lst (h _ (by simp) _ h1) (RepAll.mono hz ⟨[], by simp⟩ _ _ r)
  | dic h1 r => exact .dic (h _ (by simp) _ h1) (RepK.mono hz ⟨[], by simp⟩ _ _ r)
  | dit h1 r => exact .dit (h _ (by simp) _ h1) (RepN.mono hz ⟨[], by simp⟩ _ _ r)
  | obj h1 h2 r => exact .obj (h _ (by simp) _ h1) (h _ (by simp) _ h2) (RepF.mono hz ⟨[], by simp⟩ _ _ r)
  | nst h1 r n => exact .nst (h _ (by simp) _ h1) (r.rep hz fun b hb => h b (List.mem_cons_of_mem _ hb))

theorem OwnAt.mono (h : OwnAt K cl G H l v d) (hH : ∀ b, G.lab b = some l → ∀ o, H b = some o → H' b = some o) (hz : Same G.Z G'.Z) (hl : ∀ b, G.lab b = some l → G'.lab b = some l) (hm : ∃ t, G'.mu = G.mu ++ t) : OwnAt K cl G' H' l v d := by
  obtain ⟨a, as, rfl, c, q⟩ := h
  exact ⟨a, as, rfl, c.mono (fun b hb o e => hH b (q b hb) o e) hz hm, fun b hb => hl b (q b hb)⟩
theorem BorAt.mono (h : BorAt K cl G G0 H0 v d) (hz : Same G.Z G'.Z) (hm : ∃ t, G'.mu = G.mu ++ t) : BorAt K cl G' G0 H0 v d := by
  rcases h with h | ⟨a, as, rfl, c, q⟩
  · exact .inl (Rep.mono hz hm d v h)
  · exact .inr ⟨a, as, rfl, c.mono (fun _ _ _ e => e) hz hm, q⟩
theorem SlotOk.mono (h : SlotOk K cl G0 H0 G H l s o) (hH : ∀ b, G.lab b = some l → ∀ o, H b = some o → H' b = some o) (hz : Same G.Z G'.Z) (hl : ∀ b, G.lab b = some l → G'.lab b = some l) (hm : ∃ t, G'.mu = G.mu ++ t) : SlotOk K cl G0 H0 G' H' l s o := by
  cases s with
  | un => trivial
  | fr d => obtain ⟨v, e, r⟩ := h; exact ⟨v, e, Rep.mono hz hm d v r⟩
  | ow d => obtain ⟨v, e, r⟩ := h; exact ⟨v, e, r.mono hH hz hl hm⟩
  | bo d => obtain ⟨v, e, r⟩ := h; exact ⟨v, e, r.mono hz hm⟩
  | me d => obtain ⟨v, e, r, q⟩ := h; exact ⟨v, e, r.mono hH hz hl hm, q⟩
theorem FldOk.mono (h : FldOk K cl G H l s v) (hH : ∀ b, G.lab b = some l → ∀ o, H b = some o → H' b = some o) (hz : Same G.Z G'.Z) (hl : ∀ b, G.lab b = some l → G'.lab b = some l) (hm : ∃ t, G'.mu = G.mu ++ t) : FldOk K cl G' H' l s v := by
  cases s with
  | un => exact h.elim
  | fr d => exact Rep.mono hz hm d v h
  | ow d => exact OwnAt.mono h hH hz hl hm
  | bo d => exact h.elim
  | me d => exact h.elim
/-- the objects with store labels are as they were -/
theorem CellOk.mono {n : Nat} {c : Cell} (h : CellOk K cl G H n c) (hH : ∀ b l, G.lab b = some l → l.st = true → ∀ o, H b = some o → H' b = some o) (hz : Same G.Z G'.Z) (hl : ∀ b l, G.lab b = some l → l.st = true → G'.lab b = some l) (hm : ∃ t, G'.mu = G.mu ++ t) : CellOk K cl G' H' n c := by
  obtain ⟨a, dx, vs, h1, h2, h3, h4, h5, h6, h7⟩ := h.ok
  refine ⟨a, dx, vs, ?_, hl _ _ h2 rfl, hl _ _ h3 rfl, hH _ _ h2 rfl _ h4, hH _ _ h3 rfl _ h5, h6, fun k f s v e1 e2 => (h7 k f s v e1 e2).mono (fun b hb => hH b _ hb rfl) hz (fun b hb => hl b _ hb rfl) hm⟩
  obtain ⟨t, e⟩ := hm
  rw [e, List.getElem?_append_left (List.getElem?_eq_some_iff.mp h1).1]
  exact h1

/-- the heap grows; nothing changes -/
theorem Rel.grow (R : Rel K cl G0 H0 S ρ G σ H) (hH : Same H H') (hm : G'.mu = G.mu) (zs : Same G'.Z H') (lz : ∀ a l, G'.lab a = some l → G'.Z a = none ∧ ∃ o, H' a = some o) (st : Stp G H G' H') : Rel K cl G0 H0 S ρ G' σ H' := by
  have hm' : ∃ t, G'.mu = G.mu ++ t := ⟨[], by rw [hm]; simp⟩
  refine ⟨⟨zs, lz, fun n c e => (R.ok.st n c e).mono (fun b _ _ _ o e => hH b o e) st.z (fun b l e _ => st.lab b l e) hm', by rw [hm]; exact R.ok.stn⟩, R.len, fun i s e => ?_, R.stp.trans st, R.s0⟩
  obtain ⟨o, h1, h2⟩ := R.slot i s e
  exact ⟨o, h1, h2.mono (fun b _ o e => hH b o e) st.z (fun b e => st.lab b _ e) hm'⟩
/-- a new object, nobody's -/
theorem Rel.alloc (R : Rel K cl G0 H0 S ρ G σ H) (hp : H p = none) (x : HO) : Rel K cl G0 H0 S ρ G σ (upd H p x) ∧ Stp G H G (upd H p x) := by
  have sm : Same H (upd H p x) := fun b o e => by rw [upd_ne (ne_of_none e hp)]; exact e
  have st : Stp G H G (upd H p x) := ⟨Same.refl _, fun _ _ e => e, fun a o e _ => sm a o e, fun _ _ e => .inl e, fun _ _ e => .inl e, ⟨[], by simp⟩, fun a e => sm.free e⟩
  refine ⟨R.grow sm rfl (R.ok.zsub.trans sm) (fun a l e => ?_) st, st⟩
  obtain ⟨h1, o, h2⟩ := R.ok.labz a l e
  exact ⟨h1, o, sm a o h2⟩
/-- freezing the addresses as -/
noncomputable def Gh.fz (G : Gh) (H : Hp) (as : List Addr) : Gh := { G with Z := fun b => if b ∈ as then H b else G.Z b }
theorem Gh.fz_z {as : List Addr} (h : ∀ b ∈ as, G.Z b = none) : Same G.Z (G.fz H as).Z := fun b o e => by
  show (if b ∈ as then H b else G.Z b) = some o
  by_cases hb : b ∈ as
  · rw [h b hb] at e; cases e
  · rw [if_neg hb]; exact e
/-- new things are frozen; (G1, H1): where the expression began -/
theorem Rel.fz (R : Rel K cl G0 H0 S ρ G σ H) (s01 : Stp G0 H0 G1 H1) (st : Stp G1 H1 G H) (q : ∀ b ∈ as, G.lab b = none ∧ G.Z b = none) (hn : ∀ b ∈ as, H1 b = none) :
    Rel K cl G0 H0 S ρ (G.fz H as) σ H ∧ Stp G1 H1 (G.fz H as) H := by
  have hz : Same G.Z (G.fz H as).Z := Gh.fz_z fun b hb => (q b hb).2
  have zs : Same (G.fz H as).Z H := fun b o e => by
    have e' : (if b ∈ as then H b else G.Z b) = some o := e
    by_cases hb : b ∈ as
    · rw [if_pos hb] at e'; exact e'
    · rw [if_neg hb] at e'; exact R.ok.zsub b o e'
  have zn : ∀ b o, (G.fz H as).Z b = some o → G.Z b = some o ∨ b ∈ as := fun b o e => by
    have e' : (if b ∈ as then H b else G.Z b) = some o := e
    by_cases hb : b ∈ as
    · exact .inr hb
    · rw [if_neg hb] at e'; exact .inl e'
  have lz : ∀ b l, (G.fz H as).lab b = some l → (G.fz H as).Z b = none ∧ ∃ o, H b = some o := fun b l e => by
    have e' : G.lab b = some l := e
    obtain ⟨h1, h2⟩ := R.ok.labz b l e'
    refine ⟨?_, h2⟩
    show (if b ∈ as then H b else G.Z b) = none
    rw [if_neg (fun hb => by rw [(q b hb).1] at e'; cases e')]
    exact h1
  refine ⟨⟨⟨zs, lz, fun n c e => (R.ok.st n c e).mono (fun _ _ _ _ _ e => e) hz (fun _ _ e _ => e) ⟨[], by simp [Gh.fz]⟩, R.ok.stn⟩, R.len, fun i s e => ?_, ?_, R.s0⟩, ?_⟩
  · obtain ⟨o, h1, h2⟩ := R.slot i s e
    exact ⟨o, h1, h2.mono (fun _ _ _ e => e) hz (fun _ e => e) ⟨[], by simp [Gh.fz]⟩⟩
  · refine ⟨R.stp.z.trans hz, R.stp.lab, R.stp.keep, R.stp.labn, fun b o e => ?_, R.stp.mu, R.stp.dom⟩
    rcases zn b o e with h | h
    · exact R.stp.zn b o h
    · exact .inr (s01.dom b (hn b h))
  · refine ⟨st.z.trans hz, st.lab, st.keep, st.labn, fun b o e => ?_, st.mu, st.dom⟩
    rcases zn b o e with h | h
    · exact st.zn b o h
    · exact .inr (hn b h)
theorem fz_at {as : List Addr} {b : Addr} (hb : b ∈ as) : (G.fz H as).Z b = H b := by
  show (if b ∈ as then H b else G.Z b) = H b
  rw [if_pos hb]
theorem Rel.freeze (R : Rel K cl G0 H0 S ρ G σ H) (s01 : Stp G0 H0 G1 H1) (st : Stp G1 H1 G H) (n : NewAt K cl G H a d as) (hn : ∀ b ∈ as, H1 b = none) :
    Rel K cl G0 H0 S ρ (G.fz H as) σ H ∧ Stp G1 H1 (G.fz H as) H ∧ RepG K cl (G.fz H as) (.ref a) d := by
  obtain ⟨c, q⟩ := n
  obtain ⟨h1, h2⟩ := R.fz s01 st q hn
  exact ⟨h1, h2, c.rep (fun b hb o e => (fz_at hb).trans e) (Gh.fz_z fun b hb => (q b hb).2)⟩
/-- a new place is nobody's -/
theorem Rel.nobody (R : Rel K cl G0 H0 S ρ G σ H) (hp : H p = none) : G.lab p = none ∧ G.Z p = none := by
  constructor
  · cases e : G.lab p with
    | none => rfl
    | some l =>
      obtain ⟨_, o, h⟩ := R.ok.labz p l e
      rw [hp] at h; cases h
  · exact R.ok.zsub.free hp
/-- a new object, frozen at once -/
theorem Rel.newF (R : Rel K cl G0 H0 S ρ G σ H) (hp : H p = none) (x : HO) : Rel K cl G0 H0 S ρ (G.fz (upd H p x) [p]) σ (upd H p x) ∧ Stp G H (G.fz (upd H p x) [p]) (upd H p x) ∧ (G.fz (upd H p x) [p]).Z p = some x := by
  obtain ⟨R1, s1⟩ := R.alloc hp x
  obtain ⟨h1, h2⟩ := R1.fz (as := [p]) R.stp s1 (fun b hb => by simp at hb; subst hb; exact R.nobody hp) (fun b hb => by simp at hb; subst hb; exact hp)
  exact ⟨h1, h2, by rw [fz_at (by simp)]; exact upd_same⟩
/-- a new list, a new dict, nobody's -/
theorem Rel.newL (R : Rel K cl G0 H0 S ρ G σ H) (hp : H p = none) {vs : List V} {ds : List D} (r : RepAll K cl G.mu G.Z vs ds) : Rel K cl G0 H0 S ρ G σ (upd H p (.lst vs)) ∧ Stp G H G (upd H p (.lst vs)) ∧ NewAt K cl G (upd H p (.lst vs)) p (.lst ds) [p] := by
  obtain ⟨R1, s1⟩ := R.alloc hp (.lst vs)
  exact ⟨R1, s1, .lst upd_same r, fun b hb => by simp at hb; subst hb; exact R.nobody hp⟩
theorem Rel.newD (R : Rel K cl G0 H0 S ρ G σ H) (hp : H p = none) {vs : List (Key × V)} {ds : List (Key × D)} (r : RepK K cl G.mu G.Z vs ds) : Rel K cl G0 H0 S ρ G σ (upd H p (.dK vs)) ∧ Stp G H G (upd H p (.dK vs)) ∧ NewAt K cl G (upd H p (.dK vs)) p (.dic ds) [p] := by
  obtain ⟨R1, s1⟩ := R.alloc hp (.dK vs)
  exact ⟨R1, s1, .dic upd_same r, fun b hb => by simp at hb; subst hb; exact R.nobody hp⟩
theorem Rel.newN (R : Rel K cl G0 H0 S ρ G σ H) (hp : H p = none) {vs : List NRow} {ds : List (NestedKey × D)} (r : RepN K cl G.mu G.Z vs ds) : Rel K cl G0 H0 S ρ G σ (upd H p (nestO cl.P cl.w p vs)) ∧ Stp G H G (upd H p (nestO cl.P cl.w p vs)) ∧ NewAt K cl G (upd H p (nestO cl.P cl.w p vs)) p (.dit ds) [p] := by
  obtain ⟨R1, s1⟩ := R.alloc hp (nestO cl.P cl.w p vs)
  exact ⟨R1, s1, .dit upd_same r, fun b hb => by simp at hb; subst hb; exact R.nobody hp⟩
end
end PM
set_option maxHeartbeats 1000000
/-! PM3: what an expression is worth, told as a function of the data; rules for two-place operators. -/
namespace PM
open PySem PySem.Spec PyProof.Rows L2

inductive Res (α : Type) where
  | ok (a : α) (S : Store) | exc (n : Nat) (S : Store) | stuck
def Res.bind {α β : Type} (r : Res α) (f : α → Store → Res β) : Res β :=
  match r with
  | .ok a S => f a S
  | .exc n S => .exc n S
  | .stuck => .stuck
def Res.opt {α : Type} (o : Option α) (S : Store) : Res α :=
  match o with
  | some a => .ok a S
  | none => .stuck
inductive Val where
  | fr (d : D) | ow (d : D)
abbrev Ex := Env → Store → Res D
abbrev Tx := Env → Store → Res Bool
abbrev Ax := Env → Store → Res (List D)
abbrev Fn := List D → Store → Res Val

abbrev Post (α β : Type) := Gh → Hp → Gh → Hp → α → β → Prop
def PostM {α β : Type} (P : Post α β) : Prop := ∀ G H G1 H1 G' H' d v, Stp G H G1 H1 → P G1 H1 G' H' d v → P G H G' H' d v

section
variable (K : PySem.W.Frag) (cl : ClsP)
/-- what follows r, where r began at (G, H) -/
def Aft {α β : Type} (P : Post α β) (W : WX) (G0 : Gh) (H0 : Hp) (ρ : Env) (σ : L2.St) (G : Gh) (H : Hp) (r : Res α) (Q : β → Hp → Prop) : Prop :=
  match r with
  | .ok d S' => ∀ v G' H', Rel K cl G0 H0 S' ρ G' σ H' → Stp G H G' H' → P G H G' H' d v → Q v H'
  | .exc n S' => ∀ G' H', Rel K cl G0 H0 S' ρ G' σ H' → Stp G H G' H' → W (.ref (cl n)) none σ H'
  | .stuck => False
def tX {α β : Type} (P : Post α β) (W : WX) (c : Env → Store → Res α) : L2.St → Hp → (β → Hp → Prop) → Prop := fun σ H Q =>
  ∃ (G0 : Gh) (H0 : Hp) (S : Store) (ρ : Env) (G : Gh), Rel K cl G0 H0 S ρ G σ H ∧ Aft K cl P W G0 H0 ρ σ G H (c ρ S) Q
/-- frozen; for the moment; new -/
def PF : Post D V := fun _ _ G' _ d v => RepG K cl G' v d
def PB : Post D V := fun _ _ G' H' d v => RepT K cl G' H' v d
def PN : Post D V := fun _ H G' H' d v => ∃ a as, v = .ref a ∧ NewAt K cl G' H' a d as ∧ ∀ b ∈ as, H b = none
def PT1 : Post Bool Bool := fun _ _ _ _ d v => v = d
/-- arguments: true, for the moment -/
inductive ArgsOk (G : Gh) (H : Hp) : List Bool → List V → List D → Prop
  | nil : ArgsOk G H [] [] []
  | fr {bm : List Bool} {v : V} {vs : List V} {d : D} {ds : List D} : RepG K cl G v d → ArgsOk G H bm vs ds → ArgsOk G H (false :: bm) (v :: vs) (d :: ds)
  | bo {bm : List Bool} {v : V} {vs : List V} {d : D} {ds : List D} : RepT K cl G H v d → ArgsOk G H bm vs ds → ArgsOk G H (true :: bm) (v :: vs) (d :: ds)
def PA1 (bm : List Bool) : Post (List D) (List V) := fun _ _ G' H' ds vs => ArgsOk K cl G' H' bm vs ds
end

section
variable {K : PySem.W.Frag} {cl : ClsP} {W : WX} {α β γ δ : Type} {G0 G G' G1 : Gh} {H0 H H' H1 : Hp} {S S' : Store} {ρ : Env} {σ : L2.St} {v : V} {d : D}
theorem pfM : PostM (PF K cl) := fun _ _ _ _ _ _ _ _ _ h => h
theorem pbM : PostM (PB K cl) := fun _ _ _ _ _ _ _ _ _ h => h
theorem pnM : PostM (PN K cl) := fun _ _ _ _ _ _ _ _ s ⟨a, as, e, n, h⟩ => ⟨a, as, e, n, fun b hb => s.dom b (h b hb)⟩
theorem ptM : PostM PT1 := fun _ _ _ _ _ _ _ _ _ h => h
theorem paM {bm : List Bool} : PostM (PA1 K cl bm) := fun _ _ _ _ _ _ _ _ _ h => h
theorem RepT.stp (h : RepT K cl G H v d) (s : Stp G H G' H') : RepT K cl G' H' v d := by
  rcases h with h | ⟨a, as, rfl, c, q⟩
  · exact .inl (Rep.mono s.z s.mu d v h)
  · refine .inr ⟨a, as, rfl, c.mono (fun b hb o e => s.keep b o e (q b hb)) s.z s.mu, fun b hb l e => ?_⟩
    rcases s.labn b l e with h | h
    · exact q b hb l h
    · obtain ⟨o, e2⟩ := c.there b hb
      rw [h] at e2; cases e2
theorem ArgsOk.stp (s : Stp G H G' H') : ∀ {bm : List Bool} {vs : List V} {ds : List D}, ArgsOk K cl G H bm vs ds → ArgsOk K cl G' H' bm vs ds
  | _, _, _, .nil => .nil
  | _, _, _, .fr h t => .fr (Rep.mono s.z s.mu _ _ h) (ArgsOk.stp s t)
  | _, _, _, .bo h t => .bo (h.stp s) (ArgsOk.stp s t)
theorem ArgsOk.len : ∀ {bm : List Bool} {vs : List V} {ds : List D}, ArgsOk K cl G H bm vs ds → vs.length = bm.length ∧ ds.length = bm.length
  | _, _, _, .nil => ⟨rfl, rfl⟩
  | _, _, _, .fr h t => ⟨congrArg (· + 1) t.len.1, congrArg (· + 1) t.len.2⟩
  | _, _, _, .bo h t => ⟨congrArg (· + 1) t.len.1, congrArg (· + 1) t.len.2⟩

theorem Aft.pre {P : Post α β} (hP : PostM P) {r : Res α} {Q : β → Hp → Prop} (h : Aft K cl P W G0 H0 ρ σ G H r Q) (s : Stp G H G1 H1) : Aft K cl P W G0 H0 ρ σ G1 H1 r Q := by
  cases r with
  | ok d S' => exact fun v G' H' R s' p => h v G' H' R (s.trans s') (hP _ _ _ _ _ _ _ _ s p)
  | exc n S' => exact fun G' H' R s' => h G' H' R (s.trans s')
  | stuck => exact h
/-- one after another -/
theorem tX.bind {P : Post α β} {Pa : Post γ δ} (hP : PostM P) {ca : Env → Store → Res γ} {f : γ → Store → Res α} {Q : β → Hp → Prop} {M : δ → Hp → Prop} (R : Rel K cl G0 H0 S ρ G σ H)
    (h : Aft K cl P W G0 H0 ρ σ G H ((ca ρ S).bind f) Q)
    (k : ∀ d v S1 G1 H1, Rel K cl G0 H0 S1 ρ G1 σ H1 → Stp G H G1 H1 → Pa G H G1 H1 d v → Aft K cl P W G0 H0 ρ σ G1 H1 (f d S1) Q → M v H1) : tX K cl Pa W ca σ H M := by
  refine ⟨G0, H0, S, ρ, G, R, ?_⟩
  cases e : ca ρ S with
  | ok d S1 =>
    rw [e] at h
    exact fun v G' H' R' s p => k d v S1 G' H' R' s p (Aft.pre hP h s)
  | exc n S1 =>
    rw [e] at h
    exact h
  | stuck =>
    rw [e] at h
    exact h.elim
theorem Aft.here {P : Post α β} {d : α} {Q : β → Hp → Prop} (h : Aft K cl P W G0 H0 ρ σ G H (.ok d S) Q) (R : Rel K cl G0 H0 S ρ G σ H) {v : β} (p : P G H G H d v) : Q v H := h v G H R (Stp.refl _ _) p
end

theorem PE.weak {X : Cx} {e : Expr} {t t' : TE} (h : PE X e t) (w : ∀ σ H Q, t' σ H Q → t σ H Q) : PE X e t' := ⟨fun pins s σ H Q I q => h.run pins s σ H Q I (w σ H Q q)⟩
theorem PT.weak {X : Cx} {e : Expr} {t t' : TT} (h : PT X e t) (w : ∀ σ H Q, t' σ H Q → t σ H Q) : PT X e t' := ⟨fun pins s σ H Q I q => h.run pins s σ H Q I (w σ H Q q)⟩
theorem PW.weak {X : Cx} {e : Expr} {t t' : TT} (h : PW X e t) (w : ∀ σ H Q, t' σ H Q → t σ H Q) : PW X e t' := ⟨fun wh pins s σ H Q I q => h.run wh pins s σ H Q I (w σ H Q q)⟩
theorem PA.weak {X : Cx} {e : List Expr} {t t' : TA} (h : PA X e t) (w : ∀ σ H Q, t' σ H Q → t σ H Q) : PA X e t' := ⟨fun pos pins s σ H Q I q => h.run pos pins s σ H Q I (w σ H Q q)⟩
theorem PS.weak {X : Cx} {e : Stmt} {t t' : TS} (h : PS X e t) (w : ∀ D σ H, t' D σ H → t D σ H) : PS X e t' := ⟨fun pins s σ H D I q => h.run pins s σ H D I (w D σ H q)⟩
theorem PSs.weak {X : Cx} {e : List Stmt} {t t' : TS} (h : PSs X e t) (w : ∀ D σ H, t' D σ H → t D σ H) : PSs X e t' := ⟨fun pins s σ H D I q => h.run pins s σ H D I (w D σ H q)⟩

section
variable (X : Cx) (cl : ClsP) (W : WX)
abbrev SE (e : Expr) (c : Ex) : Prop := PE X e (tX X.K cl (PF X.K cl) W c)
abbrev SB (e : Expr) (c : Ex) : Prop := PE X e (tX X.K cl (PB X.K cl) W c)
abbrev SN (e : Expr) (c : Ex) : Prop := PE X e (tX X.K cl (PN X.K cl) W c)
abbrev STt (e : Expr) (c : Tx) : Prop := PT X e (tX X.K cl PT1 W c)
abbrev SW (e : Expr) (c : Tx) : Prop := PW X e (tX X.K cl PT1 W c)
abbrev SA (bm : List Bool) (es : List Expr) (c : Ax) : Prop := PA X es (tX X.K cl (PA1 X.K cl bm) W c)
end

section
variable {X : Cx} {cl : ClsP} {W : WX} {a b e : Expr} {c ca cb : Ex} {pos : Pos}
theorem SE.toB (h : SE X cl W e c) : SB X cl W e c := PE.weak h fun σ H Q ⟨G0, H0, S, ρ, G, R, q⟩ => by
  refine ⟨G0, H0, S, ρ, G, R, ?_⟩
  cases r : c ρ S with
  | ok d S' => rw [r] at q; exact fun v G' H' R' s p => q v G' H' R' s (.inl p)
  | exc n S' => rw [r] at q; exact q
  | stuck => rw [r] at q; exact q
/-- a new thing, frozen -/
theorem SN.toE (h : SN X cl W e c) : SE X cl W e c := PE.weak h fun σ H Q ⟨G0, H0, S, ρ, G, R, q⟩ => by
  refine ⟨G0, H0, S, ρ, G, R, ?_⟩
  cases r : c ρ S with
  | ok d S' =>
    rw [r] at q
    rintro v G' H' R' s ⟨a, as, rfl, n, hn⟩
    obtain ⟨R2, s2, rp⟩ := R'.freeze R.stp s n hn
    exact q _ _ _ R2 s2 rp
  | exc n S' => rw [r] at q; exact q
  | stuck => rw [r] at q; exact q

/-- a constant -/
def eC (d : D) : Ex := fun _ S => .ok d S
theorem se_c {v : V} {d : D} (h : PE X e (tC v)) (r : ∀ mu Z, Rep X.K cl mu Z v d) : SE X cl W e (eC d) := PE.weak h fun σ H Q ⟨G0, H0, S, ρ, G, R, q⟩ => q v G H R (Stp.refl _ _) (r _ _)
theorem se_int {i : Int} {j pos} : SE X cl W (.Constant (.int i) j pos) (eC (.int i)) := se_c pe_int fun _ _ => .int i
theorem se_bl {i : Bool} {j pos} : SE X cl W (.Constant (.bool i) j pos) (eC (.bl i)) := se_c pe_bl fun _ _ => .bl i
theorem se_non {j pos} : SE X cl W (.Constant .none j pos) (eC .non) := se_c pe_non fun _ _ => .non
theorem se_str {x : Str} {j pos} : SE X cl W (.Constant (.str x) j pos) (eC (.str x)) := se_c pe_str fun _ _ => .str x
/-- a name of the module: a constant -/
theorem se_gl {x : Str} {v : V} {u : Value} {d : D} {pos : Pos} (hg : Gl X x) (hm : X.mg x = some u) (r : RelV v u) (rp : ∀ mu Z, Rep X.K cl mu Z v d) (hd : (x == ("__debug__" : Str)) = false := by decide) : SE X cl W (.Name x pos) (eC d) := se_c (pe_glob hg hm r hd) rp

/-- a name -/
def eV (i : Nat) : Ex := fun ρ S => match ρ[i]? with | some (.fr d) => .ok d S | _ => .stuck
def eB (i : Nat) : Ex := fun ρ S => match ρ[i]? with | some (.fr d) => .ok d S | some (.ow d) => .ok d S | some (.bo d) => .ok d S | some (.me d) => .ok d S | _ => .stuck
theorem se_v {i : Nat} {x : Str} (h : PE X (.Name x pos) (tVar i)) : SE X cl W (.Name x pos) (eV i) := PE.weak h fun σ H Q ⟨G0, H0, S, ρ, G, R, q⟩ => by
  cases r : ρ[i]? with
  | none => simp only [eV, r, Aft] at q
  | some s =>
    obtain ⟨o, ho, hs⟩ := R.slot i s r
    cases s with
    | fr d =>
      simp only [eV, r] at q
      obtain ⟨v, rfl, rp⟩ := hs
      exact ⟨v, ho, q v G H R (Stp.refl _ _) rp⟩
    | _ => simp only [eV, r, Aft] at q
theorem sb_v {i : Nat} {x : Str} (h : PE X (.Name x pos) (tVar i)) : SB X cl W (.Name x pos) (eB i) := PE.weak h fun σ H Q ⟨G0, H0, S, ρ, G, R, q⟩ => by
  cases r : ρ[i]? with
  | none => simp only [eB, r, Aft] at q
  | some s =>
    obtain ⟨o, ho, hs⟩ := R.slot i s r
    cases s with
    | fr d =>
      simp only [eB, r] at q
      obtain ⟨v, rfl, rp⟩ := hs
      exact ⟨v, ho, q v G H R (Stp.refl _ _) (.inl rp)⟩
    | ow d =>
      simp only [eB, r] at q
      obtain ⟨v, rfl, a, as, rfl, c, hl⟩ := hs
      refine ⟨_, ho, q _ G H R (Stp.refl _ _) (.inr ⟨a, as, rfl, c, fun b hb l e => ?_⟩)⟩
      rw [hl b hb] at e
      cases e
      rfl
    | bo d =>
      simp only [eB, r] at q
      obtain ⟨v, rfl, hb⟩ := hs
      rcases hb with hb | ⟨a, as, rfl, c, hl⟩
      · exact ⟨_, ho, q _ G H R (Stp.refl _ _) (.inl hb)⟩
      · refine ⟨_, ho, q _ G H R (Stp.refl _ _) (.inr ⟨a, as, rfl, c.mono (fun b hb o e => R.stp.keep b o e fun l e2 => by rw [hl b hb] at e2; cases e2) (Same.refl _) ⟨[], by simp⟩, fun b hb l e => ?_⟩)⟩
        rcases R.stp.labn b l e with h | h
        · rw [hl b hb] at h; cases h
        · obtain ⟨o, e2⟩ := c.there b hb
          rw [h] at e2; cases e2
    | me d =>
      simp only [eB, r] at q
      obtain ⟨v, rfl, ⟨a, as, rfl, c, hl⟩, _⟩ := hs
      refine ⟨_, ho, q _ G H R (Stp.refl _ _) (.inr ⟨a, as, rfl, c, fun b hb l e => ?_⟩)⟩
      rw [hl b hb] at e
      cases e
      rfl
    | un => simp only [eB, r, Aft] at q

/-- a rule by values, told of data -/
def OpS (X : Cx) (cl : ClsP) (r : R2) (f : D → D → Option D) (P : Post D V) : Prop :=
  ∀ {G0 : Gh} {H0 : Hp} {S : Store} {ρ : Env} {G : Gh} {σ : L2.St} {H : Hp} {x y : V} {d e z : D} {Q : VK}, Rel X.K cl G0 H0 S ρ G σ H → RepT X.K cl G H x d → RepT X.K cl G H y e → f d e = some z →
    (∀ v G' H', Rel X.K cl G0 H0 S ρ G' σ H' → Stp G H G' H' → P G H G' H' z v → Q v H') → r x y H Q
def eBin (f : D → D → Option D) (ca cb : Ex) : Ex := fun ρ S => (ca ρ S).bind fun d S => (cb ρ S).bind fun e S => Res.opt (f d e) S
theorem bin_sem {r : R2} {f : D → D → Option D} {P : Post D V} (hP : PostM P) (hs : OpS X cl r f P) {σ : L2.St} {H : Hp} {Q : VK} (h : tX X.K cl P W (eBin f ca cb) σ H Q) : tOp r (tX X.K cl (PB X.K cl) W ca) (tX X.K cl (PB X.K cl) W cb) σ H Q := by
  obtain ⟨G0, H0, S, ρ, G, R, h⟩ := h
  refine tX.bind hP R h fun d x S1 G1 H1 R1 s1 p1 h1 => ?_
  refine tX.bind hP R1 h1 fun e y S2 G2 H2 R2 s2 p2 h2 => ?_
  cases q : f d e with
  | none => rw [q] at h2; exact h2.elim
  | some z =>
    rw [q] at h2
    exact hs R2 (RepT.stp p1 s2) p2 q fun v G' H' R' s' p' => h2 v G' H' R' s' p'
theorem sx_bin {op : Operator} {r : R2} {f : D → D → Option D} {P : Post D V} (hP : PostM P) (ho : OpR X (binaryOp op) r) (hs : OpS X cl r f P) (ha : SB X cl W a ca) (hb : SB X cl W b cb) : PE X (.BinOp a op b pos) (tX X.K cl P W (eBin f ca cb)) :=
  PE.weak (pe_op ho ha hb) fun _ _ _ h => bin_sem hP hs h
theorem se_cmp {op : CmpOp} {r : R2} {f : D → D → Option D} (ho : OpR X (compareOp op) r) (hs : OpS X cl r f (PF X.K cl)) (ha : SB X cl W a ca) (hb : SB X cl W b cb) (hm : behindInMarks op b = false) : SE X cl W (.Compare a [op] [b] pos) (eBin f ca cb) :=
  PE.weak (pe_cmpR ho ha hb hm) fun _ _ _ h => bin_sem pfM hs h
theorem OpS.or {r r' : R2} {f f' : D → D → Option D} {P : Post D V} (h : OpS X cl r f P) (h' : OpS X cl r' f' P) : OpS X cl (fun x y H Q => r x y H Q ∨ r' x y H Q) (fun d e => match f d e with | some z => some z | none => f' d e) P := fun {G0 H0 S ρ G σ H x y d e z Q} R p1 p2 q k => by
  cases fq : f d e with
  | some z' =>
    simp only [fq] at q
    cases q
    exact .inl (h R p1 p2 fq k)
  | none =>
    simp only [fq] at q
    exact .inr (h' R p1 p2 q k)

/-! ### reading RepT -/
section
variable {K : PySem.W.Frag} {G : Gh} {H : Hp} {v : V} {mu : List Addr} {Z : Hp}
theorem RepT.int {i : Int} (h : RepT K cl G H v (.int i)) : v = .int i := by
  rcases h with h | ⟨a, as, _, c, _⟩
  · cases h; rfl
  · cases c
theorem RepT.str {i : Str} (h : RepT K cl G H v (.str i)) : v = .str i := by
  rcases h with h | ⟨a, as, _, c, _⟩
  · cases h; rfl
  · cases c
theorem RepT.bl {i : Bool} (h : RepT K cl G H v (.bl i)) : v = .bl i := by
  rcases h with h | ⟨a, as, _, c, _⟩
  · cases h; rfl
  · cases c
theorem RepT.non (h : RepT K cl G H v .non) : v = .non := by
  rcases h with h | ⟨a, as, _, c, _⟩
  · cases h; rfl
  · cases c
theorem RepT.lst {ds : List D} (h : RepT K cl G H v (.lst ds)) (zs : Same G.Z H) : ∃ a vs, v = .ref a ∧ H a = some (.lst vs) ∧ RepAll K cl G.mu G.Z vs ds := by
  rcases h with h | ⟨a, as, e, c, _⟩
  · cases h with
    | lst hs ha => exact ⟨_, _, rfl, zs _ _ hs, ha⟩
  · cases c with
    | lst h1 r => exact ⟨a, _, e, h1, r⟩
theorem RepT.scr {ds : List Int} (h : RepT K cl G H v (.scr ds)) (zs : Same G.Z H) : ∃ a, v = .ref a ∧ SqL K H a (ds.map V.int) := by
  rcases h with h | ⟨a, as, e, c, _⟩
  · cases h with
    | scr hs => exact ⟨_, rfl, zs.seq hs⟩
  · cases c
theorem RepT.tup {ds : List D} (h : RepT K cl G H v (.tup ds)) (zs : Same G.Z H) : ∃ a vs, v = .ref a ∧ SqT K H a vs ∧ RepAll K cl G.mu G.Z vs ds := by
  rcases h with h | ⟨a, as, e, c, _⟩
  · cases h with
    | tup hs ha => exact ⟨_, _, rfl, sameT zs hs, ha⟩
  · cases c
theorem RepT.dic {ds : List (Key × D)} (h : RepT K cl G H v (.dic ds)) (zs : Same G.Z H) : ∃ a vs, v = .ref a ∧ H a = some (.dK vs) ∧ RepK K cl G.mu G.Z vs ds := by
  rcases h with h | ⟨a, as, e, c, _⟩
  · cases h with
    | dic hs ha => exact ⟨_, _, rfl, zs _ _ hs, ha⟩
  · cases c with
    | dic h1 r => exact ⟨a, _, e, h1, r⟩
theorem RepT.dit {ds : List (NestedKey × D)} (h : RepT K cl G H v (.dit ds)) (zs : Same G.Z H) : ∃ a vs, v = .ref a ∧ H a = some (nestO cl.P cl.w a vs) ∧ RepN K cl G.mu G.Z vs ds := by
  rcases h with h | ⟨a, as, e, c, _⟩
  · cases h with
    | dit hs ha => exact ⟨_, _, rfl, zs _ _ hs, ha⟩
  · cases c with
    | dit h1 r => exact ⟨a, _, e, h1, r⟩
end
end
end PM
set_option maxHeartbeats 1000000
/-! PM4: operators and comparisons told of data. -/
namespace PM
open PySem PySem.Spec PyProof.Rows L2

theorem lim_ok {n : Nat} (h : n ≤ 1000000) : n ≤ sizeLine := Nat.le_trans h (by rw [sizeLine_eq]; decide)
theorem lim_lt {n : Nat} (h : n < 1000000) : n < sizeLine := Nat.lt_of_lt_of_le h (by rw [sizeLine_eq]; decide)

section
variable {X : Cx} {cl : ClsP} {W : WX} {a b e c : Expr} {ca cb cc : Ex} {pos : Pos}

/-! ### arithmetic -/
def oAdd : D → D → Option D
  | .int i, .int j => some (.int (i + j))
  | .str x, .str y => if x.length + y.length ≤ 1000000 then some (.str (x ++ y)) else none
  | .lst xs, .lst ys => if xs.length + ys.length ≤ 1000000 then some (.lst (xs ++ ys)) else none
  | .tup xs, .tup ys => if xs.length + ys.length ≤ 1000000 then some (.tup (xs ++ ys)) else none
  | _, _ => none
def oCat : D → D → Option D
  | .lst xs, .lst ys => if xs.length + ys.length ≤ 1000000 then some (.lst (xs ++ ys)) else none
  | _, _ => none
/-- a new thing, frozen -/
theorem OpS.fz {r : R2} {f : D → D → Option D} (h : OpS X cl r f (PN X.K cl)) : OpS X cl r f (PF X.K cl) := fun R p1 p2 q k => by
  refine h R p1 p2 q fun v G' H' R' s ⟨a, as, e, n, hn⟩ => ?_
  subst e
  obtain ⟨R2, s2, rp⟩ := R'.freeze R.stp s n hn
  exact k _ _ _ R2 s2 rp
theorem os_cat : OpS X cl rCat oCat (PN X.K cl) := fun {G0 H0 S ρ G σ H x y d e z Q} R p1 p2 q k => by
  cases d <;> cases e <;> simp only [oCat, reduceCtorEq] at q
  rename_i xs ys
  split at q
  · cases q
    rename_i hz
    obtain ⟨a1, vs, rfl, h1, r1⟩ := p1.lst R.ok.zsub
    obtain ⟨a2, ws, rfl, h2, r2⟩ := p2.lst R.ok.zsub
    refine ⟨a1, a2, vs, ws, rfl, rfl, h1, h2, by rw [r1.length, r2.length]; exact lim_ok hz, fun p hp => ?_⟩
    obtain ⟨R', s', n⟩ := R.newL hp (r1.append r2)
    exact k _ _ _ R' s' ⟨p, [p], rfl, n, fun b hb => by simp at hb; subst hb; exact hp⟩
  · cases q
theorem oadd_lst {d e : D} {z : D} (h : oCat d e = some z) : oAdd d e = some z := by
  cases d <;> cases e <;> simp only [oCat, oAdd, reduceCtorEq] at h ⊢
  exact h
def rAddAll (K : PySem.W.Frag) : R2 := fun x y H Q => rI0 (fun i j => .int (i + j)) x y H Q ∨ (∃ i j, x = .str i ∧ y = .str j ∧ i.length + j.length ≤ sizeLine ∧ Q (.str (i ++ j)) H) ∨ rCat x y H Q ∨ rCatA K x y H Q
theorem op_addAll : OpR X (binaryOp .Add) (rAddAll X.K) := op_add.or (op_add_str.or (op_cat.or op_catA))
theorem os_add : OpS X cl (rAddAll X.K) oAdd (PF X.K cl) := fun {G0 H0 S ρ G σ H x y d e z Q} R p1 p2 q k => by
  cases d <;> cases e <;> simp only [oAdd, reduceCtorEq] at q
  · rename_i i j
    cases q
    have e1 := p1.int
    have e2 := p2.int
    exact .inl ⟨i, j, e1, e2, k _ G H R (Stp.refl _ _) (.int _)⟩
  · rename_i i j
    split at q
    · cases q
      rename_i hz
      exact .inr (.inl ⟨i, j, p1.str, p2.str, lim_ok hz, k _ G H R (Stp.refl _ _) (.str _)⟩)
    · cases q
  · rename_i xs ys
    refine .inr (.inr (.inl (OpS.fz os_cat R p1 p2 (z := z) ?_ k)))
    exact q
  · rename_i xs ys
    split at q
    · cases q
      rename_i hz
      obtain ⟨a1, vs, rfl, h1, r1⟩ := p1.tup R.ok.zsub
      obtain ⟨a2, ws, rfl, h2, r2⟩ := p2.tup R.ok.zsub
      refine .inr (.inr (.inr ⟨a1, a2, vs, ws, rfl, rfl, h1, h2, by rw [r1.length, r2.length]; exact lim_ok hz, fun h => ?_, fun _ h => ?_, fun _ _ p hp => ?_⟩))
      · subst h
        cases r1
        rcases p2 with p2 | ⟨_, _, _, c, _⟩
        · exact k _ G H R (Stp.refl _ _) p2
        · cases c
      · subst h
        cases r2
        rw [List.append_nil] at k
        rcases p1 with p1 | ⟨_, _, _, c, _⟩
        · exact k _ G H R (Stp.refl _ _) p1
        · cases c
      · obtain ⟨R', s', n⟩ := R.newF hp (.tup (vs ++ ws))
        exact k _ _ _ R' s' (.tup (.inl (.inl n)) (RepAll.mono s'.z s'.mu _ _ (r1.append r2)))
    · cases q
theorem se_add (ha : SB X cl W a ca) (hb : SB X cl W b cb) : SE X cl W (.BinOp a .Add b pos) (eBin oAdd ca cb) := sx_bin pfM op_addAll os_add ha hb
theorem sn_add (ha : SB X cl W a ca) (hb : SB X cl W b cb) : SN X cl W (.BinOp a .Add b pos) (eBin oCat ca cb) := sx_bin pnM op_cat os_cat ha hb

/-- two ints -/
theorem os_int {C : Int → Int → Prop} {g : Int → Int → D} {gv : Int → Int → V} {f : D → D → Option D} (hf : ∀ d e z, f d e = some z → ∃ i j, d = .int i ∧ e = .int j ∧ C i j ∧ z = g i j) (hg : ∀ i j mu Z, Rep X.K cl mu Z (gv i j) (g i j)) : OpS X cl (rI C gv) f (PF X.K cl) := fun {G0 H0 S ρ G σ H x y d e z Q} R p1 p2 q k => by
  obtain ⟨i, j, rfl, rfl, hc, rfl⟩ := hf d e z q
  exact ⟨i, j, p1.int, p2.int, hc, k _ G H R (Stp.refl _ _) (hg i j _ _)⟩
theorem os_int0 {g : Int → Int → D} {gv : Int → Int → V} {f : D → D → Option D} (hf : ∀ d e z, f d e = some z → ∃ i j, d = .int i ∧ e = .int j ∧ z = g i j) (hg : ∀ i j mu Z, Rep X.K cl mu Z (gv i j) (g i j)) : OpS X cl (rI0 gv) f (PF X.K cl) := fun {G0 H0 S ρ G σ H x y d e z Q} R p1 p2 q k => by
  obtain ⟨i, j, rfl, rfl, rfl⟩ := hf d e z q
  exact ⟨i, j, p1.int, p2.int, k _ G H R (Stp.refl _ _) (hg i j _ _)⟩
def oI (C : Int → Int → Bool) (g : Int → Int → D) : D → D → Option D
  | .int i, .int j => if C i j then some (g i j) else none
  | _, _ => none
theorem oI_some {C : Int → Int → Bool} {g : Int → Int → D} (d e z : D) (h : oI C g d e = some z) : ∃ i j, d = .int i ∧ e = .int j ∧ C i j = true ∧ z = g i j := by
  cases d <;> cases e <;> simp only [oI, reduceCtorEq] at h
  rename_i i j
  split at h
  · cases h
    exact ⟨i, j, rfl, rfl, by assumption, rfl⟩
  · cases h
def oI0 (g : Int → Int → D) : D → D → Option D
  | .int i, .int j => some (g i j)
  | _, _ => none
theorem oI0_some {g : Int → Int → D} (d e z : D) (h : oI0 g d e = some z) : ∃ i j, d = .int i ∧ e = .int j ∧ z = g i j := by
  cases d <;> cases e <;> simp only [oI0, reduceCtorEq] at h
  cases h
  exact ⟨_, _, rfl, rfl, rfl⟩
def cMul (i j : Int) : Bool := decide ((-(2 ^ 64) < i ∧ i < 2 ^ 64) ∨ (-(2 ^ 64) < j ∧ j < 2 ^ 64))
def cDiv (_ j : Int) : Bool := decide (0 < j ∧ j < 1073741824)
def cMod (_ j : Int) : Bool := decide (0 < j)
def cPow (i j : Int) : Bool := decide (0 ≤ j ∧ j ≤ 1000000 ∧ i.natAbs < 2 ^ 64)
def cShr (_ j : Int) : Bool := decide (0 ≤ j)
abbrev oSub := oI0 fun i j => .int (i - j)
abbrev oMulI := oI cMul fun i j => .int (i * j)
abbrev oDiv := oI cDiv fun i j => .int (i / j)
abbrev oMod := oI cMod fun i j => .int (i % j)
abbrev oPow := oI cPow fun i j => .int (i ^ j.toNat)
abbrev oShr := oI cShr fun i j => .int (i / 2 ^ j.toNat)
abbrev oLt := oI0 fun i j => .bl (decide (i < j))
abbrev oLe := oI0 fun i j => .bl (decide (i ≤ j))
abbrev oGt := oI0 fun i j => .bl (decide (j < i))
abbrev oGe := oI0 fun i j => .bl (decide (j ≤ i))
theorem os_sub : OpS X cl (rI0 fun i j => .int (i - j)) oSub (PF X.K cl) := os_int0 oI0_some fun _ _ _ _ => .int _
theorem cMul_ok {i j : Int} (h : cMul i j = true) : CMul i j := by
  unfold cMul at h
  unfold CMul
  simpa only [decide_eq_true_eq] using h
theorem cDiv_ok {i j : Int} (h : cDiv i j = true) : CDiv i j := by
  unfold cDiv at h
  unfold CDiv
  simpa only [decide_eq_true_eq] using h
theorem cPow_ok {i j : Int} (h : cPow i j = true) : CPow i j := by
  unfold cPow at h
  unfold CPow
  simpa only [decide_eq_true_eq] using h
theorem os_mul : OpS X cl (rI CMul fun i j => .int (i * j)) oMulI (PF X.K cl) := os_int (fun d e z h => let ⟨i, j, a, b, c, q⟩ := oI_some d e z h; ⟨i, j, a, b, cMul_ok c, q⟩) fun _ _ _ _ => .int _
theorem os_div : OpS X cl (rI CDiv fun i j => .int (i / j)) oDiv (PF X.K cl) := os_int (fun d e z h => let ⟨i, j, a, b, c, q⟩ := oI_some d e z h; ⟨i, j, a, b, cDiv_ok c, q⟩) fun _ _ _ _ => .int _
theorem os_mod : OpS X cl (rI (fun _ j => 0 < j) fun i j => .int (i % j)) oMod (PF X.K cl) := os_int (fun d e z h => let ⟨i, j, a, b, c, q⟩ := oI_some d e z h; ⟨i, j, a, b, of_decide_eq_true c, q⟩) fun _ _ _ _ => .int _
theorem os_pow : OpS X cl (rI CPow fun i j => .int (i ^ j.toNat)) oPow (PF X.K cl) := os_int (fun d e z h => let ⟨i, j, a, b, c, q⟩ := oI_some d e z h; ⟨i, j, a, b, cPow_ok c, q⟩) fun _ _ _ _ => .int _
theorem os_shr : OpS X cl (rI (fun _ j => 0 ≤ j) fun i j => .int (i / 2 ^ j.toNat)) oShr (PF X.K cl) := os_int (fun d e z h => let ⟨i, j, a, b, c, q⟩ := oI_some d e z h; ⟨i, j, a, b, of_decide_eq_true c, q⟩) fun _ _ _ _ => .int _
theorem os_lt : OpS X cl (rI0 fun i j => .bl (decide (i < j))) oLt (PF X.K cl) := os_int0 oI0_some fun _ _ _ _ => .bl _
theorem os_le : OpS X cl (rI0 fun i j => .bl (decide (i ≤ j))) oLe (PF X.K cl) := os_int0 oI0_some fun _ _ _ _ => .bl _
theorem os_gt : OpS X cl (rI0 fun i j => .bl (decide (j < i))) oGt (PF X.K cl) := os_int0 oI0_some fun _ _ _ _ => .bl _
theorem os_ge : OpS X cl (rI0 fun i j => .bl (decide (j ≤ i))) oGe (PF X.K cl) := os_int0 oI0_some fun _ _ _ _ => .bl _
theorem se_sub (ha : SB X cl W a ca) (hb : SB X cl W b cb) : SE X cl W (.BinOp a .Sub b pos) (eBin oSub ca cb) := sx_bin pfM op_sub os_sub ha hb
theorem se_div (ha : SB X cl W a ca) (hb : SB X cl W b cb) : SE X cl W (.BinOp a .FloorDiv b pos) (eBin oDiv ca cb) := sx_bin pfM op_fdiv os_div ha hb
theorem se_mod (ha : SB X cl W a ca) (hb : SB X cl W b cb) : SE X cl W (.BinOp a .Mod b pos) (eBin oMod ca cb) := sx_bin pfM op_mod os_mod ha hb
theorem se_pow (ha : SB X cl W a ca) (hb : SB X cl W b cb) : SE X cl W (.BinOp a .Pow b pos) (eBin oPow ca cb) := sx_bin pfM op_pow os_pow ha hb
theorem se_shr (ha : SB X cl W a ca) (hb : SB X cl W b cb) : SE X cl W (.BinOp a .RShift b pos) (eBin oShr ca cb) := sx_bin pfM op_shr os_shr ha hb
theorem se_lt (ha : SB X cl W a ca) (hb : SB X cl W b cb) : SE X cl W (.Compare a [.Lt] [b] pos) (eBin oLt ca cb) := se_cmp op_lt os_lt ha hb (nomark _)
theorem se_le (ha : SB X cl W a ca) (hb : SB X cl W b cb) : SE X cl W (.Compare a [.LtE] [b] pos) (eBin oLe ca cb) := se_cmp op_le os_le ha hb (nomark _)
theorem se_gt (ha : SB X cl W a ca) (hb : SB X cl W b cb) : SE X cl W (.Compare a [.Gt] [b] pos) (eBin oGt ca cb) := se_cmp op_gt os_gt ha hb (nomark _)
theorem se_ge (ha : SB X cl W a ca) (hb : SB X cl W b cb) : SE X cl W (.Compare a [.GtE] [b] pos) (eBin oGe ca cb) := se_cmp op_ge os_ge ha hb (nomark _)

/-! ### times -/
/-- text times int -/
def rRepS : R2 := fun x y H Q => ∃ i k, x = .str i ∧ y = .int k ∧ k ≤ 1000 ∧ -1000 ≤ k ∧ i.length ≤ 1000 ∧ Q (.str ⟨(List.replicate k.toNat i.cps.toList).flatten.toArray⟩) H
def oRep : D → D → Option D
  | .lst xs, .int k => if -1000000 ≤ k ∧ k ≤ 1000000 ∧ xs.length * k.toNat ≤ 1000000 then some (.lst (List.replicate k.toNat xs).flatten) else none
  | _, _ => none
theorem os_rep : OpS X cl rRep oRep (PN X.K cl) := fun {G0 H0 S ρ G σ H x y d e z Q} R p1 p2 q k => by
  cases d <;> cases e <;> simp only [oRep, reduceCtorEq] at q
  rename_i xs j
  split at q
  · cases q
    rename_i hz
    obtain ⟨a1, vs, rfl, h1, r1⟩ := p1.lst R.ok.zsub
    have e2 := p2.int
    subst e2
    refine ⟨a1, j, vs, rfl, rfl, h1, by have := hz.1; omega, by have := hz.2.1; omega, by rw [r1.length]; exact lim_ok hz.2.2, fun p hp => ?_⟩
    obtain ⟨R', s', n⟩ := R.newL hp (r1.replicate j.toNat)
    exact k _ _ _ R' s' ⟨p, [p], rfl, n, fun b hb => by simp at hb; subst hb; exact hp⟩
  · cases q
theorem sn_rep (ha : SB X cl W a ca) (hb : SB X cl W b cb) : SN X cl W (.BinOp a .Mult b pos) (eBin oRep ca cb) := sx_bin pnM op_rep os_rep ha hb
theorem se_mul (ha : SB X cl W a ca) (hb : SB X cl W b cb) : SE X cl W (.BinOp a .Mult b pos) (eBin oMulI ca cb) := sx_bin pfM op_mul os_mul ha hb

/-! ### minus -/
def eUn (f : D → Option D) (ca : Ex) : Ex := fun ρ S => (ca ρ S).bind fun d S => Res.opt (f d) S
def oNeg : D → Option D
  | .int i => some (.int (-i))
  | _ => none
theorem se_neg (ha : SB X cl W a ca) : SE X cl W (.UnaryOp .USub a pos) (eUn oNeg ca) := PE.weak (pe_un un_neg ha) fun σ H Q ⟨G0, H0, S, ρ, G, R, h⟩ => by
  refine tX.bind pfM R h fun d x S1 G1 H1 R1 s1 p1 h1 => ?_
  cases d <;> simp only [oNeg, Res.opt, Aft] at h1
  rename_i i
  exact ⟨i, RepT.int p1, h1 _ G1 H1 R1 (Stp.refl _ _) (.int _)⟩

/-! ### ==, in, over data -/
mutual
def D.py : D → Option PyData
  | .non => some .none
  | .bl b => some (.bool b)
  | .int i => some (.int i)
  | .str x => some (.str x)
  | .lst xs => (D.pys xs).map .list
  | .tup xs => (D.pys xs).map .tuple
  | _ => none
def D.pys : List D → Option (List PyData)
  | [] => some []
  | d :: ds => match D.py d, D.pys ds with
    | some p, some ps => some (p :: ps)
    | _, _ => none
end
section
variable {K : PySem.W.Frag} {mu : List Addr} {Z H : Hp} {G : Gh} {v : V}
mutual
theorem Rep.dp (hz : Same Z H) : ∀ (d : D) (v : V) (p : PyData), Rep K cl mu Z v d → d.py = some p → Dp K H v p
  | .non, _, _, h, e => by cases h; simp only [D.py] at e; cases e; exact .non
  | .bl _, _, _, h, e => by cases h; simp only [D.py] at e; cases e; exact .bl _
  | .int _, _, _, h, e => by cases h; simp only [D.py] at e; cases e; exact .int _
  | .str _, _, _, h, e => by cases h; simp only [D.py] at e; cases e; exact .str _
  | .lst ds, _, p, h, e => by
    cases h with
    | lst hs ha =>
      simp only [D.py] at e
      cases q : D.pys ds with
      | none => rw [q] at e; cases e
      | some ps =>
        rw [q] at e
        cases e
        exact .lst (.inl (.inl (hz _ _ hs))) (RepAll.dp hz ds _ ps ha q)
  | .tup ds, _, p, h, e => by
    cases h with
    | tup hs ha =>
      simp only [D.py] at e
      cases q : D.pys ds with
      | none => rw [q] at e; cases e
      | some ps =>
        rw [q] at e
        cases e
        exact .tup (sameT hz hs) (RepAll.dp hz ds _ ps ha q)
  | .dic _, _, _, _, e => by simp only [D.py] at e; cases e
  | .obj _ _, _, _, _, e => by simp only [D.py] at e; cases e
  | .rf _, _, _, _, e => by simp only [D.py] at e; cases e
  | .scr _, _, _, _, e => by simp only [D.py] at e; cases e
theorem RepAll.dp (hz : Same Z H) : ∀ (ds : List D) (vs : List V) (ps : List PyData), RepAll K cl mu Z vs ds → D.pys ds = some ps → DpAll K H vs ps
  | [], _, _, h, e => by cases h; simp only [D.pys] at e; cases e; exact .nil
  | d :: ds, _, _, h, e => by
    cases h with
    | cons h1 h2 =>
      simp only [D.pys] at e
      cases q1 : d.py with
      | none => rw [q1] at e; cases e
      | some p =>
        cases q2 : D.pys ds with
        | none => rw [q1, q2] at e; cases e
        | some ps =>
          rw [q1, q2] at e
          cases e
          exact .cons (Rep.dp hz d _ p h1 q1) (RepAll.dp hz ds _ ps h2 q2)
end
theorem RepT.dp {d : D} {p : PyData} (h : RepT K cl G H v d) (zs : Same G.Z H) (e : d.py = some p) : Dp K H v p := by
  rcases h with h | ⟨a, as, rfl, c, _⟩
  · exact Rep.dp zs d v p h e
  · cases c with
    | @lst vs ds h1 r =>
      simp only [D.py] at e
      cases q : D.pys ds with
      | none => rw [q] at e; cases e
      | some ps =>
        rw [q] at e
        cases e
        exact .lst (.inl (.inl h1)) (RepAll.dp zs ds _ ps r q)
    | dic h1 r => simp only [D.py] at e; cases e
    | dit h1 r => simp only [D.py] at e; cases e
    | nst h1 r n => simp only [D.py] at e; cases e
    | obj h1 h2 r => simp only [D.py] at e; cases e
mutual
theorem D.py_plain : ∀ (d : D) (p : PyData), d.py = some p → p.plain = true
  | .non, _, e => by simp only [D.py] at e; cases e; rfl
  | .bl _, _, e => by simp only [D.py] at e; cases e; rfl
  | .int _, _, e => by simp only [D.py] at e; cases e; rfl
  | .str _, _, e => by simp only [D.py] at e; cases e; rfl
  | .lst ds, _, e => by
    simp only [D.py] at e
    cases q : D.pys ds with
    | none => rw [q] at e; cases e
    | some ps => rw [q] at e; cases e; simp only [PyData.plain]; exact D.pys_plain ds ps q
  | .tup ds, _, e => by
    simp only [D.py] at e
    cases q : D.pys ds with
    | none => rw [q] at e; cases e
    | some ps => rw [q] at e; cases e; simp only [PyData.plain]; exact D.pys_plain ds ps q
  | .dic _, _, e => by simp only [D.py] at e; cases e
  | .obj _ _, _, e => by simp only [D.py] at e; cases e
  | .rf _, _, e => by simp only [D.py] at e; cases e
  | .scr _, _, e => by simp only [D.py] at e; cases e
theorem D.pys_plain : ∀ (ds : List D) (ps : List PyData), D.pys ds = some ps → PyData.plainAll ps = true
  | [], _, e => by simp only [D.pys] at e; cases e; rfl
  | d :: ds, _, e => by
    simp only [D.pys] at e
    cases q1 : d.py with
    | none => rw [q1] at e; cases e
    | some p =>
      cases q2 : D.pys ds with
      | none => rw [q1, q2] at e; cases e
      | some ps =>
        rw [q1, q2] at e
        cases e
        simp only [PyData.plainAll, D.py_plain d p q1, D.pys_plain ds ps q2, Bool.and_self]
end
end
def rEqP (K : PySem.W.Frag) : R2 := fun x y H Q => ∃ d e, Dp K H x d ∧ Dp K H y e ∧ d.plain = true ∧ e.plain = true ∧ min d.depth e.depth ≤ 60 ∧ Q (.bl (PyData.eqv d e)) H
def rNeP (K : PySem.W.Frag) : R2 := fun x y H Q => ∃ d e, Dp K H x d ∧ Dp K H y e ∧ d.plain = true ∧ e.plain = true ∧ min d.depth e.depth ≤ 60 ∧ Q (.bl (!PyData.eqv d e)) H
theorem op_eqP (hu : X.A.units + 64 < cLine) : OpR X (compareOp .Eq) (rEqP X.K) := by
  intro pins s σ H x y v u Q I rx ry h
  obtain ⟨d, e, hd, he, sd, se, hm, q⟩ := h
  obtain ⟨as, r1⟩ := Dp.reads I d x v hd rx
  obtain ⟨bs, r2⟩ := Dp.reads I e y u he ry
  exact SeqAt.eq_plain r1 r2 sd se (by omega) ⟨.bl _, H, I, rfl, q⟩
theorem op_neP (hu : X.A.units + 64 < cLine) : OpR X (compareOp .NotEq) (rNeP X.K) := by
  intro pins s σ H x y v u Q I rx ry h
  obtain ⟨d, e, hd, he, sd, se, hm, q⟩ := h
  obtain ⟨as, r1⟩ := Dp.reads I d x v hd rx
  obtain ⟨bs, r2⟩ := Dp.reads I e y u he ry
  exact SeqAt.ne_plain r1 r2 sd se (by omega) ⟨.bl _, H, I, rfl, q⟩
def D.eq? (d e : D) : Option Bool := match d.py, e.py with
  | some p, some q => if min p.depth q.depth ≤ 60 then some (PyData.eqv p q) else none
  | _, _ => none
def oEq (d e : D) : Option D := (D.eq? d e).map .bl
def oNe (d e : D) : Option D := (D.eq? d e).map fun b => .bl (!b)
theorem D.eq_some {d e : D} {k : Bool} (h : D.eq? d e = some k) : ∃ p q, d.py = some p ∧ e.py = some q ∧ min p.depth q.depth ≤ 60 ∧ k = PyData.eqv p q := by
  unfold D.eq? at h
  cases q1 : d.py with
  | none => rw [q1] at h; cases h
  | some p =>
    cases q2 : e.py with
    | none => rw [q1, q2] at h; cases h
    | some q =>
      rw [q1, q2] at h
      simp only at h
      split at h
      · cases h
        exact ⟨p, q, rfl, rfl, by assumption, rfl⟩
      · cases h
theorem os_eq : OpS X cl (rEqP X.K) oEq (PF X.K cl) := fun {G0 H0 S ρ G σ H x y d e z Q} R p1 p2 q k => by
  unfold oEq at q
  cases q1 : D.eq? d e with
  | none => rw [q1] at q; cases q
  | some b =>
    rw [q1] at q
    cases q
    obtain ⟨p, q, e1, e2, hm, rfl⟩ := D.eq_some q1
    exact ⟨p, q, p1.dp R.ok.zsub e1, p2.dp R.ok.zsub e2, D.py_plain _ _ e1, D.py_plain _ _ e2, hm, k _ G H R (Stp.refl _ _) (.bl _)⟩
theorem os_ne : OpS X cl (rNeP X.K) oNe (PF X.K cl) := fun {G0 H0 S ρ G σ H x y d e z Q} R p1 p2 q k => by
  unfold oNe at q
  cases q1 : D.eq? d e with
  | none => rw [q1] at q; cases q
  | some b =>
    rw [q1] at q
    cases q
    obtain ⟨p, q, e1, e2, hm, rfl⟩ := D.eq_some q1
    exact ⟨p, q, p1.dp R.ok.zsub e1, p2.dp R.ok.zsub e2, D.py_plain _ _ e1, D.py_plain _ _ e2, hm, k _ G H R (Stp.refl _ _) (.bl _)⟩
theorem se_eq (hu : X.A.units + 64 < cLine) (ha : SB X cl W a ca) (hb : SB X cl W b cb) : SE X cl W (.Compare a [.Eq] [b] pos) (eBin oEq ca cb) := se_cmp (op_eqP hu) os_eq ha hb (nomark _)
theorem se_ne (hu : X.A.units + 64 < cLine) (ha : SB X cl W a ca) (hb : SB X cl W b cb) : SE X cl W (.Compare a [.NotEq] [b] pos) (eBin oNe ca cb) := se_cmp (op_neP hu) os_ne ha hb (nomark _)

/-- x in a list, in a tuple, a sign in a text -/
def rInP (K : PySem.W.Frag) (neg : Bool) : R2 := fun x y H Q =>
  (∃ d ds, Dp K H x d ∧ (Dp K H y (.list ds) ∨ Dp K H y (.tuple ds)) ∧ d.plain = true ∧ PyData.plainAll ds = true ∧ min (PyData.depthAll ds) d.depth ≤ 60 ∧ Q (.bl (if neg then !(ds.any fun z => PyData.eqv z d) else ds.any fun z => PyData.eqv z d)) H) ∨
  (∃ (c : Nat) (z : Str), x = .str ⟨#[c]⟩ ∧ y = .str z ∧ Q (.bl (if neg then !decide (c ∈ z.cps.toList) else decide (c ∈ z.cps.toList))) H)
theorem op_inP (hu : X.A.units + 65 < cLine) : OpR X (compareOp .In) (rInP X.K false) := by
  intro pins s σ H x y v u Q I rx ry h
  rcases h with ⟨d, ds, hd, hy, sd, se, hm, q⟩ | h
  · obtain ⟨as, r1⟩ := Dp.reads I d x v hd rx
    rcases hy with hy | hy
    · obtain ⟨bs, r2⟩ := Dp.reads I (.list ds) y u hy ry
      exact SeqAt.in_list_data r2 r1 se sd (by omega) ⟨.bl _, H, I, rfl, q⟩
    · obtain ⟨bs, r2⟩ := Dp.reads I (.tuple ds) y u hy ry
      exact SeqAt.in_tuple_data r2 r1 se sd (by omega) ⟨.bl _, H, I, rfl, q⟩
  · exact op_in_sign pins s σ H x y v u Q I rx ry h
theorem op_notInP (hu : X.A.units + 65 < cLine) : OpR X (compareOp .NotIn) (rInP X.K true) := by
  intro pins s σ H x y v u Q I rx ry h
  rcases h with ⟨d, ds, hd, hy, sd, se, hm, q⟩ | h
  · obtain ⟨as, r1⟩ := Dp.reads I d x v hd rx
    rcases hy with hy | hy
    · obtain ⟨bs, r2⟩ := Dp.reads I (.list ds) y u hy ry
      exact SeqAt.notIn_list_data r2 r1 se sd (by omega) ⟨.bl _, H, I, rfl, q⟩
    · obtain ⟨bs, r2⟩ := Dp.reads I (.tuple ds) y u hy ry
      exact SeqAt.notIn_tuple_data r2 r1 se sd (by omega) ⟨.bl _, H, I, rfl, q⟩
  · exact op_notIn_sign pins s σ H x y v u Q I rx ry h
/-- x in y -/
def D.in? (x y : D) : Option Bool := match x, y with
  | .str w, .str z => if w.cps.size = 1 then some (decide (w.cps.getD 0 0 ∈ z.cps.toList)) else none
  | x, .lst ys => (match x.py, D.pys ys with
    | some p, some qs => if min (PyData.depthAll qs) p.depth ≤ 60 then some (qs.any fun z => PyData.eqv z p) else none
    | _, _ => none)
  | x, .tup ys => (match x.py, D.pys ys with
    | some p, some qs => if min (PyData.depthAll qs) p.depth ≤ 60 then some (qs.any fun z => PyData.eqv z p) else none
    | _, _ => none)
  | _, _ => none
def oIn (d e : D) : Option D := (D.in? d e).map .bl
def oNin (d e : D) : Option D := (D.in? d e).map fun b => .bl (!b)
theorem in_sem {K : PySem.W.Frag} {neg : Bool} {G : Gh} {H : Hp} {x y : V} {d e : D} {k : Bool} {Q : VK} (zs : Same G.Z H) (p1 : RepT K cl G H x d) (p2 : RepT K cl G H y e) (h : D.in? d e = some k) (q : Q (.bl (if neg then !k else k)) H) : rInP K neg x y H Q := by
  have seq : ∀ (ys : List D), (match d.py, D.pys ys with
    | some p, some qs => if min (PyData.depthAll qs) p.depth ≤ 60 then some (qs.any fun z => PyData.eqv z p) else none
    | _, _ => none) = some k → (∀ qs, D.pys ys = some qs → Dp K H y (.list qs) ∨ Dp K H y (.tuple qs)) → rInP K neg x y H Q := fun ys h hy => by
    cases q1 : d.py with
    | none => rw [q1] at h; cases h
    | some p =>
      cases q2 : D.pys ys with
      | none => rw [q1, q2] at h; cases h
      | some qs =>
        rw [q1, q2] at h
        simp only at h
        split at h
        · cases h
          exact .inl ⟨p, qs, p1.dp zs q1, hy qs q2, D.py_plain _ _ q1, D.pys_plain _ _ q2, by assumption, q⟩
        · cases h
  cases e with
  | lst ys =>
    refine seq ys (by cases d <;> exact h) fun qs e => .inl (p2.dp zs ?_)
    simp only [D.py, e]
    rfl
  | tup ys =>
    refine seq ys (by cases d <;> exact h) fun qs e => .inr (p2.dp zs ?_)
    simp only [D.py, e]
    rfl
  | str z =>
    cases d with
    | str w =>
      simp only [D.in?] at h
      split at h
      · cases h
        rename_i hw
        refine .inr ⟨w.cps.getD 0 0, z, ?_, p2.str, q⟩
        rw [p1.str]
        obtain ⟨⟨l⟩⟩ := w
        match l, hw with
        | [c], _ => rfl
      · cases h
    | _ => simp only [D.in?, reduceCtorEq] at h
  | _ => cases d <;> simp only [D.in?, reduceCtorEq] at h
theorem os_in : OpS X cl (rInP X.K false) oIn (PF X.K cl) := fun {G0 H0 S ρ G σ H x y d e z Q} R p1 p2 q k => by
  unfold oIn at q
  cases q1 : D.in? d e with
  | none => rw [q1] at q; cases q
  | some b =>
    rw [q1] at q
    cases q
    exact in_sem R.ok.zsub p1 p2 q1 (k _ G H R (Stp.refl _ _) (.bl _))
theorem os_nin : OpS X cl (rInP X.K true) oNin (PF X.K cl) := fun {G0 H0 S ρ G σ H x y d e z Q} R p1 p2 q k => by
  unfold oNin at q
  cases q1 : D.in? d e with
  | none => rw [q1] at q; cases q
  | some b =>
    rw [q1] at q
    cases q
    exact in_sem R.ok.zsub p1 p2 q1 (k _ G H R (Stp.refl _ _) (.bl _))
theorem se_in (hu : X.A.units + 65 < cLine) (ha : SB X cl W a ca) (hb : SB X cl W b cb) (hm : behindInMarks .In b = false) : SE X cl W (.Compare a [.In] [b] pos) (eBin oIn ca cb) := se_cmp (op_inP hu) os_in ha hb hm
theorem se_nin (hu : X.A.units + 65 < cLine) (ha : SB X cl W a ca) (hb : SB X cl W b cb) (hm : behindInMarks .NotIn b = false) : SE X cl W (.Compare a [.NotIn] [b] pos) (eBin oNin ca cb) := se_cmp (op_notInP hu) os_nin ha hb hm

/-! ### is None -/
def D.isNon : D → Bool
  | .non => true
  | _ => false
theorem RepT.isNon {K : PySem.W.Frag} {G : Gh} {H : Hp} {x : V} {d : D} (h : RepT K cl G H x d) : decide (x = V.non) = d.isNon := by
  rcases h with h | ⟨a, as, rfl, c, _⟩
  · cases h <;> simp [D.isNon]
  · cases c <;> simp [D.isNon]
def oIs (d e : D) : Option D := match e with
  | .non => some (.bl d.isNon)
  | _ => none
def oIsN (d e : D) : Option D := match e with
  | .non => some (.bl (!d.isNon))
  | _ => none
theorem os_is : OpS X cl (fun x y H Q => y = .non ∧ Q (.bl (decide (x = .non))) H) oIs (PF X.K cl) := fun {G0 H0 S ρ G σ H x y d e z Q} R p1 p2 q k => by
  cases e <;> simp only [oIs, reduceCtorEq] at q
  cases q
  exact ⟨p2.non, by rw [p1.isNon]; exact k _ G H R (Stp.refl _ _) (.bl _)⟩
theorem os_isN : OpS X cl (fun x y H Q => y = .non ∧ Q (.bl (!decide (x = .non))) H) oIsN (PF X.K cl) := fun {G0 H0 S ρ G σ H x y d e z Q} R p1 p2 q k => by
  cases e <;> simp only [oIsN, reduceCtorEq] at q
  cases q
  exact ⟨p2.non, by rw [p1.isNon]; exact k _ G H R (Stp.refl _ _) (.bl _)⟩
theorem se_is (ha : SB X cl W a ca) (hb : SB X cl W b cb) : SE X cl W (.Compare a [.Is] [b] pos) (eBin oIs ca cb) := se_cmp op_isN os_is ha hb (nomark _)
theorem se_isN (ha : SB X cl W a ca) (hb : SB X cl W b cb) : SE X cl W (.Compare a [.IsNot] [b] pos) (eBin oIsN ca cb) := se_cmp op_notN os_isN ha hb (nomark _)
end
end PM
set_option maxHeartbeats 1000000
/-! PM5: tests, and, or, not, displays, subscripts, slices, built-in functions. -/
namespace PM
open PySem PySem.Spec PyProof.Rows L2

section
variable {X : Cx} {cl : ClsP} {W : WX} {a b e c : Expr} {ca cb cc : Ex} {pos : Pos} {ta tb : Tx} {es : List Expr} {rest : List Expr}

/-! ### truth -/
def D.truth : D → Option Bool
  | .non => some false
  | .bl b => some b
  | .int i => some (i != 0)
  | .str x => if x.length ≤ 1000000 then some ((x.length : Int) != 0) else none
  | .lst xs => some (!xs.isEmpty)
  | .tup xs => some (!xs.isEmpty)
  | .scr xs => some (!xs.isEmpty)
  | .dic kvs => some (!kvs.isEmpty)
  | _ => none
theorem isEmpty_len {α β : Type} : ∀ {xs : List α} {ys : List β}, xs.length = ys.length → xs.isEmpty = ys.isEmpty
  | [], [], _ => rfl
  | _ :: _, _ :: _, _ => rfl
theorem RepT.tru {K : PySem.W.Frag} {G : Gh} {H : Hp} {v : V} {d : D} {k : Bool} (h : RepT K cl G H v d) (zs : Same G.Z H) (e : d.truth = some k) : TruV K v H k := by
  cases d with
  | non => rw [h.non]; cases e; rfl
  | bl b => rw [h.bl]; cases e; rfl
  | int i => rw [h.int]; cases e; rfl
  | str x =>
    rw [h.str]
    simp only [D.truth] at e
    split at e
    · cases e; exact ⟨lim_ok (by assumption), rfl⟩
    · cases e
  | lst xs =>
    obtain ⟨p, vs, rfl, h1, r⟩ := h.lst zs
    cases e
    exact .inl ⟨vs, .inl (.inl h1), by rw [isEmpty_len r.length]⟩
  | tup xs =>
    obtain ⟨p, vs, rfl, h1, r⟩ := h.tup zs
    cases e
    exact .inr (.inl ⟨vs, h1, by rw [isEmpty_len r.length]⟩)
  | scr xs =>
    obtain ⟨p, rfl, h1⟩ := h.scr zs
    cases e
    exact .inl ⟨_, h1, by rw [isEmpty_len (List.length_map _)]⟩
  | exn n => cases e
  | dit n => cases e
  | nst n => cases e
  | dic kvs =>
    obtain ⟨p, vs, rfl, h1, r⟩ := h.dic zs
    cases e
    exact .inr (.inr ⟨vs, h1, by rw [isEmpty_len r.length]⟩)
  | obj c fs => simp only [D.truth, reduceCtorEq] at e
  | rf n => simp only [D.truth, reduceCtorEq] at e
def eTr (ca : Ex) : Tx := fun ρ S => (ca ρ S).bind fun d S => Res.opt d.truth S
/-- a value as a test -/
theorem st_val (ha : SB X cl W a ca) (he : ∀ whole, isTrue a X.env whole = (do let v ← whole; standAt a.pos; holding [v] (truthy v))) : STt X cl W a (eTr ca) := PT.weak (pt_truth ha he) fun σ H Q ⟨G0, H0, S, ρ, G, R, h⟩ => by
  refine tX.bind ptM R h fun d x S1 G1 H1 R1 s1 p1 h1 => ?_
  cases q : d.truth with
  | none => rw [q] at h1; exact h1.elim
  | some k =>
    rw [q] at h1
    exact ⟨k, RepT.tru p1 R1.ok.zsub q, h1 _ G1 H1 R1 (Stp.refl _ _) rfl⟩
/-- the outcome is a truth -/
def Bls (f : D → D → Option D) : Prop := ∀ d e z, f d e = some z → ∃ k, z = .bl k
theorem test_of {f : D → D → Option D} (hb : Bls f) {σ : L2.St} {H : Hp} {Q : Bool → Hp → Prop} (h : tX X.K cl PT1 W (eTr (eBin f ca cb)) σ H Q) : tX X.K cl (PF X.K cl) W (eBin f ca cb) σ H (fun x H' => ∃ k, x = .bl k ∧ Q k H') := by
  obtain ⟨G0, H0, S, ρ, G, R, h⟩ := h
  refine ⟨G0, H0, S, ρ, G, R, ?_⟩
  have hh : ∀ d S', eBin f ca cb ρ S = .ok d S' → ∃ k, d = .bl k := fun d S' q => by
    unfold eBin at q
    cases q1 : ca ρ S with
    | ok d1 S1 =>
      rw [q1] at q
      simp only [Res.bind] at q
      cases q2 : cb ρ S1 with
      | ok d2 S2 =>
        rw [q2] at q
        simp only at q
        cases q3 : f d1 d2 with
        | none => rw [q3] at q; cases q
        | some z => rw [q3] at q; cases q; exact hb _ _ _ q3
      | exc n S2 => rw [q2] at q; cases q
      | stuck => rw [q2] at q; cases q
    | exc n S1 => rw [q1] at q; cases q
    | stuck => rw [q1] at q; cases q
  unfold eTr at h
  cases q : eBin f ca cb ρ S with
  | ok d S' =>
    rw [q] at h
    obtain ⟨k, rfl⟩ := hh d S' q
    intro v G' H' R' s p
    cases p
    exact ⟨k, rfl, h k G' H' R' s rfl⟩
  | exc n S' => rw [q] at h; exact h
  | stuck => rw [q] at h; exact h
theorem st_cmp {op : CmpOp} {r : R2} {f : D → D → Option D} (hb : Bls f) (ho : OpR X (compareOp op) r) (hs : OpS X cl r f (PF X.K cl)) (ha : SB X cl W a ca) (hb' : SB X cl W b cb) (hm : behindInMarks op b = false) : STt X cl W (.Compare a [op] [b] pos) (eTr (eBin f ca cb)) :=
  PT.weak (pt_cmpR ho ha hb' hm) fun σ H Q h => bin_sem pfM hs (test_of hb h)
theorem bls_eq : Bls oEq := fun d e z h => by
  unfold oEq at h
  cases q : D.eq? d e with
  | none => rw [q] at h; cases h
  | some b => rw [q] at h; cases h; exact ⟨_, rfl⟩
theorem bls_ne : Bls oNe := fun d e z h => by
  unfold oNe at h
  cases q : D.eq? d e with
  | none => rw [q] at h; cases h
  | some b => rw [q] at h; cases h; exact ⟨_, rfl⟩
theorem bls_in : Bls oIn := fun d e z h => by
  unfold oIn at h
  cases q : D.in? d e with
  | none => rw [q] at h; cases h
  | some b => rw [q] at h; cases h; exact ⟨_, rfl⟩
theorem bls_nin : Bls oNin := fun d e z h => by
  unfold oNin at h
  cases q : D.in? d e with
  | none => rw [q] at h; cases h
  | some b => rw [q] at h; cases h; exact ⟨_, rfl⟩
theorem bls_is : Bls oIs := fun d e z h => by cases e <;> simp only [oIs, reduceCtorEq] at h; cases h; exact ⟨_, rfl⟩
theorem bls_isN : Bls oIsN := fun d e z h => by cases e <;> simp only [oIsN, reduceCtorEq] at h; cases h; exact ⟨_, rfl⟩
theorem bls_I {p : Int → Int → Bool} : Bls (oI0 fun i j => .bl (p i j)) := fun d e z h => by
  obtain ⟨i, j, _, _, rfl⟩ := oI0_some d e z h
  exact ⟨_, rfl⟩
theorem st_lt (ha : SB X cl W a ca) (hb : SB X cl W b cb) : STt X cl W (.Compare a [.Lt] [b] pos) (eTr (eBin oLt ca cb)) := st_cmp bls_I op_lt os_lt ha hb (nomark _)
theorem st_le (ha : SB X cl W a ca) (hb : SB X cl W b cb) : STt X cl W (.Compare a [.LtE] [b] pos) (eTr (eBin oLe ca cb)) := st_cmp bls_I op_le os_le ha hb (nomark _)
theorem st_gt (ha : SB X cl W a ca) (hb : SB X cl W b cb) : STt X cl W (.Compare a [.Gt] [b] pos) (eTr (eBin oGt ca cb)) := st_cmp bls_I op_gt os_gt ha hb (nomark _)
theorem st_ge (ha : SB X cl W a ca) (hb : SB X cl W b cb) : STt X cl W (.Compare a [.GtE] [b] pos) (eTr (eBin oGe ca cb)) := st_cmp bls_I op_ge os_ge ha hb (nomark _)
theorem st_eq (hu : X.A.units + 64 < cLine) (ha : SB X cl W a ca) (hb : SB X cl W b cb) : STt X cl W (.Compare a [.Eq] [b] pos) (eTr (eBin oEq ca cb)) := st_cmp bls_eq (op_eqP hu) os_eq ha hb (nomark _)
theorem st_ne (hu : X.A.units + 64 < cLine) (ha : SB X cl W a ca) (hb : SB X cl W b cb) : STt X cl W (.Compare a [.NotEq] [b] pos) (eTr (eBin oNe ca cb)) := st_cmp bls_ne (op_neP hu) os_ne ha hb (nomark _)
theorem st_in (hu : X.A.units + 65 < cLine) (ha : SB X cl W a ca) (hb : SB X cl W b cb) (hm : behindInMarks .In b = false) : STt X cl W (.Compare a [.In] [b] pos) (eTr (eBin oIn ca cb)) := st_cmp bls_in (op_inP hu) os_in ha hb hm
theorem st_nin (hu : X.A.units + 65 < cLine) (ha : SB X cl W a ca) (hb : SB X cl W b cb) (hm : behindInMarks .NotIn b = false) : STt X cl W (.Compare a [.NotIn] [b] pos) (eTr (eBin oNin ca cb)) := st_cmp bls_nin (op_notInP hu) os_nin ha hb hm
theorem st_is (ha : SB X cl W a ca) (hb : SB X cl W b cb) : STt X cl W (.Compare a [.Is] [b] pos) (eTr (eBin oIs ca cb)) := st_cmp bls_is op_isN os_is ha hb (nomark _)
theorem st_isN (ha : SB X cl W a ca) (hb : SB X cl W b cb) : STt X cl W (.Compare a [.IsNot] [b] pos) (eTr (eBin oIsN ca cb)) := st_cmp bls_isN op_notN os_isN ha hb (nomark _)

/-! ### and, or, not as tests -/
def tAndD (ta tb : Tx) : Tx := fun ρ S => (ta ρ S).bind fun k S => if k = true then tb ρ S else .ok false S
def tOrD (ta tb : Tx) : Tx := fun ρ S => (ta ρ S).bind fun k S => if k = true then .ok true S else tb ρ S
def tNotD (ta : Tx) : Tx := fun ρ S => (ta ρ S).bind fun k S => .ok (!k) S
theorem sw_and1 (ha : STt X cl W a ta) : SW X cl W (.BoolOp .And [a] pos) ta := pw_and1 ha
theorem sw_or1 (ha : STt X cl W a ta) : SW X cl W (.BoolOp .Or [a] pos) ta := pw_or1 ha
theorem sw_and (ha : STt X cl W a ta) (hb : SW X cl W (.BoolOp .And (b :: rest) pos) tb) : SW X cl W (.BoolOp .And (a :: b :: rest) pos) (tAndD ta tb) := PW.weak (pw_and ha hb) fun σ H Q ⟨G0, H0, S, ρ, G, R, h⟩ => by
  refine tX.bind (Pa := PT1) ptM R h fun d x S1 G1 H1 R1 s1 p1 h1 => ?_
  cases (show x = d from p1)
  cases d with
  | true => exact ⟨_, _, _, _, _, R1, h1⟩
  | false => exact h1 _ G1 H1 R1 (Stp.refl _ _) rfl
theorem sw_or (ha : STt X cl W a ta) (hb : SW X cl W (.BoolOp .Or (b :: rest) pos) tb) : SW X cl W (.BoolOp .Or (a :: b :: rest) pos) (tOrD ta tb) := PW.weak (pw_or ha hb) fun σ H Q ⟨G0, H0, S, ρ, G, R, h⟩ => by
  refine tX.bind (Pa := PT1) ptM R h fun d x S1 G1 H1 R1 s1 p1 h1 => ?_
  cases (show x = d from p1)
  cases d with
  | true => exact h1 _ G1 H1 R1 (Stp.refl _ _) rfl
  | false => exact ⟨_, _, _, _, _, R1, h1⟩
theorem st_w (h : SW X cl W a ta) : STt X cl W a ta := PW.pt h
theorem st_not (ha : STt X cl W a ta) : STt X cl W (.UnaryOp .Not a pos) (tNotD ta) := PT.weak (pt_not ha) fun σ H Q ⟨G0, H0, S, ρ, G, R, h⟩ => by
  refine tX.bind (Pa := PT1) ptM R h fun d x S1 G1 H1 R1 s1 p1 h1 => ?_
  cases (show x = d from p1)
  exact h1 _ G1 H1 R1 (Stp.refl _ _) rfl
/-! ### .. as values -/
def eAndD (ca cb : Ex) : Ex := fun ρ S => (ca ρ S).bind fun d S => match d with
  | .bl true => cb ρ S
  | .bl false => .ok (.bl false) S
  | _ => .stuck
def eOrD (ca cb : Ex) : Ex := fun ρ S => (ca ρ S).bind fun d S => match d with
  | .bl true => .ok (.bl true) S
  | .bl false => cb ρ S
  | _ => .stuck
def eNotD (ca : Ex) : Ex := fun ρ S => (ca ρ S).bind fun d S => match d with
  | .bl k => .ok (.bl (!k)) S
  | _ => .stuck
theorem se_one {op} (h : SE X cl W a ca) : SE X cl W (.BoolOp op [a] pos) ca := pe_one h
theorem se_and (ha : SB X cl W a ca) (hb : SE X cl W (.BoolOp .And (b :: rest) pos) cb) : SE X cl W (.BoolOp .And (a :: b :: rest) pos) (eAndD ca cb) := PE.weak (pe_and ha hb) fun σ H Q ⟨G0, H0, S, ρ, G, R, h⟩ => by
  refine tX.bind pfM R h fun d x S1 G1 H1 R1 s1 p1 h1 => ?_
  cases d <;> simp only [Aft] at h1
  rename_i k
  refine ⟨k, RepT.bl p1, ?_⟩
  cases k with
  | true => exact ⟨_, _, _, _, _, R1, h1⟩
  | false => exact h1 _ G1 H1 R1 (Stp.refl _ _) (.bl _)
theorem se_or (ha : SB X cl W a ca) (hb : SE X cl W (.BoolOp .Or (b :: rest) pos) cb) : SE X cl W (.BoolOp .Or (a :: b :: rest) pos) (eOrD ca cb) := PE.weak (pe_or ha hb) fun σ H Q ⟨G0, H0, S, ρ, G, R, h⟩ => by
  refine tX.bind pfM R h fun d x S1 G1 H1 R1 s1 p1 h1 => ?_
  cases d <;> simp only [Aft] at h1
  rename_i k
  refine ⟨k, RepT.bl p1, ?_⟩
  cases k with
  | true => exact h1 _ G1 H1 R1 (Stp.refl _ _) (.bl _)
  | false => exact ⟨_, _, _, _, _, R1, h1⟩
theorem se_not (ha : SB X cl W a ca) : SE X cl W (.UnaryOp .Not a pos) (eNotD ca) := PE.weak (pe_not ha) fun σ H Q ⟨G0, H0, S, ρ, G, R, h⟩ => by
  refine tX.bind pfM R h fun d x S1 G1 H1 R1 s1 p1 h1 => ?_
  cases d <;> simp only [Aft] at h1
  rename_i k
  exact ⟨k, RepT.bl p1, h1 _ G1 H1 R1 (Stp.refl _ _) (.bl _)⟩
def eIf (tc : Tx) (ca cb : Ex) : Ex := fun ρ S => (tc ρ S).bind fun k S => if k = true then ca ρ S else cb ρ S
theorem se_if {tc : Tx} (hc : STt X cl W c tc) (ha : SE X cl W a ca) (hb : SE X cl W b cb) : SE X cl W (.IfExp c a b pos) (eIf tc ca cb) := PE.weak (pe_ifExp hc ha hb) fun σ H Q ⟨G0, H0, S, ρ, G, R, h⟩ => by
  refine tX.bind (Pa := PT1) pfM R h fun d x S1 G1 H1 R1 s1 p1 h1 => ?_
  cases (show x = d from p1)
  cases d with
  | true => exact ⟨_, _, _, _, _, R1, h1⟩
  | false => exact ⟨_, _, _, _, _, R1, h1⟩
/-- a op b op' c -/
def eChain (f f' : D → D → Option D) (ca cb cc : Ex) : Ex := fun ρ S => (ca ρ S).bind fun d S => (cb ρ S).bind fun e S => match f d e with
  | some (.bl true) => (cc ρ S).bind fun u S => Res.opt (f' e u) S
  | some (.bl false) => .ok (.bl false) S
  | _ => .stuck
theorem chain_sem {r r' : R2} {f f' : D → D → Option D} (hs : OpS X cl r f (PF X.K cl)) (hs' : OpS X cl r' f' (PF X.K cl)) {σ : L2.St} {H : Hp} {Q : VK} (h : tX X.K cl (PF X.K cl) W (eChain f f' ca cb cc) σ H Q) :
    tChain r r' (tX X.K cl (PB X.K cl) W ca) (tX X.K cl (PB X.K cl) W cb) (tX X.K cl (PB X.K cl) W cc) σ H Q := by
  obtain ⟨G0, H0, S, ρ, G, R, h⟩ := h
  refine tX.bind pfM R h fun d x S1 G1 H1 R1 s1 p1 h1 => ?_
  refine tX.bind pfM R1 h1 fun e y S2 G2 H2 R2 s2 p2 h2 => ?_
  cases q : f d e with
  | none => simp only [q, Aft] at h2
  | some z =>
    simp only [q] at h2
    cases z <;> simp only [Aft] at h2
    rename_i k
    refine hs R2 (RepT.stp p1 s2) p2 q fun v G3 H3 R3 s3 p3 => ?_
    cases p3
    refine ⟨k, rfl, ?_⟩
    cases k with
    | true =>
      refine tX.bind pfM R3 (Aft.pre pfM (r := (cc ρ S2).bind fun u S => Res.opt (f' e u) S) h2 s3) fun u w S4 G4 H4 R4 s4 p4 h4 => ?_
      cases q4 : f' e u with
      | none => rw [q4] at h4; exact h4.elim
      | some z4 =>
        rw [q4] at h4
        exact hs' R4 (RepT.stp p2 (s3.trans s4)) p4 q4 fun v G' H' R' s' p' => h4 v G' H' R' s' p'
    | false => exact h2 _ G3 H3 R3 s3 (.bl _)
theorem se_chain {op op' : CmpOp} {r r' : R2} {f f' : D → D → Option D} (ho : OpR X (compareOp op) r) (ho' : OpR X (compareOp op') r') (hs : OpS X cl r f (PF X.K cl)) (hs' : OpS X cl r' f' (PF X.K cl)) {t : TE}
    (hp : PE X e t) (ht : t = tChain r r' (tX X.K cl (PB X.K cl) W ca) (tX X.K cl (PB X.K cl) W cb) (tX X.K cl (PB X.K cl) W cc)) : SE X cl W e (eChain f f' ca cb cc) := PE.weak hp fun _ _ _ h => by
  rw [ht]
  exact chain_sem hs hs' h

/-! ### arguments, displays -/
def aNil : Ax := fun _ S => .ok [] S
def aCons (ca : Ex) (cr : Ax) : Ax := fun ρ S => (ca ρ S).bind fun d S => (cr ρ S).bind fun ds S => .ok (d :: ds) S
theorem sa_nil : SA X cl W [] [] aNil := PA.weak pa_nil fun σ H Q ⟨G0, H0, S, ρ, G, R, h⟩ => h _ G H R (Stp.refl _ _) .nil
theorem sa_f {bm : List Bool} {cr : Ax} (ha : SE X cl W e ca) (hr : SA X cl W bm es cr) (hs : starEach (e :: es) X.env = (false, eval e X.env) :: starEach es X.env := by rfl) : SA X cl W (false :: bm) (e :: es) (aCons ca cr) := PA.weak (pa_cons ha hr hs) fun σ H Q ⟨G0, H0, S, ρ, G, R, h⟩ => by
  refine tX.bind (Pa := PF X.K cl) paM R h fun d x S1 G1 H1 R1 s1 p1 h1 => ?_
  refine tX.bind (Pa := PA1 X.K cl bm) paM R1 h1 fun ds xs S2 G2 H2 R2 s2 p2 h2 => ?_
  exact h2 _ G2 H2 R2 (Stp.refl _ _) (.fr (RepG.stp s2 p1) p2)
theorem sa_b {bm : List Bool} {cr : Ax} (ha : SB X cl W e ca) (hr : SA X cl W bm es cr) (hs : starEach (e :: es) X.env = (false, eval e X.env) :: starEach es X.env := by rfl) : SA X cl W (true :: bm) (e :: es) (aCons ca cr) := PA.weak (pa_cons ha hr hs) fun σ H Q ⟨G0, H0, S, ρ, G, R, h⟩ => by
  refine tX.bind (Pa := PB X.K cl) paM R h fun d x S1 G1 H1 R1 s1 p1 h1 => ?_
  refine tX.bind (Pa := PA1 X.K cl bm) paM R1 h1 fun ds xs S2 G2 H2 R2 s2 p2 h2 => ?_
  exact h2 _ G2 H2 R2 (Stp.refl _ _) (.bo (RepT.stp p1 s2) p2)
theorem ArgsOk.reps {K : PySem.W.Frag} {G : Gh} {H : Hp} : ∀ {bm : List Bool} {vs : List V} {ds : List D}, ArgsOk K cl G H bm vs ds → bm.all (!·) = true → RepAll K cl G.mu G.Z vs ds
  | _, _, _, .nil, _ => .nil
  | _, _, _, .fr h t, e => .cons h (t.reps (by simpa using e))
  | _, _, _, .bo h t, e => by simp at e
def eLst (ca : Ax) : Ex := fun ρ S => (ca ρ S).bind fun ds S => if ds.length ≤ 1000000 then .ok (.lst ds) S else .stuck
def eTup (ca : Ax) : Ex := fun ρ S => (ca ρ S).bind fun ds S => if ds.length ≤ 1000000 then .ok (.tup ds) S else .stuck
theorem sn_lst {bm : List Bool} {ca : Ax} (h : SA X cl W bm es ca) (hb : bm.all (!·) = true := by rfl) : SN X cl W (.List es pos) (eLst ca) := PE.weak (pe_lst h) fun σ H Q ⟨G0, H0, S, ρ, G, R, h⟩ => by
  refine tX.bind (Pa := PA1 X.K cl bm) pnM R h fun ds vs S1 G1 H1 R1 s1 p1 h1 => ?_
  split at h1
  · rename_i hz
    refine ⟨by rw [ArgsOk.len p1 |>.1, ← (ArgsOk.len p1).2]; exact lim_ok hz, fun p hp => ?_⟩
    obtain ⟨R', s', n⟩ := R1.newL hp (ArgsOk.reps p1 hb)
    exact h1 _ _ _ R' s' ⟨p, [p], rfl, n, fun b hb => by simp at hb; subst hb; exact hp⟩
  · exact h1.elim
theorem se_tup {bm : List Bool} {ca : Ax} {x1} (h : SA X cl W bm es ca) (hb : bm.all (!·) = true := by rfl) : SE X cl W (.Tuple es x1 pos) (eTup ca) := PE.weak (pe_tup h) fun σ H Q ⟨G0, H0, S, ρ, G, R, h⟩ => by
  refine tX.bind (Pa := PA1 X.K cl bm) pfM R h fun ds vs S1 G1 H1 R1 s1 p1 h1 => ?_
  split at h1
  · rename_i hz
    refine ⟨by rw [ArgsOk.len p1 |>.1, ← (ArgsOk.len p1).2]; exact lim_ok hz, fun p hp => ?_⟩
    obtain ⟨R', s', n⟩ := R1.newF hp (.tup vs)
    exact h1 _ _ _ R' s' (.tup (.inl (.inl n)) (RepAll.mono s'.z s'.mu _ _ (ArgsOk.reps p1 hb)))
  · exact h1.elim
def eDic0 : Ex := fun _ S => .ok (.dic []) S
theorem sn_dic0 : SN X cl W (.Dict [] [] pos) eDic0 := PE.weak pe_dnewK fun σ H Q ⟨G0, H0, S, ρ, G, R, h⟩ p hp => by
  obtain ⟨R', s', n⟩ := R.newD hp (vs := []) (ds := []) .nil
  exact h _ _ _ R' s' ⟨p, [p], rfl, n, fun b hb => by simp at hb; subst hb; exact hp⟩

/-! ### subscripts -/
def oIx : D → D → Option D
  | .lst xs, .int i => atI xs i
  | .tup xs, .int i => atI xs i
  | .scr xs, .int i => (atI xs i).map .int
  | .str x, .int i => if x.length ≤ 1000000 then (atI x.cps.toList i).map fun c => .str ⟨#[c]⟩ else none
  | _, _ => none
theorem atI_some {α : Type} {xs : List α} {i : Int} {x : α} (h : atI xs i = some x) : ∃ j, ixN xs.length i = some j ∧ xs[j]? = some x := by
  unfold atI at h
  cases q : ixN xs.length i with
  | none => rw [q] at h; cases h
  | some j => rw [q] at h; exact ⟨j, rfl, h⟩
theorem atI_of {α : Type} {xs : List α} {i : Int} {x : α} {j : Nat} (h1 : ixN xs.length i = some j) (h2 : xs[j]? = some x) : atI xs i = some x := by
  unfold atI
  rw [h1]
  exact h2
theorem RepAll.atI {K : PySem.W.Frag} {mu : List Addr} {Z : Hp} {vs : List V} {ds : List D} {i : Int} {d : D} (r : RepAll K cl mu Z vs ds) (h : L2.atI ds i = some d) : ∃ v, L2.atI vs i = some v ∧ Rep K cl mu Z v d := by
  obtain ⟨j, h1, h2⟩ := atI_some h
  obtain ⟨v, h3, h4⟩ := r.get h2
  exact ⟨v, atI_of (by rw [r.length]; exact h1) h3, h4⟩
theorem os_ix : OpS X cl (rIx X.K) oIx (PF X.K cl) := fun {G0 H0 S ρ G σ H x y d e z Q} R p1 p2 q k => by
  cases d <;> cases e <;> simp only [oIx, reduceCtorEq] at q
  · rename_i x i
    split at q
    · rename_i hz
      cases q1 : atI x.cps.toList i with
      | none => rw [q1] at q; cases q
      | some c =>
        rw [q1] at q
        cases q
        exact .inr (.inr ⟨x, i, c, p1.str, p2.int, lim_ok hz, q1, k _ G H R (Stp.refl _ _) (.str _)⟩)
    · cases q
  · rename_i xs i
    obtain ⟨a1, vs, rfl, h1, r1⟩ := p1.lst R.ok.zsub
    obtain ⟨v, hv, rv⟩ := r1.atI q
    exact .inl ⟨a1, vs, i, v, rfl, p2.int, .inl (.inl h1), hv, k _ G H R (Stp.refl _ _) rv⟩
  · rename_i xs i
    obtain ⟨a1, vs, rfl, h1, r1⟩ := p1.tup R.ok.zsub
    obtain ⟨v, hv, rv⟩ := r1.atI q
    exact .inr (.inl ⟨a1, vs, i, v, rfl, p2.int, h1, hv, k _ G H R (Stp.refl _ _) rv⟩)
  · rename_i xs i
    obtain ⟨a1, rfl, h1⟩ := p1.scr R.ok.zsub
    cases q1 : atI xs i with
    | none => rw [q1] at q; cases q
    | some n =>
      rw [q1] at q
      cases q
      obtain ⟨j, h2, h3⟩ := atI_some q1
      exact .inl ⟨a1, _, i, .int n, rfl, p2.int, h1, atI_of (by rw [List.length_map]; exact h2) (by rw [List.getElem?_map, h3]; rfl), k _ G H R (Stp.refl _ _) (.int _)⟩
theorem se_ix (ha : SB X cl W a ca) (hb : SB X cl W b cb) (hs : PlainIx b := by intro _ _; rfl) : SE X cl W (.Subscript a b pos) (eBin oIx ca cb) := PE.weak (pe_ix ix_seq ha hb hs) fun σ H Q h => bin_sem pfM os_ix h

/-! ### slices -/
abbrev Px := Env → Store → Res (Option Int)
def PO1 : Post (Option Int) (Option Int) := fun _ _ _ _ d v => v = d
theorem poM : PostM PO1 := fun _ _ _ _ _ _ _ _ _ h => h
def pNo : Px := fun _ S => .ok none S
def pAt (ca : Ex) : Px := fun ρ S => (ca ρ S).bind fun d S => match d with
  | .int i => .ok (some i) S
  | _ => .stuck
abbrev SO (X : Cx) (cl : ClsP) (W : WX) (e : Option Expr) (c : Px) : Prop := PO X e (tX X.K cl PO1 W c)
theorem so_no : SO X cl W none pNo := ⟨fun pins s σ H Q I ⟨G0, H0, S, ρ, G, R, h⟩ => po_none.run pins s σ H Q I (h none G H R (Stp.refl _ _) rfl)⟩
theorem so_at (ha : SB X cl W e ca) : SO X cl W (some e) (pAt ca) := ⟨fun pins s σ H Q I ⟨G0, H0, S, ρ, G, R, h⟩ => (po_some ha).run pins s σ H Q I (by
  refine tX.bind (Pa := PB X.K cl) poM R h fun d x S1 G1 H1 R1 s1 p1 h1 => ?_
  cases d <;> simp only [Aft] at h1
  rename_i i
  exact ⟨i, RepT.int p1, h1 _ G1 H1 R1 (Stp.refl _ _) rfl⟩)⟩
def cutD {α : Type} (xs : List α) (lo hi : Option Int) : List α := (xs.drop (HT.sIx xs.length 0 lo)).take (HT.sIx xs.length xs.length hi - HT.sIx xs.length 0 lo)
theorem RepAll.cut {K : PySem.W.Frag} {mu : List Addr} {Z : Hp} {vs : List V} {ds : List D} (r : RepAll K cl mu Z vs ds) (lo hi : Option Int) : RepAll K cl mu Z (cutV vs lo hi) (cutD ds lo hi) := by
  unfold cutV cutD
  rw [r.length]
  exact (r.drop _).take _
theorem cutV_int (ns : List Int) (lo hi : Option Int) : cutV (ns.map V.int) lo hi = (cutD ns lo hi).map V.int := by
  unfold cutV cutD
  rw [List.length_map, List.map_take, List.map_drop]
def oCutL (d : D) (lo hi : Option Int) : Option D := match d with
  | .lst xs => some (.lst (cutD xs lo hi))
  | .scr ns => some (.lst ((cutD ns lo hi).map .int))
  | _ => none
def oCut (d : D) (lo hi : Option Int) : Option D := match d with
  | .lst xs => some (.lst (cutD xs lo hi))
  | .scr ns => some (.lst ((cutD ns lo hi).map .int))
  | .tup xs => some (.tup (cutD xs lo hi))
  | .str x => if x.length ≤ 1000000 then some (.str (cutS x lo hi)) else none
  | _ => none
def eCut (f : D → Option Int → Option Int → Option D) (ca : Ex) (cl' ch : Px) : Ex := fun ρ S => (ca ρ S).bind fun d S => (cl' ρ S).bind fun lo S => (ch ρ S).bind fun hi S => Res.opt (f d lo hi) S
def rSlAll (K : PySem.W.Frag) : V → Option Int → Option Int → Hp → VK → Prop := fun x lo hi H Q => rSlL K x lo hi H Q ∨ rSlA K x lo hi H Q ∨ rSlS x lo hi H Q
theorem sl_all : SlR X (rSlAll X.K) := sl_list.or (sl_tupA.or sl_str)
theorem cut_list {G0 : Gh} {H0 : Hp} {S : Store} {ρ : Env} {G : Gh} {σ : L2.St} {H : Hp} {x : V} {d z : D} {lo hi : Option Int} {Q : VK} (R : Rel X.K cl G0 H0 S ρ G σ H) (p1 : RepT X.K cl G H x d) (q : oCutL d lo hi = some z)
    (k : ∀ v G' H', Rel X.K cl G0 H0 S ρ G' σ H' → Stp G H G' H' → PN X.K cl G H G' H' z v → Q v H') : rSlL X.K x lo hi H Q := by
  cases d <;> simp only [oCutL, reduceCtorEq] at q
  · rename_i xs
    cases q
    obtain ⟨a1, vs, rfl, h1, r1⟩ := p1.lst R.ok.zsub
    refine ⟨a1, vs, rfl, .inl (.inl h1), fun p hp => ?_⟩
    obtain ⟨R', s', n⟩ := R.newL hp (r1.cut lo hi)
    exact k _ _ _ R' s' ⟨p, [p], rfl, n, fun b hb => by simp at hb; subst hb; exact hp⟩
  · rename_i xs
    cases q
    obtain ⟨a1, rfl, h1⟩ := p1.scr R.ok.zsub
    refine ⟨a1, _, rfl, h1, fun p hp => ?_⟩
    rw [cutV_int]
    obtain ⟨R', s', n⟩ := R.newL hp (RepAll.ints (K := X.K) (cl := cl) (cutD xs lo hi))
    exact k _ _ _ R' s' ⟨p, [p], rfl, n, fun b hb => by simp at hb; subst hb; exact hp⟩
theorem sn_cut {lo hi : Option Expr} {cl' ch : Px} {p2 : Pos} (ha : SB X cl W a ca) (hl : SO X cl W lo cl') (hh : SO X cl W hi ch) : SN X cl W (.Subscript a (.Slice lo hi none p2) pos) (eCut oCutL ca cl' ch) := PE.weak (pe_slice sl_list ha hl hh) fun σ H Q ⟨G0, H0, S, ρ, G, R, h⟩ => by
  refine tX.bind (Pa := PB X.K cl) pnM R h fun d x S1 G1 H1 R1 s1 p1 h1 => ?_
  refine tX.bind (Pa := PO1) pnM R1 h1 fun l lv S2 G2 H2 R2 s2 p2 h2 => ?_
  cases (show lv = l from p2)
  refine tX.bind (Pa := PO1) pnM R2 h2 fun u uv S3 G3 H3 R3 s3 p3 h3 => ?_
  cases (show uv = u from p3)
  cases q : oCutL d l u with
  | none => rw [q] at h3; exact h3.elim
  | some z =>
    rw [q] at h3
    exact cut_list R3 (RepT.stp p1 (s2.trans s3)) q fun v G' H' R' s' p' => h3 v G' H' R' s' p'
theorem se_cut {lo hi : Option Expr} {cl' ch : Px} {p2 : Pos} (ha : SB X cl W a ca) (hl : SO X cl W lo cl') (hh : SO X cl W hi ch) : SE X cl W (.Subscript a (.Slice lo hi none p2) pos) (eCut oCut ca cl' ch) := PE.weak (pe_slice sl_all ha hl hh) fun σ H Q ⟨G0, H0, S, ρ, G, R, h⟩ => by
  refine tX.bind (Pa := PB X.K cl) pfM R h fun d x S1 G1 H1 R1 s1 p1 h1 => ?_
  refine tX.bind (Pa := PO1) pfM R1 h1 fun l lv S2 G2 H2 R2 s2 p2 h2 => ?_
  cases (show lv = l from p2)
  refine tX.bind (Pa := PO1) pfM R2 h2 fun u uv S3 G3 H3 R3 s3 p3 h3 => ?_
  cases (show uv = u from p3)
  cases q : oCut d l u with
  | none => rw [q] at h3; exact h3.elim
  | some z =>
    rw [q] at h3
    have p1' := RepT.stp p1 (s2.trans s3)
    have lists : ∀ z, oCutL d l u = some z → (∀ v G' H', Rel X.K cl G0 H0 S3 ρ G' σ H' → Stp G3 H3 G' H' → PF X.K cl G3 H3 G' H' z v → Q v H') → rSlAll X.K x l u H3 Q := fun z q k => by
      refine .inl (cut_list R3 p1' q fun v G' H' R' s ⟨a, as, e, n, hn⟩ => ?_)
      subst e
      obtain ⟨R2', s2', rp⟩ := R'.freeze R3.stp s n hn
      exact k _ _ _ R2' s2' rp
    cases d <;> simp only [oCut, reduceCtorEq] at q
    · rename_i y
      split at q
      · cases q
        exact .inr (.inr ⟨y, p1'.str, lim_ok (by assumption), h3 _ G3 H3 R3 (Stp.refl _ _) (.str _)⟩)
      · cases q
    · exact lists z q fun v G' H' R' s' p' => h3 v G' H' R' s' p'
    · rename_i xs
      cases q
      obtain ⟨a1, vs, rfl, h1, r1⟩ := p1'.tup R3.ok.zsub
      refine .inr (.inl ⟨a1, vs, rfl, h1, fun hw => ?_, fun hw p hp => ?_⟩)
      · have e : cutD xs l u = xs := by
          unfold cutD
          rw [← r1.length, hw.1, hw.2, List.drop_zero, Nat.sub_zero, r1.length, List.take_length]
        rw [e] at h3
        rcases p1' with p | ⟨_, _, _, c, _⟩
        · exact h3 _ G3 H3 R3 (Stp.refl _ _) p
        · cases c
      · obtain ⟨R', s', n⟩ := R3.newF hp (.tup (cutV vs l u))
        exact h3 _ _ _ R' s' (.tup (.inl (.inl n)) (RepAll.mono s'.z s'.mu _ _ (r1.cut l u)))
    · exact lists z q fun v G' H' R' s' p' => h3 v G' H' R' s' p'

/-! ### built-in functions by values -/
def CallS (X : Cx) (cl : ClsP) (bm : List Bool) (r : List V → Hp → VK → Prop) (f : List D → Option D) (P : Post D V) : Prop :=
  ∀ {G0 : Gh} {H0 : Hp} {S : Store} {ρ : Env} {G : Gh} {σ : L2.St} {H : Hp} {vs : List V} {ds : List D} {z : D} {Q : VK}, Rel X.K cl G0 H0 S ρ G σ H → ArgsOk X.K cl G H bm vs ds → f ds = some z →
    (∀ v G' H', Rel X.K cl G0 H0 S ρ G' σ H' → Stp G H G' H' → P G H G' H' z v → Q v H') → r vs H Q
def eFn (f : List D → Option D) (ca : Ax) : Ex := fun ρ S => (ca ρ S).bind fun ds S => Res.opt (f ds) S
theorem fn_sem {bm : List Bool} {r : List V → Hp → VK → Prop} {f : List D → Option D} {P : Post D V} {ca : Ax} (hP : PostM P) (hs : CallS X cl bm r f P) {σ : L2.St} {H : Hp} {Q : VK} (h : tX X.K cl P W (eFn f ca) σ H Q) : tCB r (tX X.K cl (PA1 X.K cl bm) W ca) σ H Q := by
  obtain ⟨G0, H0, S, ρ, G, R, h⟩ := h
  refine tX.bind (Pa := PA1 X.K cl bm) hP R h fun ds vs S1 G1 H1 R1 s1 p1 h1 => ?_
  cases q : f ds with
  | none => rw [q] at h1; exact h1.elim
  | some z =>
    rw [q] at h1
    exact hs R1 p1 q fun v G' H' R' s' p' => h1 v G' H' R' s' p'
section
variable {x : Str} {p : Pos} {id T : String} {bm : List Bool} {r : List V → Hp → VK → Prop} {f : List D → Option D} {P : Post D V} {ax : Ax}
theorem sx_callB (hP : PostM P) (hc : CallR X (.builtin id) r) (hs : CallS X cl bm r f P) (hg : Gl X x) (hm : X.mg x = none) (hv : bootBuiltins x = some (.builtin id)) (ha : SA X cl W bm (e :: es) ax) (hn : x ≠ "__name__" := by decide) (hdb : (x == ("__debug__" : Str)) = false := by decide)
    (he : starEach (e :: es) X.env = (false, eval e X.env) :: starEach es X.env := by rfl) (hpl : (backTo pos (starEach es X.env)).any (·.1) = false := by rfl) : PE X (.Call (.Name x p) (e :: es) [] pos) (tX X.K cl P W (eFn f ax)) :=
  PE.weak (pe_callB hc hg hm hv ha hn hdb he hpl) fun σ H Q h => fn_sem hP hs h
theorem sx_callTy (hP : PostM P) (hc : CallR X (.type T) r) (hs : CallS X cl bm r f P) (hg : Gl X x) (hm : X.mg x = none) (hv : bootBuiltins x = some (.type T)) (ha : SA X cl W bm (e :: es) ax) (hn : x ≠ "__name__" := by decide) (hdb : (x == ("__debug__" : Str)) = false := by decide)
    (he : starEach (e :: es) X.env = (false, eval e X.env) :: starEach es X.env := by rfl) (hpl : (backTo pos (starEach es X.env)).any (·.1) = false := by rfl) : PE X (.Call (.Name x p) (e :: es) [] pos) (tX X.K cl P W (eFn f ax)) :=
  PE.weak (pe_callTy hc hg hm hv ha hn hdb he hpl) fun σ H Q h => fn_sem hP hs h
end
theorem ArgsOk.one {K : PySem.W.Frag} {G : Gh} {H : Hp} {vs : List V} {d : D} (h : ArgsOk K cl G H [true] vs [d]) : ∃ v, vs = [v] ∧ RepT K cl G H v d := by
  cases h with
  | bo h t => cases t; exact ⟨_, rfl, h⟩
theorem ArgsOk.two {K : PySem.W.Frag} {G : Gh} {H : Hp} {vs : List V} {d d' : D} (h : ArgsOk K cl G H [true, true] vs [d, d']) : ∃ v v', vs = [v, v'] ∧ RepT K cl G H v d ∧ RepT K cl G H v' d' := by
  cases h with
  | bo h t =>
    obtain ⟨v', rfl, h'⟩ := t.one
    exact ⟨_, v', rfl, h, h'⟩
def fLen : List D → Option D
  | [.str x] => if x.length ≤ 1000000 then some (.int x.length) else none
  | [.lst xs] => some (.int xs.length)
  | [.tup xs] => some (.int xs.length)
  | [.scr xs] => some (.int xs.length)
  | _ => none
theorem cs_len : CallS X cl [true] (fun xs H Q => ∃ x n, xs = [x] ∧ LenV X.K x H n ∧ Q (.int n) H) fLen (PF X.K cl) := fun {G0 H0 S ρ G σ H vs ds z Q} R p q k => by
  unfold fLen at q
  split at q
  · split at q
    · cases q
      obtain ⟨v, rfl, h⟩ := p.one
      exact ⟨v, _, rfl, by rw [h.str]; exact ⟨lim_ok (by assumption), rfl⟩, k _ G H R (Stp.refl _ _) (.int _)⟩
    · cases q
  · cases q
    obtain ⟨v, rfl, h⟩ := p.one
    obtain ⟨a1, vs, rfl, h1, r1⟩ := h.lst R.ok.zsub
    exact ⟨_, _, rfl, .inl ⟨vs, .inl (.inl h1), rfl⟩, by rw [r1.length]; exact k _ G H R (Stp.refl _ _) (.int _)⟩
  · cases q
    obtain ⟨v, rfl, h⟩ := p.one
    obtain ⟨a1, vs, rfl, h1, r1⟩ := h.tup R.ok.zsub
    exact ⟨_, _, rfl, .inr ⟨vs, h1, rfl⟩, by rw [r1.length]; exact k _ G H R (Stp.refl _ _) (.int _)⟩
  · rename_i xs
    cases q
    obtain ⟨v, rfl, h⟩ := p.one
    obtain ⟨a1, rfl, h1⟩ := h.scr R.ok.zsub
    exact ⟨_, xs.length, rfl, .inl ⟨_, h1, by rw [List.length_map]⟩, k _ G H R (Stp.refl _ _) (.int _)⟩
  · cases q
/-- list(x) -/
def fList : List D → Option D
  | [.lst xs] => some (.lst xs)
  | [.tup xs] => some (.lst xs)
  | [.scr xs] => some (.lst (xs.map .int))
  | _ => none
theorem cs_list : CallS X cl [true] (fun xs H Q => ∃ p ys, xs = [.ref p] ∧ (SqL X.K H p ys ∨ SqT X.K H p ys) ∧ ∀ l, H l = none → Q (.ref l) (upd H l (.lst ys))) fList (PN X.K cl) := fun {G0 H0 S ρ G σ H vs ds z Q} R p q k => by
  unfold fList at q
  split at q
  · cases q
    obtain ⟨v, rfl, h⟩ := p.one
    obtain ⟨a1, vs, rfl, h1, r1⟩ := h.lst R.ok.zsub
    refine ⟨a1, vs, rfl, .inl (.inl (.inl h1)), fun l hl => ?_⟩
    obtain ⟨R', s', n⟩ := R.newL hl r1
    exact k _ _ _ R' s' ⟨l, [l], rfl, n, fun b hb => by simp at hb; subst hb; exact hl⟩
  · cases q
    obtain ⟨v, rfl, h⟩ := p.one
    obtain ⟨a1, vs, rfl, h1, r1⟩ := h.tup R.ok.zsub
    refine ⟨a1, vs, rfl, .inr h1, fun l hl => ?_⟩
    obtain ⟨R', s', n⟩ := R.newL hl r1
    exact k _ _ _ R' s' ⟨l, [l], rfl, n, fun b hb => by simp at hb; subst hb; exact hl⟩
  · rename_i xs
    cases q
    obtain ⟨v, rfl, h⟩ := p.one
    obtain ⟨a1, rfl, h1⟩ := h.scr R.ok.zsub
    refine ⟨a1, _, rfl, .inl h1, fun l hl => ?_⟩
    obtain ⟨R', s', n⟩ := R.newL hl (RepAll.ints (K := X.K) (cl := cl) xs)
    exact k _ _ _ R' s' ⟨l, [l], rfl, n, fun b hb => by simp at hb; subst hb; exact hl⟩
  · cases q
/-- tuple(x) -/
def fTuple : List D → Option D
  | [.lst xs] => some (.tup xs)
  | [.tup xs] => some (.tup xs)
  | _ => none
theorem cs_tuple : CallS X cl [true] (fun xs H Q => ∃ p ys, xs = [.ref p] ∧ ((SqL X.K H p ys ∧ ∀ l, H l = none → Q (.ref l) (upd H l (.tup ys))) ∨ (SqT X.K H p ys ∧ Q (.ref p) H))) fTuple (PF X.K cl) := fun {G0 H0 S ρ G σ H vs ds z Q} R p q k => by
  unfold fTuple at q
  split at q
  · cases q
    obtain ⟨v, rfl, h⟩ := p.one
    obtain ⟨a1, vs, rfl, h1, r1⟩ := h.lst R.ok.zsub
    refine ⟨a1, vs, rfl, .inl ⟨.inl (.inl h1), fun l hl => ?_⟩⟩
    obtain ⟨R', s', n⟩ := R.newF hl (.tup vs)
    exact k _ _ _ R' s' (.tup (.inl (.inl n)) (RepAll.mono s'.z s'.mu _ _ r1))
  · cases q
    obtain ⟨v, rfl, h⟩ := p.one
    obtain ⟨a1, vs, rfl, h1, r1⟩ := h.tup R.ok.zsub
    refine ⟨a1, vs, rfl, .inr ⟨h1, ?_⟩⟩
    rcases h with h | ⟨_, _, _, c, _⟩
    · exact k _ G H R (Stp.refl _ _) h
    · cases c
  · cases q
/-- int(x) -/
def fInt : List D → Option D
  | [.int i] => some (.int i)
  | [.bl b] => some (.int (if b then 1 else 0))
  | [.str x] => if x.length ≤ 640 then (PySem.intText? x).map .int else none
  | _ => none
def rIntAll : List V → Hp → VK → Prop := fun xs H Q => ((∃ i, xs = [.int i] ∧ Q (.int i) H) ∨ ∃ k, xs = [.bl k] ∧ Q (.int (if k then 1 else 0)) H) ∨ (∃ a n, xs = [.str a] ∧ PySem.intText? a = some n ∧ a.length ≤ 640 ∧ Q (.int n) H)
theorem call_intAll : CallR X (.type "int") rIntAll := CallR.or call_int1 call_int_str
theorem cs_int : CallS X cl [true] rIntAll fInt (PF X.K cl) := fun {G0 H0 S ρ G σ H vs ds z Q} R p q k => by
  unfold fInt at q
  split at q
  · cases q
    obtain ⟨v, rfl, h⟩ := p.one
    exact .inl (.inl ⟨_, by rw [h.int], k _ G H R (Stp.refl _ _) (.int _)⟩)
  · cases q
    obtain ⟨v, rfl, h⟩ := p.one
    exact .inl (.inr ⟨_, by rw [h.bl], k _ G H R (Stp.refl _ _) (.int _)⟩)
  · rename_i x
    split at q
    · obtain ⟨v, rfl, h⟩ := p.one
      cases q1 : PySem.intText? x with
      | none => rw [q1] at q; cases q
      | some n =>
        rw [q1] at q
        cases q
        exact .inr ⟨x, n, by rw [h.str], q1, by assumption, k _ G H R (Stp.refl _ _) (.int _)⟩
    · cases q
  · cases q
/-- str(i) -/
def fStr : List D → Option D
  | [.int i] => if i.natAbs < 2 ^ 1900 then some (.str (toString i)) else none
  | _ => none
theorem cs_str : CallS X cl [true] (fun xs H Q => ∃ i, xs = [.int i] ∧ i.natAbs.log2 < 1920 ∧ Q (.str (toString i)) H) fStr (PF X.K cl) := fun {G0 H0 S ρ G σ H vs ds z Q} R p q k => by
  unfold fStr at q
  split at q
  · rename_i i
    split at q
    · rename_i hz
      cases q
      obtain ⟨v, rfl, h⟩ := p.one
      refine ⟨i, by rw [h.int], ?_, k _ G H R (Stp.refl _ _) (.str _)⟩
      by_cases h0 : i.natAbs = 0
      · rw [h0]; decide
      · exact Nat.lt_of_lt_of_le ((Nat.log2_lt h0).mpr hz) (by decide)
    · cases q
  · cases q
/-- isinstance(x, T), T a built-in type -/
def D.isT (T : String) : D → Option Bool
  | .non => some false
  | .bl _ => some (T == "bool" || T == "int")
  | .int _ => some (T == "int")
  | .str _ => some (T == "str")
  | .lst _ => some (T == "list")
  | .scr _ => some (T == "list")
  | .tup _ => some (T == "tuple")
  | .dic _ => some (T == "dict")
  | _ => none
def D.ty : D → Option String
  | .non => some "NoneType"
  | .bl _ => some "bool"
  | .int _ => some "int"
  | .str _ => some "str"
  | .lst _ => some "list"
  | .scr _ => some "list"
  | .tup _ => some "tuple"
  | .dic _ => some "dict"
  | _ => none
theorem RepT.ty {K : PySem.W.Frag} {G : Gh} {H : Hp} {v : V} {d : D} {t : String} (h : RepT K cl G H v d) (zs : Same G.Z H) (e : d.ty = some t) : TyX K H v (.type t) := by
  cases d with
  | non => rw [h.non]; cases e; exact .base .non
  | bl b => rw [h.bl]; cases e; exact .base (.bl _)
  | int i => rw [h.int]; cases e; exact .base (.int _)
  | str x => rw [h.str]; cases e; exact .base (.str _)
  | lst xs =>
    obtain ⟨p, vs, rfl, h1, r⟩ := h.lst zs
    cases e
    exact .base (.lst h1)
  | tup xs =>
    obtain ⟨p, vs, rfl, h1, r⟩ := h.tup zs
    cases e
    rcases h1 with (h1 | ⟨o, h1⟩) | ⟨o, its, n, h1, h2, _⟩
    · exact .base (.tup h1)
    · exact .fTuple h1
    · exact .kTuple h1 h2
  | exn n => cases e
  | dit n => cases e
  | nst n => cases e
  | scr xs =>
    obtain ⟨p, rfl, h1⟩ := h.scr zs
    cases e
    rcases h1 with (h1 | ⟨o, h1⟩) | ⟨o, its, n, h1, h2, _⟩
    · exact .base (.lst h1)
    · exact .base (.frz h1)
    · exact .kList h1 h2
  | dic kvs =>
    obtain ⟨p, vs, rfl, h1, r⟩ := h.dic zs
    cases e
    exact .base (.dK h1)
  | obj c fs => simp only [D.ty, reduceCtorEq] at e
  | rf n => simp only [D.ty, reduceCtorEq] at e
theorem isT_ty {T : String} (hT : T = "int" ∨ T = "bool" ∨ T = "str" ∨ T = "list" ∨ T = "tuple") {d : D} {k : Bool} (h : d.isT T = some k) : ∃ t, d.ty = some t ∧ ∀ K : PySem.W.Frag, PySem.W.kitOne K (.type t) (.type T) = some k := by
  cases d <;> simp only [D.isT, reduceCtorEq] at h <;> cases h <;> refine ⟨_, rfl, fun K => kit_ty ?_⟩ <;> rcases hT with rfl | rfl | rfl | rfl | rfl <;> decide +kernel
def eIsT (T : String) (ca : Ex) : Ex := fun ρ S => (ca ρ S).bind fun d S => Res.opt ((d.isT T).map .bl) S
theorem se_isT {x y : Str} {p p2 : Pos} {T : String} (hT : T = "int" ∨ T = "bool" ∨ T = "str" ∨ T = "list" ∨ T = "tuple") (hg : Gl X x) (hm : X.mg x = none) (hv : bootBuiltins x = some (.builtin "isinstance")) (ha : SB X cl W a ca)
    (hg2 : Gl X y) (hm2 : X.mg y = none) (hv2 : bootBuiltins y = some (.type T)) (hn2 : y ≠ "__name__" := by decide) (hd2 : (y == ("__debug__" : Str)) = false := by decide) (hn : x ≠ "__name__" := by decide) (hdb : (x == ("__debug__" : Str)) = false := by decide)
    (he : starEach [a, .Name y p2] X.env = (false, eval a X.env) :: starEach [.Name y p2] X.env := by rfl) (he2 : starEach [.Name y p2] X.env = (false, eval (.Name y p2) X.env) :: starEach [] X.env := by rfl) (hpl : (backTo pos (starEach [.Name y p2] X.env)).any (·.1) = false := by rfl) : SE X cl W (.Call (.Name x p) [a, .Name y p2] [] pos) (eIsT T ca) :=
  PE.weak (pe_callB call_isi hg hm hv (pa_cons ha (pa_cons (pe_bltn hg2 hm2 hv2 (v := .ty T) rfl hn2 hd2) pa_nil he2) he) hn hdb he hpl) fun σ H Q ⟨G0, H0, S, ρ, G, R, h⟩ => by
    refine tX.bind (Pa := PB X.K cl) pfM R h fun d x S1 G1 H1 R1 s1 p1 h1 => ?_
    cases q : d.isT T with
    | none => rw [q] at h1; exact h1.elim
    | some k =>
      rw [q] at h1
      obtain ⟨t, ht, hk⟩ := isT_ty hT q
      exact ⟨x, .ty T, _, _, k, rfl, .ty T, RepT.ty p1 R1.ok.zsub ht, hk _, h1 _ G1 H1 R1 (Stp.refl _ _) (.bl _)⟩
end
end PM
set_option maxHeartbeats 1000000
/-! PM6: statements told of data: names, owned lists, if, return. -/
namespace PM
open PySem PySem.Spec PyProof.Rows L2

inductive SR where
  | nx (ρ : Env) (S : Store) | rt (v : Val) (S : Store) | bk (ρ : Env) (S : Store) | ct (ρ : Env) (S : Store) | exc (n : Nat) (ρ : Env) (S : Store) | stuck
abbrev Stm := Env → Store → SR

section
variable (K : PySem.W.Frag) (cl : ClsP)
structure Zle (G G' : Gh) : Prop where
  z : Same G.Z G'.Z
  mu : ∃ t, G'.mu = G.mu ++ t
def StOnly (G : Gh) : Prop := ∀ a l, G.lab a = some l → l.st = true
def RtOk (G0 : Gh) (H0 : Hp) (S : Store) (v : Val) (Q : VK) : Prop :=
  match v with
  | .fr d => ∀ v G H, GOk K cl S G H → StOnly G → Stp G0 H0 G H → RepG K cl G v d → Q v H
  | .ow d => ∀ a as G H, GOk K cl S G H → StOnly G → Stp G0 H0 G H → NewAt K cl G H a d as → (∀ b ∈ as, H0 b = none) → Q (.ref a) H
def AftS (W : WX) (G0 : Gh) (H0 : Hp) (G : Gh) (D : Ends) (r : SR) : Prop :=
  match r with
  | .nx ρ S => ∀ G' σ' H', Rel K cl G0 H0 S ρ G' σ' H' → Zle G G' → D.nx σ' H'
  | .bk ρ S => ∀ G' σ' H', Rel K cl G0 H0 S ρ G' σ' H' → Zle G G' → D.bk σ' H'
  | .ct ρ S => ∀ G' σ' H', Rel K cl G0 H0 S ρ G' σ' H' → Zle G G' → D.ct σ' H'
  | .rt v S => RtOk K cl G0 H0 S v D.rt
  | .exc n ρ S => ∀ G' σ' H', Rel K cl G0 H0 S ρ G' σ' H' → Zle G G' → W (.ref (cl n)) none σ' H'
  | .stuck => False
def tS (W : WX) (c : Stm) : TS := fun D σ H => ∃ (G0 : Gh) (H0 : Hp) (S : Store) (ρ : Env) (G : Gh), Rel K cl G0 H0 S ρ G σ H ∧ AftS K cl W G0 H0 G D (c ρ S)
end
abbrev SS (X : Cx) (cl : ClsP) (W : WX) (st : Stmt) (c : Stm) : Prop := PS X st (tS X.K cl W c)
abbrev SSs (X : Cx) (cl : ClsP) (W : WX) (st : List Stmt) (c : Stm) : Prop := PSs X st (tS X.K cl W c)

section
variable {K : PySem.W.Frag} {cl : ClsP} {W : WX} {G0 G G' G1 : Gh} {H0 H H' H1 : Hp} {S S' : Store} {ρ ρ' : Env} {σ : L2.St} {v : V} {d : D} {a : Addr} {as : List Addr} {i : Nat}
theorem Zle.refl (G : Gh) : Zle G G := ⟨Same.refl _, ⟨[], by simp⟩⟩
theorem Zle.trans (a : Zle G G1) (b : Zle G1 G') : Zle G G' := ⟨a.z.trans b.z, by obtain ⟨t, e⟩ := a.mu; obtain ⟨u, f⟩ := b.mu; exact ⟨t ++ u, by rw [f, e, List.append_assoc]⟩⟩
theorem Stp.zle (s : Stp G H G' H') : Zle G G' := ⟨s.z, s.mu⟩
theorem AftS.pre {D : Ends} {r : SR} (h : AftS K cl W G0 H0 G D r) (s : Zle G G1) : AftS K cl W G0 H0 G1 D r := by
  cases r with
  | nx ρ S => exact fun G' σ' H' R z => h G' σ' H' R (s.trans z)
  | bk ρ S => exact fun G' σ' H' R z => h G' σ' H' R (s.trans z)
  | ct ρ S => exact fun G' σ' H' R z => h G' σ' H' R (s.trans z)
  | rt v S => exact h
  | exc n ρ S => exact fun G' σ' H' R z => h G' σ' H' R (s.trans z)
  | stuck => exact h
theorem set_slot {ρ : List Slot} {σ : L2.St} (len : ρ.length = σ.length) {i j : Nat} {s s' : Slot} {o : Option V} {P : Nat → Slot → Option V → Prop} (h : (ρ.set i s)[j]? = some s') (hi : P i s o) (hj : ∀ s', j ≠ i → ρ[j]? = some s' → ∃ o, σ[j]? = some o ∧ P j s' o) : ∃ o', (σ.set i o)[j]? = some o' ∧ P j s' o' := by
  by_cases e : j = i
  · subst e
    have hl : j < ρ.length := by
      rcases Nat.lt_or_ge j ρ.length with h1 | h1
      · exact h1
      · rw [List.getElem?_eq_none (by simpa using h1)] at h; cases h
    rw [List.getElem?_set_self hl] at h
    cases h
    exact ⟨o, List.getElem?_set_self (by rw [← len]; exact hl), hi⟩
  · rw [List.getElem?_set_ne (Ne.symm e)] at h
    obtain ⟨o', h1, h2⟩ := hj s' e h
    exact ⟨o', by rw [List.getElem?_set_ne (Ne.symm e)]; exact h1, h2⟩
/-- a slot takes a frozen value -/
theorem Rel.setF (R : Rel K cl G0 H0 S ρ G σ H) (i : Nat) (r : RepG K cl G v d) : Rel K cl G0 H0 S (ρ.set i (.fr d)) G (σ.set i (some v)) H :=
  ⟨R.ok, by rw [List.length_set, List.length_set]; exact R.len, fun j s h => set_slot (P := fun j s o => SlotOk K cl G0 H0 G H (.slot j) s o) R.len h ⟨v, rfl, r⟩ fun s' _ e => R.slot j s' e, R.stp, R.s0⟩
theorem Rel.setU (R : Rel K cl G0 H0 S ρ G σ H) (i : Nat) (o : Option V) : Rel K cl G0 H0 S (ρ.set i .un) G (σ.set i o) H :=
  ⟨R.ok, by rw [List.length_set, List.length_set]; exact R.len, fun j s h => set_slot (P := fun j s o => SlotOk K cl G0 H0 G H (.slot j) s o) R.len h trivial fun s' _ e => R.slot j s' e, R.stp, R.s0⟩
/-- forgetting a slot -/
theorem Rel.drop1 (R : Rel K cl G0 H0 S ρ G σ H) (i : Nat) : Rel K cl G0 H0 S (ρ.set i .un) G σ H :=
  ⟨R.ok, by rw [List.length_set]; exact R.len, fun j s h => by
    by_cases e : j = i
    · subst e
      have hl : j < ρ.length := by
        rcases Nat.lt_or_ge j ρ.length with h1 | h1
        · exact h1
        · rw [List.getElem?_eq_none (by simpa using h1)] at h; cases h
      rw [List.getElem?_set_self hl] at h
      cases h
      exact ⟨σ[j]'(by rw [← R.len]; exact hl), List.getElem?_eq_getElem _, trivial⟩
    · rw [List.getElem?_set_ne (Ne.symm e)] at h
      exact R.slot j s h, R.stp, R.s0⟩
def Gh.own (G : Gh) (as : List Addr) (l : Lab) : Gh := { G with lab := fun b => if b ∈ as then some l else G.lab b }
theorem own_in {b : Addr} {l : Lab} (hb : b ∈ as) : (G.own as l).lab b = some l := by
  show (if b ∈ as then some l else G.lab b) = some l
  rw [if_pos hb]
theorem own_out {b : Addr} {l : Lab} (hb : b ∉ as) : (G.own as l).lab b = G.lab b := by
  show (if b ∈ as then some l else G.lab b) = G.lab b
  rw [if_neg hb]
/-- a slot takes a new thing -/
theorem Rel.setN (R : Rel K cl G0 H0 S ρ G σ H) (i : Nat) (n : NewAt K cl G H a d as) (hn : ∀ b ∈ as, H0 b = none) : Rel K cl G0 H0 S (ρ.set i (.ow d)) (G.own as (.slot i)) (σ.set i (some (.ref a))) H := by
  obtain ⟨c, q⟩ := n
  have lab : ∀ b l, G.lab b = some l → (G.own as (.slot i)).lab b = some l := fun b l e => by
    rw [own_out fun hb => by rw [(q b hb).1] at e; cases e]
    exact e
  have labn : ∀ b l, (G.own as (.slot i)).lab b = some l → G.lab b = some l ∨ b ∈ as := fun b l e => by
    by_cases hb : b ∈ as
    · exact .inr hb
    · rw [own_out hb] at e; exact .inl e
  refine ⟨⟨R.ok.zsub, fun b l e => ?_, fun n c e => (R.ok.st n c e).mono (fun _ _ _ _ _ e => e) (Same.refl _) (fun b l e _ => lab b l e) ⟨[], by simp [Gh.own]⟩, R.ok.stn⟩, by rw [List.length_set, List.length_set]; exact R.len,
    fun j s h => set_slot (P := fun j s o => SlotOk K cl G0 H0 (G.own as (.slot i)) H (.slot j) s o) R.len h ⟨_, rfl, a, as, rfl, c, fun b hb => own_in hb⟩ fun s' _ e => ?_, ⟨R.stp.z, fun b l e => lab b l (R.stp.lab b l e), R.stp.keep, fun b l e => ?_, R.stp.zn, R.stp.mu, R.stp.dom⟩, R.s0⟩
  · rcases labn b l e with h | h
    · exact R.ok.labz b l h
    · exact ⟨(q b h).2, c.there b h⟩
  · obtain ⟨o, h1, h2⟩ := R.slot j s' e
    exact ⟨o, h1, h2.mono (fun _ _ _ e => e) (Same.refl _) (fun b e => lab b _ e) ⟨[], by simp [Gh.own]⟩⟩
  · rcases labn b l e with h | h
    · exact R.stp.labn b l h
    · exact .inr (hn b h)
/-- what a slot owns is new since the entry -/
theorem Rel.ownNew (R : Rel K cl G0 H0 S ρ G σ H) {b : Addr} (h : G.lab b = some (.slot i)) : H0 b = none := by
  rcases R.stp.labn b _ h with q | q
  · exact absurd (R.s0 b _ q) (by simp [Lab.st])
  · exact q
/-- a slot's thing is frozen -/
noncomputable def Gh.frz (G : Gh) (H : Hp) (as : List Addr) : Gh := { G with Z := fun b => if b ∈ as then H b else G.Z b, lab := fun b => if b ∈ as then none else G.lab b }
theorem Rel.thaw' (R : Rel K cl G0 H0 S ρ G σ H) (e : ρ[i]? = some (.ow d)) : ∃ G', Rel K cl G0 H0 S (ρ.set i (.fr d)) G' σ H ∧ Zle G G' ∧ ∀ b l, G'.lab b = some l → G.lab b = some l := by
  obtain ⟨o, ho, v, rfl, a, as, rfl, c, hl⟩ := R.slot i _ e
  have nz : ∀ b ∈ as, G.Z b = none := fun b hb => (R.ok.labz b _ (hl b hb)).1
  have hz : Same G.Z (G.frz H as).Z := fun b o e => by
    show (if b ∈ as then H b else G.Z b) = some o
    rw [if_neg fun hb => by rw [nz b hb] at e; cases e]
    exact e
  have out : ∀ b l, G.lab b = some l → l ≠ .slot i → (G.frz H as).lab b = some l := fun b l e hne => by
    show (if b ∈ as then none else G.lab b) = some l
    rw [if_neg fun hb => by rw [hl b hb] at e; cases e; exact hne rfl]
    exact e
  have zn : ∀ b o, (G.frz H as).Z b = some o → (b ∈ as ∧ H b = some o) ∨ G.Z b = some o := fun b o e => by
    have e' : (if b ∈ as then H b else G.Z b) = some o := e
    by_cases hb : b ∈ as
    · rw [if_pos hb] at e'; exact .inl ⟨hb, e'⟩
    · rw [if_neg hb] at e'; exact .inr e'
  have ln : ∀ b l, (G.frz H as).lab b = some l → b ∉ as ∧ G.lab b = some l := fun b l e => by
    have e' : (if b ∈ as then none else G.lab b) = some l := e
    by_cases hb : b ∈ as
    · rw [if_pos hb] at e'; cases e'
    · rw [if_neg hb] at e'; exact ⟨hb, e'⟩
  have sk : ∀ l : Lab, l.st = true → l ≠ .slot i := fun l h e => by subst e; simp [Lab.st] at h
  refine ⟨G.frz H as, ⟨⟨fun b o e => ?_, fun b l e => ?_, fun n c e => (R.ok.st n c e).mono (fun _ _ _ _ _ e => e) hz (fun b l e h => out b l e (sk l h)) ⟨[], by simp [Gh.frz]⟩, R.ok.stn⟩, by rw [List.length_set]; exact R.len, fun j s h => ?_, ⟨R.stp.z.trans hz, fun b l e => out b l (R.stp.lab b l e) (sk l (R.s0 b l e)), R.stp.keep, fun b l e => R.stp.labn b l (ln b l e).2, fun b o e => ?_, R.stp.mu, R.stp.dom⟩, R.s0⟩, ⟨hz, ⟨[], by simp [Gh.frz]⟩⟩, fun b l e => (ln b l e).2⟩
  · rcases zn b o e with ⟨_, h⟩ | h
    · exact h
    · exact R.ok.zsub b o h
  · obtain ⟨hb, e'⟩ := ln b l e
    obtain ⟨h1, h2⟩ := R.ok.labz b l e'
    refine ⟨?_, h2⟩
    show (if b ∈ as then H b else G.Z b) = none
    rw [if_neg hb]
    exact h1
  · by_cases ej : j = i
    · subst ej
      have hlt : j < ρ.length := (List.getElem?_eq_some_iff.mp e).1
      rw [List.getElem?_set_self hlt] at h
      cases h
      refine ⟨_, ho, _, rfl, c.rep (fun b hb o e => ?_) hz⟩
      show (if b ∈ as then H b else G.Z b) = some o
      rw [if_pos hb]
      exact e
    · rw [List.getElem?_set_ne (Ne.symm ej)] at h
      obtain ⟨o, h1, h2⟩ := R.slot j s h
      exact ⟨o, h1, h2.mono (fun _ _ _ e => e) hz (fun b e => out b _ e (by intro q; cases q; exact ej rfl)) ⟨[], by simp [Gh.frz]⟩⟩
  · rcases zn b o e with ⟨hb, _⟩ | h
    · exact .inr (R.ownNew (hl b hb))
    · exact R.stp.zn b o h
theorem Rel.thaw (R : Rel K cl G0 H0 S ρ G σ H) (e : ρ[i]? = some (.ow d)) : ∃ G', Rel K cl G0 H0 S (ρ.set i (.fr d)) G' σ H ∧ Zle G G' := by
  obtain ⟨G', h1, h2, _⟩ := R.thaw' e
  exact ⟨G', h1, h2⟩
/-- what a slot owns is changed -/
theorem Rel.write (R : Rel K cl G0 H0 S ρ G σ H) (e : σ[i]? = some (some (.ref a))) (hl : ∀ b ∈ as, G.lab b = some (.slot i)) (ha : a ∈ as) {o' : HO} {d' : D} (c : ContG K cl G (upd H a o') a d' as) : Rel K cl G0 H0 S (ρ.set i (.ow d')) G σ (upd H a o') := by
  have la := hl a ha
  have oth : ∀ b l, G.lab b = some l → l ≠ .slot i → ∀ o, H b = some o → upd H a o' b = some o := fun b l h hne o ho => by
    rw [upd_ne fun q => by subst q; rw [la] at h; cases h; exact hne rfl]
    exact ho
  have zs : Same G.Z (upd H a o') := fun b o h => by
    rw [upd_ne fun q => by subst q; rw [(R.ok.labz _ _ la).1] at h; cases h]
    exact R.ok.zsub b o h
  refine ⟨⟨zs, fun b l h => ?_, fun n c e => (R.ok.st n c e).mono (fun b l h hs o ho => oth b l h (fun q => by subst q; simp [Lab.st] at hs) o ho) (Same.refl _) (fun _ _ e _ => e) ⟨[], by simp⟩, R.ok.stn⟩, by rw [List.length_set]; exact R.len, fun j s h => ?_, ⟨R.stp.z, R.stp.lab, fun b o h hs => ?_, R.stp.labn, R.stp.zn, R.stp.mu, fun b h => ?_⟩, R.s0⟩
  · obtain ⟨h1, o, h2⟩ := R.ok.labz b l h
    refine ⟨h1, ?_⟩
    by_cases q : b = a
    · subst q; exact ⟨_, upd_same⟩
    · exact ⟨o, by rw [upd_ne q]; exact h2⟩
  · by_cases ej : j = i
    · subst ej
      have hlt : j < ρ.length := by rw [R.len]; exact (List.getElem?_eq_some_iff.mp e).1
      rw [List.getElem?_set_self hlt] at h
      cases h
      exact ⟨_, e, _, rfl, a, as, rfl, c, hl⟩
    · rw [List.getElem?_set_ne (Ne.symm ej)] at h
      obtain ⟨o, h1, h2⟩ := R.slot j s h
      exact ⟨o, h1, h2.mono (fun b h o ho => oth b _ h (by intro q; cases q; exact ej rfl) o ho) (Same.refl _) (fun _ e => e) ⟨[], by simp⟩⟩
  · rw [upd_ne fun q => by subst q; rw [R.ownNew la] at h; cases h]
    exact R.stp.keep b o h hs
  · by_cases q : b = a
    · subst q; rw [upd_same] at h; cases h
    · rw [upd_ne q] at h; exact R.stp.dom b h

/-- .. of the instance that is being made -/
theorem Rel.writeMe (R : Rel K cl G0 H0 S ρ G σ H) {d : D} (q : ρ[i]? = some (.me d)) (e : σ[i]? = some (some (.ref a))) (hl : ∀ b ∈ as, G.lab b = some (.slot i)) (ha : a ∈ as) {o' : HO} {d' : D} (c : ContG K cl G (upd H a o') a d' as) : Rel K cl G0 H0 S (ρ.set i (.me d')) G σ (upd H a o') := by
  have R' := R.write (i := i) e hl ha c
  obtain ⟨o, ho, v, rfl, _, hm⟩ := R.slot i _ q
  rw [e] at ho
  cases ho
  refine ⟨R'.ok, by rw [List.length_set]; exact R.len, fun j s h => ?_, R'.stp, R.s0⟩
  by_cases ej : j = i
  · subst ej
    have hlt : j < ρ.length := (List.getElem?_eq_some_iff.mp q).1
    rw [List.getElem?_set_self hlt] at h
    cases h
    exact ⟨_, e, _, rfl, ⟨a, as, rfl, c, hl⟩, hm⟩
  · refine R'.slot j s ?_
    rw [List.getElem?_set_ne (Ne.symm ej)] at h ⊢
    exact h
/-- leaving: the slots' labels go -/
def Gh.out (G : Gh) : Gh := { G with lab := fun b => match G.lab b with
  | some l => if l.st = true then some l else none
  | none => none }
theorem out_some {b : Addr} {l : Lab} : G.out.lab b = some l ↔ G.lab b = some l ∧ l.st = true := by
  show (match G.lab b with
    | some l => if l.st = true then some l else none
    | none => none) = some l ↔ _
  cases q : G.lab b with
  | none => simp
  | some m =>
    simp only
    constructor
    · intro h
      split at h
      · cases h; exact ⟨rfl, by assumption⟩
      · cases h
    · rintro ⟨h1, h2⟩
      cases h1
      rw [if_pos h2]
theorem out_only : StOnly G.out := fun b l h => (out_some.mp h).2
theorem Rel.leave (R : Rel K cl G0 H0 S ρ G σ H) : GOk K cl S G.out H ∧ Stp G0 H0 G.out H :=
  ⟨⟨R.ok.zsub, fun b l h => R.ok.labz b l (out_some.mp h).1, fun n c e => (R.ok.st n c e).mono (fun _ _ _ _ _ e => e) (Same.refl _) (fun b l e h => out_some.mpr ⟨e, h⟩) ⟨[], by simp [Gh.out]⟩, R.ok.stn⟩,
    ⟨R.stp.z, fun b l e => out_some.mpr ⟨R.stp.lab b l e, R.s0 b l e⟩, R.stp.keep, fun b l e => R.stp.labn b l (out_some.mp e).1, R.stp.zn, R.stp.mu, R.stp.dom⟩⟩
end

section
variable {X : Cx} {cl : ClsP} {W : WX} {e : Expr} {c : Ex} {pos : Pos} {st : Stmt} {rest : List Stmt} {s1 s2 : Stm}
/-! ### blocks -/
def sNx : Stm := fun ρ S => .nx ρ S
def sSeq (a b : Stm) : Stm := fun ρ S => match a ρ S with
  | .nx ρ' S' => b ρ' S'
  | r => r
theorem ss_nil : SSs X cl W [] sNx := PSs.weak pss_nil fun D σ H ⟨G0, H0, S, ρ, G, R, h⟩ => h G σ H R (Zle.refl _)
theorem ss_cons (h1 : SS X cl W st s1) (h2 : SSs X cl W rest s2) : SSs X cl W (st :: rest) (sSeq s1 s2) := PSs.weak (pss_cons h1 h2) fun D σ H ⟨G0, H0, S, ρ, G, R, h⟩ => by
  refine ⟨G0, H0, S, ρ, G, R, ?_⟩
  unfold sSeq at h
  cases q : s1 ρ S with
  | nx ρ' S' =>
    rw [q] at h
    exact fun G' σ' H' R' z => ⟨G0, H0, S', ρ', G', R', h.pre z⟩
  | rt v S' => rw [q] at h; exact h
  | bk ρ' S' => rw [q] at h; exact h
  | ct ρ' S' => rw [q] at h; exact h
  | exc n ρ' S' => rw [q] at h; exact h
  | stuck => rw [q] at h; exact h
theorem ss_one (h1 : SS X cl W st s1) : SSs X cl W [st] s1 := pss_one h1
/-- a step of the ghost ahead of a block: a name's thing is frozen -/
def sFz (i : Nat) : Stm := fun ρ S => match ρ[i]? with
  | some (.ow d) => .nx (ρ.set i (.fr d)) S
  | some (.fr _) => .nx ρ S
  | _ => .stuck
theorem fz_sem (i : Nat) {D : Ends} {σ : L2.St} {H : Hp} (h : tS X.K cl W (sSeq (sFz i) s1) D σ H) : tS X.K cl W s1 D σ H := by
  obtain ⟨G0, H0, S, ρ, G, R, h⟩ := h
  unfold sSeq sFz at h
  cases q : ρ[i]? with
  | none => simp only [q, AftS] at h
  | some s =>
    cases s with
    | fr d => simp only [q] at h; exact ⟨G0, H0, S, ρ, G, R, h⟩
    | ow d =>
      simp only [q] at h
      obtain ⟨G', R', z⟩ := R.thaw q
      exact ⟨G0, H0, S, _, G', R', h.pre z⟩
    | un => simp only [q, AftS] at h
    | bo d => simp only [q, AftS] at h
    | me d => simp only [q, AftS] at h
theorem ss_fz {i : Nat} (h : SSs X cl W rest s1) : SSs X cl W rest (sSeq (sFz i) s1) := PSs.weak h fun D σ H q => fz_sem i q
def sPass : Stm := fun ρ S => .nx ρ S
def sBrk : Stm := fun ρ S => .bk ρ S
def sCnt : Stm := fun ρ S => .ct ρ S
theorem ss_pass : SS X cl W (.Pass pos) sPass := PS.weak ps_pass fun D σ H ⟨G0, H0, S, ρ, G, R, h⟩ => h G σ H R (Zle.refl _)
theorem ss_doc {x j pos'} : SS X cl W (.Expr (.Constant (.str x) j pos) pos') sPass := PS.weak ps_doc fun D σ H ⟨G0, H0, S, ρ, G, R, h⟩ => h G σ H R (Zle.refl _)
theorem ss_brk : SS X cl W (.Break pos) sBrk := PS.weak ps_break fun D σ H ⟨G0, H0, S, ρ, G, R, h⟩ => h G σ H R (Zle.refl _)
theorem ss_cnt : SS X cl W (.Continue pos) sCnt := PS.weak ps_continue fun D σ H ⟨G0, H0, S, ρ, G, R, h⟩ => h G σ H R (Zle.refl _)

/-- a statement that begins with an expression -/
def sEx {α : Type} (c : Env → Store → Res α) (k : α → Stm) : Stm := fun ρ S => match c ρ S with
  | .ok d S' => k d ρ S'
  | .exc n S' => .exc n ρ S'
  | .stuck => .stuck
theorem sEx_sem {α β : Type} {P : Post α β} {c : Env → Store → Res α} {k : α → Stm} {D : Ends} {σ : L2.St} {H : Hp} {M : β → Hp → Prop} (h : tS X.K cl W (sEx c k) D σ H)
    (hk : ∀ G0 H0 S' ρ G d v G' H', Rel X.K cl G0 H0 S' ρ G' σ H' → Stp G0 H0 G H → Stp G H G' H' → P G H G' H' d v → AftS X.K cl W G0 H0 G' D (k d ρ S') → M v H') : tX X.K cl P W c σ H M := by
  obtain ⟨G0, H0, S, ρ, G, R, h⟩ := h
  refine ⟨G0, H0, S, ρ, G, R, ?_⟩
  unfold sEx at h
  cases q : c ρ S with
  | ok d S' =>
    rw [q] at h
    exact fun v G' H' R' s p => hk G0 H0 S' ρ G d v G' H' R' R.stp s p (h.pre s.zle)
  | exc n S' =>
    rw [q] at h
    exact fun G' H' R' s => h G' σ H' R' s.zle
  | stuck => rw [q] at h; exact h
def sDrop (c : Ex) : Stm := sEx c fun _ ρ S => .nx ρ S
theorem ss_drop {P : Post D V} (he : PE X e (tX X.K cl P W c)) (hs : swapsWith e none pos.line X.env = pure false := by rfl) : SS X cl W (.Expr e pos) (sDrop c) := PS.weak (ps_expr he hs) fun D σ H h =>
  sEx_sem h fun G0 H0 S' ρ G d v G' H' R' s0 s p q => q G' σ H' R' (Zle.refl _)
/-- return e -/
def sRet (c : Ex) : Stm := sEx c fun d _ S => .rt (.fr d) S
def sRetN (c : Ex) : Stm := sEx c fun d _ S => .rt (.ow d) S
theorem ss_ret (he : SE X cl W e c) : SS X cl W (.Return (some e) pos) (sRet c) := PS.weak (ps_ret he) fun D σ H h =>
  sEx_sem h fun G0 H0 S' ρ G d v G' H' R' s0 s p q => q v _ H' R'.leave.1 out_only R'.leave.2 p
theorem ss_retN (he : SN X cl W e c) : SS X cl W (.Return (some e) pos) (sRetN c) := PS.weak (ps_ret he) fun D σ H h =>
  sEx_sem h fun G0 H0 S' ρ G d v G' H' R' s0 s p q => by
    obtain ⟨a, as, rfl, ⟨cc, n⟩, hn⟩ := p
    refine q a as _ H' R'.leave.1 out_only R'.leave.2 ⟨cc, fun b hb => ⟨?_, (n b hb).2⟩⟩ fun b hb => s0.dom b (hn b hb)
    cases e : G'.out.lab b with
    | none => rfl
    | some l => have := (out_some.mp e).1; rw [(n b hb).1] at this; cases this
/-- return x: what the name owns is handed out -/
def sRetV (i : Nat) : Stm := fun ρ S => match ρ[i]? with
  | some (.ow d) => .rt (.ow d) S
  | some (.fr d) => .rt (.fr d) S
  | _ => .stuck
theorem ss_retV {i : Nat} {x : Str} {p : Pos} (hv : PE X (.Name x p) (tVar i)) : SS X cl W (.Return (some (.Name x p)) pos) (sRetV i) := PS.weak (ps_ret hv) fun D σ H ⟨G0, H0, S, ρ, G, R, h⟩ => by
  cases q : ρ[i]? with
  | none => simp only [sRetV, q, AftS] at h
  | some s =>
    obtain ⟨o, ho, hs⟩ := R.slot i s q
    cases s with
    | fr d =>
      simp only [sRetV, q] at h
      obtain ⟨v, rfl, r⟩ := hs
      exact ⟨v, ho, h v _ H R.leave.1 out_only R.leave.2 r⟩
    | ow d =>
      simp only [sRetV, q] at h
      obtain ⟨v, rfl, a, as, rfl, cc, hl⟩ := hs
      refine ⟨_, ho, h a as _ H R.leave.1 out_only R.leave.2 ⟨cc, fun b hb => ⟨?_, (R.ok.labz b _ (hl b hb)).1⟩⟩ fun b hb => R.ownNew (hl b hb)⟩
      cases e : G.out.lab b with
      | none => rfl
      | some l =>
        have := out_some.mp e
        rw [hl b hb] at this
        obtain ⟨h1, h2⟩ := this
        cases h1
        simp [Lab.st] at h2
    | un => simp only [sRetV, q, AftS] at h
    | bo d => simp only [sRetV, q, AftS] at h
    | me d => simp only [sRetV, q, AftS] at h
def sRet0 : Stm := fun _ S => .rt (.fr .non) S
theorem ss_ret0 : SS X cl W (.Return none pos) sRet0 := PS.weak ps_retN fun D σ H ⟨G0, H0, S, ρ, G, R, h⟩ => h .non _ H R.leave.1 out_only R.leave.2 .non
/-- if -/
def sIf (tc : Tx) (a b : Stm) : Stm := sEx tc fun k ρ S => if k = true then a ρ S else b ρ S
theorem ss_if {tc : Tx} {cnd : Expr} {a b : List Stmt} (hc : STt X cl W cnd tc) (ha : SSs X cl W a s1) (hb : SSs X cl W b s2) : SS X cl W (.If cnd a b pos) (sIf tc s1 s2) := PS.weak (ps_if hc ha hb) fun D σ H h =>
  sEx_sem (P := PT1) h fun G0 H0 S' ρ G d v G' H' R' s0 s p q => by
    cases (show v = d from p)
    cases d with
    | true => exact ⟨G0, H0, S', ρ, G', R', q⟩
    | false => exact ⟨G0, H0, S', ρ, G', R', q⟩
/-- x = e -/
def sSet (i : Nat) (c : Ex) : Stm := sEx c fun d ρ S => .nx (ρ.set i (.fr d)) S
def sSetN (i : Nat) (c : Ex) : Stm := sEx c fun d ρ S => .nx (ρ.set i (.ow d)) S
theorem ss_set {i : Nat} {x : Str} {pos' : Pos} (hN : X.N.Nodup) (hi : X.N[i]? = some x) (hx : Loc X.env.scope x) (he : SE X cl W e c) (hs : swapsWith e (some (.Name x pos')) pos.line X.env = pure false := by rfl) (hf : X.fn x = true ∨ X.env.scope.names.lookup x = some .local := by first | exact .inl rfl | exact .inr rfl | assumption) : SS X cl W (.Assign [.Name x pos'] e pos) (sSet i c) := PS.weak (ps_set hN hi hx he hs hf) fun D σ H h =>
  sEx_sem (P := PF X.K cl) h fun G0 H0 S' ρ G d v G' H' R' s0 s p q => q G' _ H' (R'.setF i p) (Zle.refl _)
theorem ss_setN {i : Nat} {x : Str} {pos' : Pos} (hN : X.N.Nodup) (hi : X.N[i]? = some x) (hx : Loc X.env.scope x) (he : SN X cl W e c) (hs : swapsWith e (some (.Name x pos')) pos.line X.env = pure false := by rfl) (hf : X.fn x = true ∨ X.env.scope.names.lookup x = some .local := by first | exact .inl rfl | exact .inr rfl | assumption) : SS X cl W (.Assign [.Name x pos'] e pos) (sSetN i c) := PS.weak (ps_set hN hi hx he hs hf) fun D σ H h =>
  sEx_sem (P := PN X.K cl) h fun G0 H0 S' ρ G d v G' H' R' s0 s p q => by
    obtain ⟨a, as, rfl, n, hn⟩ := p
    exact q _ _ H' (R'.setN i n fun b hb => s0.dom b (hn b hb)) ⟨Same.refl _, ⟨[], by simp [Gh.own]⟩⟩
/-- .. at a state -/
theorem sEx_at {α β : Type} {P : Post α β} {c : Env → Store → Res α} {k : α → Stm} {D : Ends} {G0 G : Gh} {H0 H : Hp} {S : Store} {ρ : Env} {σ : L2.St} {M : β → Hp → Prop} (R : Rel X.K cl G0 H0 S ρ G σ H) (h : AftS X.K cl W G0 H0 G D (sEx c k ρ S))
    (hk : ∀ S' d v G' H', Rel X.K cl G0 H0 S' ρ G' σ H' → Stp G H G' H' → P G H G' H' d v → AftS X.K cl W G0 H0 G' D (k d ρ S') → M v H') : tX X.K cl P W c σ H M := by
  refine ⟨G0, H0, S, ρ, G, R, ?_⟩
  unfold sEx at h
  cases q : c ρ S with
  | ok d S' =>
    rw [q] at h
    exact fun v G' H' R' s p => hk S' d v G' H' R' s p (h.pre s.zle)
  | exc n S' =>
    rw [q] at h
    exact fun G' H' R' s => h G' σ H' R' s.zle
  | stuck => rw [q] at h; exact h
/-- x += e -/
def sAug (i : Nat) (f : D → D → Option D) (c : Ex) : Stm := fun ρ S => match ρ[i]? with
  | some (.fr d) => sEx c (fun e ρ S => match f d e with
    | some z => .nx (ρ.set i (.fr z)) S
    | none => .stuck) ρ S
  | _ => .stuck
def IpS (X : Cx) (cl : ClsP) (t : TIp) (f : D → D → Option D) : Prop := ∀ {G : Gh} {H : Hp} {x y : V} {d e z : D} {Q : VK}, Same G.Z H → RepG X.K cl G x d → RepT X.K cl G H y e → f d e = some z → (∀ v, RepG X.K cl G v z → Q v H) → t x y H Q
theorem ss_aug {i : Nat} {x : Str} {op : Operator} {pos' : Pos} {t : TIp} {f : D → D → Option D} (hN : X.N.Nodup) (hi : X.N[i]? = some x) (hx : Loc X.env.scope x) (he : SB X cl W e c) (hp : PIp X op t) (ht : IpS X cl t f) (hf : X.fn x = true ∨ X.env.scope.names.lookup x = some .local := by first | exact .inl rfl | exact .inr rfl | assumption) : SS X cl W (.AugAssign (.Name x pos') op e pos) (sAug i f c) := PS.weak (ps_aug hN hi hx he hp hf) fun D σ H ⟨G0, H0, S, ρ, G, R, h⟩ => by
  cases q : ρ[i]? with
  | none => simp only [sAug, q, AftS] at h
  | some s =>
    obtain ⟨o, ho, hs⟩ := R.slot i s q
    cases s with
    | fr d =>
      simp only [sAug, q] at h
      obtain ⟨v, rfl, r⟩ := hs
      refine ⟨v, ho, sEx_at (P := PB X.K cl) R h fun S' e y G' H' R' s p q2 => ?_⟩
      cases q3 : f d e with
      | none => rw [q3] at q2; exact q2.elim
      | some z =>
        rw [q3] at q2
        exact ht R'.ok.zsub (RepG.stp s r) p q3 fun v' r' => q2 G' _ H' (R'.setF i r') (Zle.refl _)
    | _ => simp only [sAug, q, AftS] at h
def ipAdd : D → D → Option D := oI0 fun i j => .int (i + j)
theorem is_add : IpS X cl (ipI fun i j => i + j) ipAdd := fun {G H x y d e z Q} zs r p q k => by
  obtain ⟨i, j, rfl, rfl, rfl⟩ := oI0_some _ _ _ q
  cases r
  exact ⟨i, j, rfl, p.int, k _ (.int _)⟩
theorem is_sub : IpS X cl (ipI fun i j => i - j) oSub := fun {G H x y d e z Q} zs r p q k => by
  obtain ⟨i, j, rfl, rfl, rfl⟩ := oI0_some _ _ _ q
  cases r
  exact ⟨i, j, rfl, p.int, k _ (.int _)⟩
end
end PM
set_option maxHeartbeats 1000000
/-! PM7: lists and dicts that a name owns; loops; list comprehensions. -/
namespace PM
open PySem PySem.Spec PyProof.Rows L2

section
variable {X : Cx} {cl : ClsP} {W : WX} {e : Expr} {c : Ex} {pos : Pos} {st : Stmt} {rest : List Stmt} {s1 s2 : Stm} {es : List Expr}

/-! ### methods of an owned list -/
/-- a rule of a list's method told of data -/
def LmS (X : Cx) (cl : ClsP) (bm : List Bool) (r : V → List V → Hp → VK → Prop) (f : List D → List D → Option (List D)) : Prop :=
  ∀ {G : Gh} {H : Hp} {a : Addr} {vs xs : List V} {ds es ds' : List D} {Q : VK}, Same G.Z H → H a = some (.lst vs) → RepAll X.K cl G.mu G.Z vs ds → ArgsOk X.K cl G H bm xs es → f ds es = some ds' →
    (∀ vs', RepAll X.K cl G.mu G.Z vs' ds' → Q .non (upd H a (.lst vs'))) → r (.ref a) xs H Q
def sLm (i : Nat) (f : List D → List D → Option (List D)) (ca : Ax) : Stm := fun ρ S => match ρ[i]? with
  | some (.ow (.lst ds)) => sEx ca (fun es ρ S => match f ds es with
    | some ds' => .nx (ρ.set i (.ow (.lst ds'))) S
    | none => .stuck) ρ S
  | _ => .stuck
theorem OwnAt.lst {K : PySem.W.Frag} {G : Gh} {H : Hp} {l : Lab} {v : V} {ds : List D} (h : OwnAt K cl G H l v (.lst ds)) : ∃ a vs, v = .ref a ∧ H a = some (.lst vs) ∧ RepAll K cl G.mu G.Z vs ds ∧ G.lab a = some l := by
  obtain ⟨a, as, rfl, c, hl⟩ := h
  cases c with
  | lst h1 r => exact ⟨a, _, rfl, h1, r, hl a (by simp)⟩
theorem OwnAt.dic {K : PySem.W.Frag} {G : Gh} {H : Hp} {l : Lab} {v : V} {ds : List (Key × D)} (h : OwnAt K cl G H l v (.dic ds)) : ∃ a vs, v = .ref a ∧ H a = some (.dK vs) ∧ RepK K cl G.mu G.Z vs ds ∧ G.lab a = some l := by
  obtain ⟨a, as, rfl, c, hl⟩ := h
  cases c with
  | dic h1 r => exact ⟨a, _, rfl, h1, r, hl a (by simp)⟩
theorem ss_lm {i : Nat} {x name : Str} {p apos cpos : Pos} {id : String} {r : V → List V → Hp → VK → Prop} {bm : List Bool} {f : List D → List D → Option (List D)} {ca : Ax} (slot : PySem.Slot "list" name id) (hty : typeOf (.builtin id) = pure (.type "method_descriptor")) (hm : MtR X id r) (hs : LmS X cl bm r f) (hv : PE X (.Name x p) (tVar i)) (ha : SA X cl W bm (e :: es) ca)
    (hbase : attributeBase (.Name x p) name X.env (eval (.Name x p) X.env) = eval (.Name x p) X.env := by rfl)
    (hfew : ((backTo cpos (starEach (e :: es) X.env)).all (fun x => !x.1) && (backToKw cpos (keywordEach [] X.env)).all (fun x => x.1.isSome)
      && decide ((e :: es).length + ([] : List Keyword).length + (if ([] : List Keyword).isEmpty then 0 else 1) < 30)) = true := by rfl)
    (hline : (apos.endLine == cpos.line) = true := by rfl) (hst : starEach (e :: es) X.env = (false, eval e X.env) :: starEach es X.env := by rfl) (hplain : (backTo cpos (starEach es X.env)).any (·.1) = false := by rfl)
    (hsw : swapsWith (.Call (.Attribute (.Name x p) name apos) (e :: es) [] cpos) none pos.line X.env = pure false := by rfl) : SS X cl W (.Expr (.Call (.Attribute (.Name x p) name apos) (e :: es) [] cpos) pos) (sLm i f ca) :=
  PS.weak (ps_expr (pe_bm PySem.F.plainAttrs_list slot hty hm hv ha hbase hfew hline hst hplain) hsw) fun D σ H ⟨G0, H0, S, ρ, G, R, h⟩ => by
    unfold sLm at h
    split at h
    · rename_i ds q
      obtain ⟨o, ho, v, rfl, ow⟩ := R.slot i _ q
      obtain ⟨a, vs, rfl, h1, r1, l1⟩ := ow.lst
      refine ⟨_, ho, .inl ⟨rfl, vs, .inl (.inl h1)⟩, sEx_at (P := PA1 X.K cl bm) R h fun S' es xs G' H' R' s p q2 => ?_⟩
      obtain ⟨o', ho', v', rfl, ow'⟩ := R'.slot i _ q
      rw [ho] at ho'
      cases ho'
      obtain ⟨a', vs', e', h1', r1', l1'⟩ := ow'.lst
      cases e'
      cases q3 : f ds es with
      | none => rw [q3] at q2; exact q2.elim
      | some ds' =>
        rw [q3] at q2
        exact hs R'.ok.zsub h1' r1' p q3 fun vs' r' => q2 G' σ _ (R'.write (as := [a]) ho (fun b hb => by simp at hb; subst hb; exact l1') (by simp) (.lst upd_same r')) (Zle.refl _)
    · exact h.elim
theorem ss_lm0 {i : Nat} {x name : Str} {p apos cpos : Pos} {id : String} {r : V → List V → Hp → VK → Prop} {f : List D → List D → Option (List D)} (slot : PySem.Slot "list" name id) (hty : typeOf (.builtin id) = pure (.type "method_descriptor")) (hm : MtR X id r) (hs : LmS X cl [] r f) (hv : PE X (.Name x p) (tVar i))
    (hbase : attributeBase (.Name x p) name X.env (eval (.Name x p) X.env) = eval (.Name x p) X.env := by rfl) (hline : (apos.endLine == cpos.line) = true := by rfl)
    (hsw : swapsWith (.Call (.Attribute (.Name x p) name apos) [] [] cpos) none pos.line X.env = pure false := by rfl) : SS X cl W (.Expr (.Call (.Attribute (.Name x p) name apos) [] [] cpos) pos) (sLm i f aNil) :=
  PS.weak (ps_expr (pe_bm0 PySem.F.plainAttrs_list slot hty hm hv hbase hline) hsw) fun D σ H ⟨G0, H0, S, ρ, G, R, h⟩ => by
    unfold sLm at h
    split at h
    · rename_i ds q
      obtain ⟨o, ho, v, rfl, ow⟩ := R.slot i _ q
      obtain ⟨a, vs, rfl, h1, r1, l1⟩ := ow.lst
      refine ⟨_, ho, .inl ⟨rfl, vs, .inl (.inl h1)⟩, ?_⟩
      unfold sEx aNil at h
      simp only at h
      cases q3 : f ds [] with
      | none => rw [q3] at h; exact h.elim
      | some ds' =>
        rw [q3] at h
        exact hs R.ok.zsub h1 r1 .nil q3 fun vs' r' => h G σ _ (R.write (as := [a]) ho (fun b hb => by simp at hb; subst hb; exact l1) (by simp) (.lst upd_same r')) (Zle.refl _)
    · exact h.elim
def lAppend : List D → List D → Option (List D)
  | ds, [d] => if ds.length < 1000000 then some (ds ++ [d]) else none
  | _, _ => none
theorem ArgsOk.oneF {K : PySem.W.Frag} {G : Gh} {H : Hp} {vs : List V} {d : D} (h : ArgsOk K cl G H [false] vs [d]) : ∃ v, vs = [v] ∧ RepG K cl G v d := by
  cases h with
  | fr h t => cases t; exact ⟨_, rfl, h⟩
theorem lm_append : LmS X cl [false] rAppend lAppend := fun {G H a vs xs ds es ds' Q} zs h1 r p q k => by
  unfold lAppend at q
  split at q
  · split at q
    · cases q
      rename_i hz
      obtain ⟨v, rfl, rv⟩ := p.oneF
      exact ⟨a, vs, v, rfl, rfl, h1, by rw [r.length]; exact lim_lt hz, k _ (r.append (.cons rv .nil))⟩
    · cases q
  · cases q
def lExtend : List D → List D → Option (List D)
  | ds, [.lst es] => if ds.length + es.length ≤ 1000000 then some (ds ++ es) else none
  | _, _ => none
theorem lm_extend : LmS X cl [true] rExtend lExtend := fun {G H a vs xs ds es ds' Q} zs h1 r p q k => by
  unfold lExtend at q
  split at q
  · split at q
    · cases q
      rename_i hz
      obtain ⟨v, rfl, rv⟩ := p.one
      obtain ⟨b, ws, rfl, h2, r2⟩ := rv.lst zs
      exact ⟨a, b, vs, ws, rfl, rfl, h1, h2, by rw [r.length, r2.length]; exact lim_ok hz, k _ (r.append r2)⟩
    · cases q
  · cases q
def lReverse : List D → List D → Option (List D) := fun ds _ => some ds.reverse
theorem lm_reverse : LmS X cl [] rReverse lReverse := fun {G H a vs xs ds es ds' Q} zs h1 r p q k => by
  cases q
  cases p
  exact ⟨a, vs, rfl, rfl, h1, k _ r.reverse⟩
def lClear : List D → List D → Option (List D) := fun _ _ => some []
theorem lm_clear : LmS X cl [] rClear lClear := fun {G H a vs xs ds es ds' Q} zs h1 r p q k => by
  cases q
  cases p
  exact ⟨a, vs, rfl, rfl, h1, k _ .nil⟩
def lInsert : List D → List D → Option (List D)
  | ds, [.int i, d] => if ds.length < 1000000 ∧ 0 ≤ i ∧ i < 1000000 then some (ds.take i.toNat ++ [d] ++ ds.drop i.toNat) else none
  | _, _ => none
theorem ArgsOk.twoF {K : PySem.W.Frag} {G : Gh} {H : Hp} {vs : List V} {d d' : D} (h : ArgsOk K cl G H [true, false] vs [d, d']) : ∃ v v', vs = [v, v'] ∧ RepT K cl G H v d ∧ RepG K cl G v' d' := by
  cases h with
  | bo h t =>
    obtain ⟨v', rfl, h'⟩ := t.oneF
    exact ⟨_, v', rfl, h, h'⟩
def rInsert : V → List V → Hp → VK → Prop := fun x vs H Q => ∃ (l : Addr) (xs : List V) (i : Int) (y : V), x = .ref l ∧ vs = [.int i, y] ∧ H l = some (.lst xs) ∧ xs.length < sizeLine ∧ 0 ≤ i ∧ i < 2 ^ 63 ∧ Q .non (upd H l (.lst (xs.take i.toNat ++ [y] ++ xs.drop i.toNat)))
theorem lm_insert : LmS X cl [true, false] rInsert lInsert := fun {G H a vs xs ds es ds' Q} zs h1 r p q k => by
  unfold lInsert at q
  split at q
  · split at q
    · cases q
      rename_i hz
      obtain ⟨v, v', rfl, rv, rv'⟩ := p.twoF
      exact ⟨a, vs, _, v', rfl, by rw [rv.int], h1, by rw [r.length]; exact lim_lt hz.1, hz.2.1, by have := hz.2.2; omega, k _ (((r.take _).append (.cons rv' .nil)).append (r.drop _))⟩
    · cases q
  · cases q
def lPop : List D → List D → Option (List D) := fun ds _ => if ds.length = 0 then none else some ds.dropLast
def rPopD : V → List V → Hp → VK → Prop := fun x vs H Q => ∃ l xs y, x = .ref l ∧ vs = [] ∧ H l = some (.lst xs) ∧ xs[xs.length - 1]? = some y ∧ Q y (upd H l (.lst xs.dropLast))

/-- x[k] = e, x an owned list -/
def sSetIx (i : Nat) (ci c : Ex) : Stm := fun ρ S => match ρ[i]? with
  | some (.ow (.lst ds)) => sEx c (fun d ρ S => sEx ci (fun k ρ S => match k with
    | .int j => (match ixN ds.length j with
      | some n => .nx (ρ.set i (.ow (.lst (ds.set n d)))) S
      | none => .stuck)
    | _ => .stuck) ρ S) ρ S
  | _ => .stuck
theorem ss_setIx {i : Nat} {x : Str} {k : Expr} {p pos' : Pos} {ck : Ex} (hv : PE X (.Name x p) (tVar i)) (hk : SB X cl W k ck) (he : SE X cl W e c)
    (ha : ∀ v, assign (.Subscript (.Name x p) k pos') X.env v = (do
      let ov ← holding [v] (eval (.Name x p) X.env)
      let iv ← holding [v, ov] (eval k X.env)
      standAt pos'
      holding [v, ov, iv] (setItem ov iv v)
      release [v, ov, iv] []) := by intro _; rfl)
    (hs : swapsWithSole [.Subscript (.Name x p) k pos'] e pos.line X.env = pure false := by rfl) (hw : swappedStores [.Subscript (.Name x p) k pos'] e X.env = pure none := by rfl)
    (h1 : (assignEach [.Subscript (.Name x p) k pos'] X.env).map (·.2) = [assign (.Subscript (.Name x p) k pos') X.env] := by rfl) : SS X cl W (.Assign [.Subscript (.Name x p) k pos'] e pos) (sSetIx i ck c) :=
  PS.weak (ps_asg he (pg_sub hv hk set_list ha) hs hw h1) fun D σ H ⟨G0, H0, S, ρ, G, R, h⟩ => by
    unfold sSetIx at h
    split at h
    · rename_i ds q
      refine sEx_at (P := PF X.K cl) R h fun S1 d v G1 H1 R1 st1 p1 q1 => ?_
      obtain ⟨o, ho, w, rfl, ow⟩ := R1.slot i _ q
      obtain ⟨a, vs, rfl, h1, r1, l1⟩ := ow.lst
      refine ⟨_, ho, sEx_at (P := PB X.K cl) R1 q1 fun S2 kd kv G2 H2 R2 st2 p2 q2 => ?_⟩
      obtain ⟨o', ho', w', rfl, ow'⟩ := R2.slot i _ q
      rw [ho] at ho'
      cases ho'
      obtain ⟨a', vs', e', h1', r1', l1'⟩ := ow'.lst
      cases e'
      cases kd <;> simp only [AftS] at q2
      rename_i j
      cases q3 : ixN ds.length j with
      | none => rw [q3] at q2; exact q2.elim
      | some n =>
        rw [q3] at q2
        exact ⟨a, vs', j, n, rfl, RepT.int p2, h1', by rw [r1'.length]; exact q3, q2 G2 σ _ (R2.write (as := [a]) ho (fun b hb => by simp at hb; subst hb; exact l1') (by simp) (.lst upd_same (RepAll.set (RepG.stp st2 p1) n r1'))) (Zle.refl _)⟩
    · exact h.elim

/-! ### dicts -/
def D.key : D → Option Key
  | .int i => some (.inl i)
  | .str x => some (.inr x)
  | _ => none
theorem RepT.key {K : PySem.W.Frag} {G : Gh} {H : Hp} {v : V} {d : D} {k : Key} (h : RepT K cl G H v d) (e : d.key = some k) : v = kV k := by
  cases d <;> simp only [D.key, reduceCtorEq] at e <;> cases e
  · exact h.int
  · exact h.str
def putD (ds : List (Key × D)) (k : Key) (d : D) : List (Key × D) := if (ds.any fun kv => decide (kv.1 = k)) = true then ds.map (fun kv => if kv.1 = k then (kv.1, d) else kv) else ds ++ [(k, d)]
def hasD (ds : List (Key × D)) (k : Key) : Bool := ds.any fun kv => decide (kv.1 = k)
theorem RepK.any {K : PySem.W.Frag} {mu : List Addr} {Z : Hp} {k : Key} : ∀ {vs : List (Key × V)} {ds : List (Key × D)}, RepK K cl mu Z vs ds → (vs.any fun kv => decide (kv.1 = k)) = (ds.any fun kv => decide (kv.1 = k))
  | _, _, .nil => rfl
  | _, _, .cons r t => by rw [List.any_cons, List.any_cons, RepK.any t]
theorem RepK.append {K : PySem.W.Frag} {mu : List Addr} {Z : Hp} : ∀ {vs ws : List (Key × V)} {ds es : List (Key × D)}, RepK K cl mu Z vs ds → RepK K cl mu Z ws es → RepK K cl mu Z (vs ++ ws) (ds ++ es)
  | _, _, _, _, .nil, t => t
  | _, _, _, _, .cons r s, t => .cons r (RepK.append s t)
theorem RepK.mapPut {K : PySem.W.Frag} {mu : List Addr} {Z : Hp} {k : Key} {v : V} {d : D} (rv : Rep K cl mu Z v d) : ∀ {vs : List (Key × V)} {ds : List (Key × D)}, RepK K cl mu Z vs ds → RepK K cl mu Z (vs.map fun kv => if kv.1 = k then (kv.1, v) else kv) (ds.map fun kv => if kv.1 = k then (kv.1, d) else kv)
  | _, _, .nil => .nil
  | _, _, @RepK.cons _ _ _ _ k' v' vs d' ds r t => by
    rw [List.map_cons, List.map_cons]
    by_cases h : k' = k
    · rw [if_pos h, if_pos h]; exact .cons rv (RepK.mapPut rv t)
    · rw [if_neg h, if_neg h]; exact .cons r (RepK.mapPut rv t)
theorem RepK.put {K : PySem.W.Frag} {mu : List Addr} {Z : Hp} {k : Key} {v : V} {d : D} (rv : Rep K cl mu Z v d) {vs : List (Key × V)} {ds : List (Key × D)} (r : RepK K cl mu Z vs ds) : RepK K cl mu Z (putK vs k v) (putD ds k d) := by
  unfold putK putD
  rw [r.any]
  split
  · exact r.mapPut rv
  · exact r.append (.cons rv .nil)
theorem RepK.val {K : PySem.W.Frag} {mu : List Addr} {Z : Hp} {k : Key} : ∀ {vs : List (Key × V)} {ds : List (Key × D)}, RepK K cl mu Z vs ds → (valV vs k).isSome = hasD ds k
  | _, _, .nil => rfl
  | _, _, @RepK.cons _ _ _ _ k' v' vs d' ds r t => by
    have ih := RepK.val (k := k) t
    unfold valV hasD at ih ⊢
    rw [List.find?_cons, List.any_cons]
    by_cases h : k' = k
    · simp [h]
    · rw [decide_eq_false h]
      simpa using ih
def sPut (i : Nat) (ci c : Ex) : Stm := fun ρ S => match ρ[i]? with
  | some (.ow (.dic ds)) => sEx c (fun d ρ S => sEx ci (fun k ρ S => match k.key with
    | some j => if ds.length < 1000000 then .nx (ρ.set i (.ow (.dic (putD ds j d)))) S else .stuck
    | none => .stuck) ρ S) ρ S
  | _ => .stuck
theorem ss_put {i : Nat} {x : Str} {k : Expr} {p pos' : Pos} {ck : Ex} (hu : X.A.units + 1 < cLine) (hv : PE X (.Name x p) (tVar i)) (hk : SB X cl W k ck) (he : SE X cl W e c) (hs : swapsWith e (some (.Subscript (.Name x p) k pos')) pos.line X.env = pure false := by rfl) : SS X cl W (.Assign [.Subscript (.Name x p) k pos'] e pos) (sPut i ck c) :=
  PS.weak (ps_dput hu hv hk he hs) fun D σ H ⟨G0, H0, S, ρ, G, R, h⟩ => by
    unfold sPut at h
    split at h
    · rename_i ds q
      refine sEx_at (P := PF X.K cl) R h fun S1 d v G1 H1 R1 st1 p1 q1 => ?_
      obtain ⟨o, ho, w, rfl, ow⟩ := R1.slot i _ q
      obtain ⟨a, vs, rfl, h1, r1, l1⟩ := ow.dic
      refine ⟨_, ho, sEx_at (P := PB X.K cl) R1 q1 fun S2 kd kv G2 H2 R2 st2 p2 q2 => ?_⟩
      obtain ⟨o', ho', w', rfl, ow'⟩ := R2.slot i _ q
      rw [ho] at ho'
      cases ho'
      obtain ⟨a', vs', e', h1', r1', l1'⟩ := ow'.dic
      cases e'
      cases q3 : kd.key with
      | none => rw [q3] at q2; exact q2.elim
      | some j =>
        rw [q3] at q2
        simp only at q2
        split at q2
        · rename_i hz
          have e2 := RepT.key p2 q3
          subst e2
          exact ⟨a, _, rfl, DPut.k h1' (by rw [r1'.length]; exact lim_lt hz), q2 G2 σ _ (R2.write (as := [a]) ho (fun b hb => by simp at hb; subst hb; exact l1') (by simp) (.dic upd_same (RepK.put (RepG.stp st2 p1) r1'))) (Zle.refl _)⟩
        · exact q2.elim
    · exact h.elim
/-- k in d -/
def oDin (neg : Bool) : D → D → Option D
  | d, .dic ds => (d.key).map fun k => .bl (if neg then !hasD ds k else hasD ds k)
  | _, _ => none
section
variable {a b : Expr} {ca cb : Ex}
theorem din_sem {neg : Bool} {σ : L2.St} {H : Hp} {Q : VK} (h : tX X.K cl (PF X.K cl) W (eBin (oDin neg) ca cb) σ H Q) :
    (tX X.K cl (PB X.K cl) W ca) σ H fun y H1 => (tX X.K cl (PB X.K cl) W cb) σ H1 fun x H2 => ∃ a o, x = .ref a ∧ DGet H2 a y o ∧ Q (.bl (if neg then !o.isSome else o.isSome)) H2 := by
  obtain ⟨G0, H0, S, ρ, G, R, h⟩ := h
  refine tX.bind (Pa := PB X.K cl) pfM R h fun d y S1 G1 H1 R1 s1 p1 h1 => ?_
  refine tX.bind (Pa := PB X.K cl) pfM R1 h1 fun e x S2 G2 H2 R2 s2 p2 h2 => ?_
  cases e <;> simp only [oDin, Res.opt, Aft] at h2
  rename_i ds
  cases q : d.key with
  | none => rw [q] at h2; exact h2.elim
  | some k =>
    rw [q] at h2
    obtain ⟨p, vs, rfl, h3, r3⟩ := RepT.dic p2 R2.ok.zsub
    have e1 := RepT.key (RepT.stp p1 s2) q
    subst e1
    exact ⟨p, _, rfl, DGet.k h3, by rw [r3.val]; exact h2 _ G2 H2 R2 (Stp.refl _ _) (.bl _)⟩
end
end
end PM
set_option maxHeartbeats 1000000
/-! PM8: what is walked; for, while, list comprehensions. -/
namespace PM
open PySem PySem.Spec PyProof.Rows L2

section
variable {K : PySem.W.Frag} {cl : ClsP} {W : WX} {G0 G G' G1 : Gh} {H0 H H' H1 : Hp} {S S' : Store} {ρ ρ' : Env} {σ : L2.St} {v : V} {d : D} {a : Addr} {as : List Addr} {i : Nat}
/-- the slots stay while an expression runs -/
theorem Rel.step (R : Rel K cl G0 H0 S ρ G σ H) (s : Stp G H G' H') (ok : GOk K cl S' G' H') : Rel K cl G0 H0 S' ρ G' σ H' :=
  ⟨ok, R.len, fun i sl e => by
    obtain ⟨o, h1, h2⟩ := R.slot i sl e
    exact ⟨o, h1, h2.mono (fun b hb o ho => s.keep b o ho fun l hl => by rw [hb] at hl; cases hl; rfl) s.z (fun b hb => s.lab b _ hb) s.mu⟩, R.stp.trans s, R.s0⟩
/-- a thing of nobody's is changed -/
theorem Rel.poke (R : Rel K cl G0 H0 S ρ G σ H) (h1 : G.lab a = none) (h2 : G.Z a = none) (h3 : H0 a = none) (h4 : ∃ o, H a = some o) (o : HO) : Rel K cl G0 H0 S ρ G σ (upd H a o) := by
  have oth : ∀ b l, G.lab b = some l → ∀ o', H b = some o' → upd H a o b = some o' := fun b l e o' ho => by
    rw [upd_ne fun q => by subst q; rw [h1] at e; cases e]
    exact ho
  refine ⟨⟨fun b o' e => ?_, fun b l e => ?_, fun n c e => (R.ok.st n c e).mono (fun b l e _ o' ho => oth b l e o' ho) (Same.refl _) (fun _ _ e _ => e) ⟨[], by simp⟩, R.ok.stn⟩, R.len, fun i s e => ?_, ⟨R.stp.z, R.stp.lab, fun b o' e hs => ?_, R.stp.labn, R.stp.zn, R.stp.mu, fun b e => ?_⟩, R.s0⟩
  · rw [upd_ne fun q => by subst q; rw [h2] at e; cases e]
    exact R.ok.zsub b o' e
  · obtain ⟨q1, o', q2⟩ := R.ok.labz b l e
    exact ⟨q1, o', oth b l e o' q2⟩
  · obtain ⟨o', q1, q2⟩ := R.slot i s e
    exact ⟨o', q1, q2.mono (fun b hb o' ho => oth b _ hb o' ho) (Same.refl _) (fun _ e => e) ⟨[], by simp⟩⟩
  · rw [upd_ne fun q => by subst q; rw [h3] at e; cases e]
    exact R.stp.keep b o' e hs
  · by_cases q : b = a
    · subst q; exact h3
    · rw [upd_ne q] at e; exact R.stp.dom b e
theorem Stp.poke (s : Stp G H G' H') (h : H a = none) (o : HO) : Stp G H G' (upd H' a o) :=
  ⟨s.z, s.lab, fun b o' e hs => by rw [upd_ne fun q => by subst q; rw [h] at e; cases e]; exact s.keep b o' e hs, s.labn, s.zn, s.mu, fun b e => by
    by_cases q : b = a
    · subst q; exact h
    · rw [upd_ne q] at e; exact s.dom b e⟩

/-! ### what is walked -/
structure IterOk (K : PySem.W.Frag) (cl : ClsP) (J : It) (ds : List D) (G0 : Gh) (H0 : Hp) (G : Gh) : Prop where
  go : ∀ S ρ G' σ H i d, Rel K cl G0 H0 S ρ G' σ H → Zle G G' → ds[i]? = some d → J.go i H ∧ ∀ x H2, J.yld i H x H2 → H2 = H ∧ RepG K cl G' x d
  stop : ∀ S ρ G' σ H, Rel K cl G0 H0 S ρ G' σ H → Zle G G' → J.stop ds.length H
abbrev Ix := Env → Store → Res (List D)
def tI (K : PySem.W.Frag) (cl : ClsP) (W : WX) (c : Ix) : TI := fun σ H R => ∃ (G0 : Gh) (H0 : Hp) (S : Store) (ρ : Env) (G : Gh), Rel K cl G0 H0 S ρ G σ H ∧
  match c ρ S with
  | .ok ds S' => ∀ J G' H', Rel K cl G0 H0 S' ρ G' σ H' → Stp G H G' H' → IterOk K cl J ds G0 H0 G' → R J H'
  | .exc n S' => ∀ G' H', Rel K cl G0 H0 S' ρ G' σ H' → Stp G H G' H' → W (.ref (cl n)) none σ H'
  | .stuck => False
end
abbrev SI (X : Cx) (cl : ClsP) (W : WX) (tg e : Expr) (c : Ix) : Prop := PI X tg e (tI X.K cl W c)
theorem PI.weak {X : Cx} {tg e : Expr} {t t' : TI} (h : PI X tg e t) (w : ∀ σ H R, t' σ H R → t σ H R) : PI X tg e t' := ⟨fun pins s σ H R I q => h.run pins s σ H R I (w σ H R q)⟩

section
variable {X : Cx} {cl : ClsP} {W : WX} {e tg : Expr} {c ca cb : Ex} {pos : Pos} {st : Stmt} {rest : List Stmt} {s1 s2 : Stm} {es : List Expr}
theorem iter_list {K : PySem.W.Frag} {G0 G : Gh} {H0 : Hp} {a : Addr} {vs : List V} {ds : List D} (h : ∀ S ρ G' σ H, Rel K cl G0 H0 S ρ G' σ H → Zle G G' → SqL K H a vs) (r : RepAll K cl G.mu G.Z vs ds)
    : IterOk K cl (Itl K a) ds G0 H0 G where
  go := fun S ρ G' σ H i d R z e => by
    obtain ⟨v, hv, rv⟩ := r.get e
    refine ⟨⟨vs, v, h S ρ G' σ H R z, hv⟩, fun x H2 y => ⟨y.1, ?_⟩⟩
    have hx := y.2 vs (h S ρ G' σ H R z)
    rw [hv] at hx
    cases hx
    exact Rep.mono z.z z.mu _ _ rv
  stop := fun S ρ G' σ H R z => ⟨vs, h S ρ G' σ H R z, by rw [r.length]; exact Nat.le_refl _⟩
/-- iterating the list (or the script) that an expression gives -/
def iL (ca : Ex) : Ix := fun ρ S => (ca ρ S).bind fun d S => match d with
  | .lst ds => .ok ds S
  | .scr ns => .ok (ns.map .int) S
  | _ => .stuck
theorem si_list (ha : SE X cl W e ca) : SI X cl W tg e (iL ca) := PI.weak (pi_list ha) fun σ H Rr ⟨G0, H0, S, ρ, G, R, h⟩ => by
  refine ⟨G0, H0, S, ρ, G, R, ?_⟩
  unfold iL at h
  cases q : ca ρ S with
  | ok d S' =>
    rw [q] at h
    intro v G' H' R' s p
    cases d <;> simp only [Res.bind] at h
    · rename_i ds
      cases p with
      | lst hs ra =>
        rename_i a vs
        exact ⟨a, rfl, ⟨vs, .inl (.inl (R'.ok.zsub _ _ hs))⟩, h (Itl X.K a) G' H' R' s (iter_list (vs := vs) (fun S ρ G'' σ H'' R'' z => .inl (.inl (R''.ok.zsub _ _ (z.z _ _ hs)))) ra)⟩
    · rename_i ns
      cases p with
      | scr hs =>
        rename_i a
        exact ⟨a, rfl, ⟨_, R'.ok.zsub.seq hs⟩, h (Itl X.K a) G' H' R' s (iter_list (vs := ns.map V.int) (fun S ρ G'' σ H'' R'' z => (z.z.trans R''.ok.zsub).seq hs) (RepAll.ints ns))⟩
  | exc n S' => rw [q] at h; exact h
  | stuck => rw [q] at h; exact h
/-- .. that a name borrows or holds frozen -/
def iB (i : Nat) : Ix := fun ρ S => match ρ[i]? with
  | some (.fr (.lst ds)) => .ok ds S
  | some (.bo (.lst ds)) => .ok ds S
  | some (.fr (.scr ns)) => .ok (ns.map .int) S
  | some (.bo (.scr ns)) => .ok (ns.map .int) S
  | _ => .stuck
theorem bor_sem {i : Nat} {σ : L2.St} {H : Hp} {Rr : It → Hp → Prop} (h0 : tI X.K cl W (iB i) σ H Rr) : iList X.K (tVar i) σ H Rr := by
  obtain ⟨G0, H0, S, ρ, G, R, h⟩ := h0
  have lists : ∀ ds v, σ[i]? = some (some v) → RepG X.K cl G v (.lst ds) → (∀ J G' H', Rel X.K cl G0 H0 S ρ G' σ H' → Stp G H G' H' → IterOk X.K cl J ds G0 H0 G' → Rr J H') → iList X.K (tVar i) σ H Rr := fun ds v ho r k => by
    cases r with
    | lst hs ra =>
      rename_i a vs
      exact ⟨_, ho, a, rfl, ⟨vs, .inl (.inl (R.ok.zsub _ _ hs))⟩, k (Itl X.K a) G H R (Stp.refl _ _) (iter_list (vs := vs) (fun S ρ G'' σ H'' R'' z => .inl (.inl (R''.ok.zsub _ _ (z.z _ _ hs)))) ra)⟩
  have scrs : ∀ ns v, σ[i]? = some (some v) → RepG X.K cl G v (.scr ns) → (∀ J G' H', Rel X.K cl G0 H0 S ρ G' σ H' → Stp G H G' H' → IterOk X.K cl J (ns.map .int) G0 H0 G' → Rr J H') → iList X.K (tVar i) σ H Rr := fun ns v ho r k => by
    cases r with
    | scr hs =>
      rename_i a
      exact ⟨_, ho, a, rfl, ⟨_, R.ok.zsub.seq hs⟩, k (Itl X.K a) G H R (Stp.refl _ _) (iter_list (vs := ns.map V.int) (fun S ρ G'' σ H'' R'' z => (z.z.trans R''.ok.zsub).seq hs) (RepAll.ints ns))⟩
  unfold iB at h
  cases q : ρ[i]? with
  | none => rw [q] at h; exact h.elim
  | some s =>
    obtain ⟨o, ho, hs⟩ := R.slot i s q
    rw [q] at h
    cases s with
    | un => exact h.elim
    | ow d => exact h.elim
    | me d => exact h.elim
    | fr d =>
      obtain ⟨v, rfl, r⟩ := hs
      cases d <;> simp only at h
      · exact lists _ v ho r h
      · exact scrs _ v ho r h
    | bo d =>
      obtain ⟨v, rfl, r⟩ := hs
      rcases r with r | ⟨a, as, rfl, cc, hl⟩
      · cases d <;> simp only at h
        · exact lists _ v ho r h
        · exact scrs _ v ho r h
      · cases d <;> simp only at h
        · rename_i ds
          cases cc with
          | lst h1 ra =>
            rename_i vs
            have ln : ∀ l, G0.lab a = some l → l.st = false := fun l e => by rw [hl a (by simp)] at e; cases e
            exact ⟨_, ho, a, rfl, ⟨vs, .inl (.inl (R.stp.keep _ _ h1 ln))⟩, h (Itl X.K a) G H R (Stp.refl _ _) (iter_list (vs := vs) (fun S ρ G'' σ H'' R'' z => .inl (.inl (R''.stp.keep _ _ h1 ln))) ra)⟩
        · cases cc
theorem si_bor {i : Nat} {x : Str} {p : Pos} (hv : PE X (.Name x p) (tVar i)) : SI X cl W tg (.Name x p) (iB i) := PI.weak (pi_list hv) fun σ H Rr h => bor_sem h
/-- .. a tuple -/
def iT (ca : Ex) : Ix := fun ρ S => (ca ρ S).bind fun d S => match d with
  | .tup ds => .ok ds S
  | _ => .stuck
theorem si_tup (ha : SE X cl W e ca) : SI X cl W tg e (iT ca) := PI.weak (pi_tup ha) fun σ H Rr ⟨G0, H0, S, ρ, G, R, h⟩ => by
  refine ⟨G0, H0, S, ρ, G, R, ?_⟩
  unfold iT at h
  cases q : ca ρ S with
  | ok d S' =>
    rw [q] at h
    intro v G' H' R' s p
    cases d <;> simp only [Res.bind] at h
    rename_i ds
    cases p with
    | tup hs ra =>
      rename_i a vs
      refine ⟨a, rfl, ⟨vs, sameT R'.ok.zsub hs⟩, h (Itt X.K a) G' H' R' s ⟨fun S ρ G'' σ H'' i d R'' z e => ?_, fun S ρ G'' σ H'' R'' z => ⟨vs, sameT (z.z.trans R''.ok.zsub) hs, by rw [ra.length]; exact Nat.le_refl _⟩⟩⟩
      obtain ⟨v, hv, rv⟩ := ra.get e
      refine ⟨⟨vs, v, sameT (z.z.trans R''.ok.zsub) hs, hv⟩, fun x H2 y => ⟨y.1, ?_⟩⟩
      have hx := y.2 vs (sameT (z.z.trans R''.ok.zsub) hs)
      rw [hv] at hx
      cases hx
      exact Rep.mono z.z z.mu _ _ rv
  | exc n S' => rw [q] at h; exact h
  | stuck => rw [q] at h; exact h
/-- .. a text -/
def iS (ca : Ex) : Ix := fun ρ S => (ca ρ S).bind fun d S => match d with
  | .str x => .ok (x.cps.toList.map fun c => .str ⟨#[c]⟩) S
  | _ => .stuck
theorem si_str (ha : SB X cl W e ca) : SI X cl W tg e (iS ca) := PI.weak (pi_str ha) fun σ H Rr ⟨G0, H0, S, ρ, G, R, h⟩ => by
  refine ⟨G0, H0, S, ρ, G, R, ?_⟩
  unfold iS at h
  cases q : ca ρ S with
  | ok d S' =>
    rw [q] at h
    intro v G' H' R' s p
    cases d <;> simp only [Res.bind] at h
    rename_i x
    refine ⟨x, RepT.str p, h (Its x) G' H' R' s ⟨fun S ρ G'' σ H'' i d R'' z e => ?_, fun S ρ G'' σ H'' R'' z => ?_⟩⟩
    · rw [List.getElem?_map] at e
      cases q2 : x.cps.toList[i]? with
      | none => rw [q2] at e; cases e
      | some cc =>
        rw [q2] at e
        cases e
        have hlt : i < x.cps.size := by rw [← Array.length_toList]; exact (List.getElem?_eq_some_iff.mp q2).1
        refine ⟨hlt, fun y H2 hy => ⟨hy.1, ?_⟩⟩
        obtain ⟨c', h1, h2⟩ := hy.2
        rw [Array.getElem?_toList] at q2
        rw [q2] at h1
        cases h1
        subst h2
        exact .str _
    · show x.cps.size ≤ _
      rw [List.length_map, Array.length_toList]
      exact Nat.le_refl _
  | exc n S' => rw [q] at h; exact h
  | stuck => rw [q] at h; exact h
/-- ints lo, lo + 1, .. -/
def rngD (lo : Int) (n : Nat) : List D := (List.range n).map fun (k : Nat) => .int (lo + (k : Int))
theorem iter_rng {K : PySem.W.Frag} {G0 G : Gh} {H0 : Hp} {lo : Int} {n : Nat} : IterOk K cl (Itr lo n) (rngD lo n) G0 H0 G where
  go := fun S ρ G' σ H i d R z e => by
    unfold rngD at e
    rw [List.getElem?_map] at e
    by_cases hi : i < n
    · rw [List.getElem?_range hi] at e
      cases e
      refine ⟨hi, fun x H2 y => ⟨y.1, ?_⟩⟩
      rw [y.2]
      exact .int _
    · rw [List.getElem?_eq_none (by simpa using hi)] at e
      cases e
  stop := fun S ρ G' σ H R z => by
    show n ≤ (rngD lo n).length
    unfold rngD
    rw [List.length_map, List.length_range]
    exact Nat.le_refl _
def fR1 : List D → Option (List D)
  | [.int j] => if -1000000000 ≤ j ∧ j ≤ 1000000000 then some (rngD 0 j.toNat) else none
  | _ => none
def fR2 : List D → Option (List D)
  | [.int i, .int j] => if (-1000000000 ≤ i ∧ i ≤ 1000000000) ∧ -1000000000 ≤ j ∧ j ≤ 1000000000 then some (rngD i (j - i).toNat) else none
  | _ => none
theorem fR1_some {ds zs : List D} (h : fR1 ds = some zs) : ∃ j, ds = [.int j] ∧ (-1000000000 ≤ j ∧ j ≤ 1000000000) ∧ zs = rngD 0 j.toNat := by
  unfold fR1 at h
  split at h
  · split at h
    · cases h
      exact ⟨_, rfl, by assumption, rfl⟩
    · cases h
  · cases h
theorem fR2_some {ds zs : List D} (h : fR2 ds = some zs) : ∃ i j, ds = [.int i, .int j] ∧ ((-1000000000 ≤ i ∧ i ≤ 1000000000) ∧ -1000000000 ≤ j ∧ j ≤ 1000000000) ∧ zs = rngD i (j - i).toNat := by
  unfold fR2 at h
  split at h
  · split at h
    · cases h
      exact ⟨_, _, rfl, by assumption, rfl⟩
    · cases h
  · cases h
def iFn (f : List D → Option (List D)) (ca : Ax) : Ix := fun ρ S => (ca ρ S).bind fun ds S => Res.opt (f ds) S
abbrev iR1 := iFn fR1
abbrev iR2 := iFn fR2
theorem si_range1 {a : Expr} {ax : Ax} {p : Pos} (hg : Gl X "range") (hm : X.mg "range" = none) (ha : SA X cl W [true] [a] ax) (hs : starEach [a] X.env = [(false, eval a X.env)] := by rfl) : SI X cl W tg (.Call (.Name "range" p) [a] [] pos) (iR1 ax) := PI.weak (pi_range1 hg hm ha hs) fun σ H Rr ⟨G0, H0, S, ρ, G, R, h⟩ => by
  refine ⟨G0, H0, S, ρ, G, R, ?_⟩
  unfold iR1 iFn at h
  cases q : ax ρ S with
  | ok ds S' =>
    rw [q] at h
    intro vs G' H' R' s p
    simp only [Res.bind] at h
    cases q2 : fR1 ds with
    | none => rw [q2] at h; exact h.elim
    | some zs =>
      rw [q2] at h
      obtain ⟨j, rfl, hz, rfl⟩ := fR1_some q2
      obtain ⟨v, rfl, rv⟩ := ArgsOk.one p
      exact ⟨j, by rw [rv.int], by have := hz.1; omega, by have := hz.2; omega, h _ G' H' R' s iter_rng⟩
  | exc n S' => rw [q] at h; exact h
  | stuck => rw [q] at h; exact h
theorem si_range2 {a b : Expr} {ax : Ax} {p : Pos} (hg : Gl X "range") (hm : X.mg "range" = none) (ha : SA X cl W [true, true] [a, b] ax) (hs : starEach [a, b] X.env = [(false, eval a X.env), (false, eval b X.env)] := by rfl) (hs2 : starEach [b] X.env = [(false, eval b X.env)] := by rfl) : SI X cl W tg (.Call (.Name "range" p) [a, b] [] pos) (iR2 ax) := PI.weak (pi_range2 hg hm ha hs hs2) fun σ H Rr ⟨G0, H0, S, ρ, G, R, h⟩ => by
  refine ⟨G0, H0, S, ρ, G, R, ?_⟩
  unfold iR2 iFn at h
  cases q : ax ρ S with
  | ok ds S' =>
    rw [q] at h
    intro vs G' H' R' s p
    simp only [Res.bind] at h
    cases q2 : fR2 ds with
    | none => rw [q2] at h; exact h.elim
    | some zs =>
      rw [q2] at h
      obtain ⟨i, j, rfl, hz, rfl⟩ := fR2_some q2
      obtain ⟨v, v', rfl, rv, rv'⟩ := ArgsOk.two p
      exact ⟨i, j, by rw [rv.int, rv'.int], ⟨by have := hz.1.1; omega, by have := hz.1.2; omega, by have := hz.2.1; omega, by have := hz.2.2; omega⟩, h _ G' H' R' s iter_rng⟩
  | exc n S' => rw [q] at h; exact h
  | stuck => rw [q] at h; exact h

/-! ### targets -/
abbrev Tgt := D → Env → Option Env
def TgS (X : Cx) (cl : ClsP) (g : TG) (tg : Tgt) : Prop :=
  ∀ {G0 : Gh} {H0 : Hp} {S : Store} {ρ ρ' : Env} {G : Gh} {σ : L2.St} {H : Hp} {x : V} {d : D} {Q : L2.St → Hp → Prop}, Rel X.K cl G0 H0 S ρ G σ H → RepG X.K cl G x d → tg d ρ = some ρ' → (∀ σ', Rel X.K cl G0 H0 S ρ' G σ' H → Q σ' H) → g x σ H Q
def gN (i : Nat) : Tgt := fun d ρ => some (ρ.set i (.fr d))
theorem tg_name {i : Nat} : TgS X cl (gName i) (gN i) := fun R r e k => by
  cases e
  exact k _ (R.setF i r)
def gTs : List Nat → List D → Env → Option Env
  | [], [], ρ => some ρ
  | i :: is, d :: ds, ρ => gTs is ds (ρ.set i (.fr d))
  | _, _, _ => none
def gT (is : List Nat) : Tgt := fun d ρ => match d with
  | .tup ds => gTs is ds ρ
  | _ => none
def gsOf : List Nat → TGs
  | [] => gNil
  | i :: is => gCons (gName i) (gsOf is)
theorem gTs_len : ∀ {is : List Nat} {ds : List D} {ρ ρ' : Env}, gTs is ds ρ = some ρ' → ds.length = is.length
  | [], [], _, _, _ => rfl
  | _ :: _, _ :: _, _, _, h => congrArg (· + 1) (gTs_len (by simpa only [gTs] using h))
  | [], _ :: _, _, _, h => by simp only [gTs, reduceCtorEq] at h
  | _ :: _, [], _, _, h => by simp only [gTs, reduceCtorEq] at h
theorem tgs_names {G0 : Gh} {H0 : Hp} {S : Store} {G : Gh} {H : Hp} {Q : L2.St → Hp → Prop} : ∀ {is : List Nat} {ds : List D} {vs : List V} {ρ ρ' : Env} {σ : L2.St}, Rel X.K cl G0 H0 S ρ G σ H → RepAll X.K cl G.mu G.Z vs ds → gTs is ds ρ = some ρ' → (∀ σ', Rel X.K cl G0 H0 S ρ' G σ' H → Q σ' H) → gsOf is vs σ H Q
  | [], [], _, _, _, _, R, r, h, k => by
    cases r
    simp only [gTs] at h
    cases h
    exact ⟨rfl, k _ R⟩
  | i :: is, d :: ds, _, _, _, _, R, r, h, k => by
    cases r with
    | cons r1 r2 => exact ⟨_, _, rfl, tgs_names (R.setF i r1) r2 (by simpa only [gTs] using h) k⟩
  | [], _ :: _, _, _, _, _, R, r, h, k => by simp only [gTs, reduceCtorEq] at h
  | _ :: _, [], _, _, _, _, R, r, h, k => by simp only [gTs, reduceCtorEq] at h
theorem tg_tup {is : List Nat} {n : Nat} (hn : is.length = n) : TgS X cl (gTup X.K n (gsOf is)) (gT is) := fun {G0 H0 S ρ ρ' G σ H x d Q} R r e k => by
  cases d <;> simp only [gT, reduceCtorEq] at e
  cases r with
  | tup hs ra => exact ⟨_, _, rfl, sameT R.ok.zsub hs, by rw [ra.length, gTs_len e, hn], tgs_names R ra e k⟩

/-! ### for -/
def forS (tg : Tgt) (body : Stm) : List D → Stm
  | [] => sNx
  | d :: ds => fun ρ S => match tg d ρ with
    | none => .stuck
    | some ρ1 => match body ρ1 S with
      | .nx ρ' S' => forS tg body ds ρ' S'
      | .ct ρ' S' => forS tg body ds ρ' S'
      | .bk ρ' S' => .nx ρ' S'
      | .rt v S' => .rt v S'
      | .exc n ρ' S' => .exc n ρ' S'
      | .stuck => .stuck
def sFor (ci : Ix) (tg : Tgt) (body : Stm) : Stm := sEx ci fun ds ρ S => forS tg body ds ρ S
theorem ss_for {iter : Expr} {body : List Stmt} {g : TG} {gt : Tgt} {ci : Ix} {cb : Stm} (hp : PassesOwn (model X.prog X.w) X.A X.env X.xe) (hc : X.calm = true) (hi : SI X cl W tg iter ci) (hg : PG X tg g) (hgs : TgS X cl g gt) (hb : SSs X cl W body cb)
    (hs : ∀ x, foldedSetIterable iter X.env x = pure x := by intro _; rfl) : SS X cl W (.For tg iter body [] pos) (sFor ci gt cb) := PS.weak (ps_for hp hc hi hg hb hs) fun D σ H ⟨G0, H0, S, ρ, G, R, h⟩ => by
  refine ⟨G0, H0, S, ρ, G, R, ?_⟩
  unfold sFor sEx at h
  cases q : ci ρ S with
  | exc n S' => rw [q] at h; exact fun G' H' R' s => h G' σ H' R' s.zle
  | stuck => rw [q] at h; exact h
  | ok ds S1 =>
    rw [q] at h
    intro J G1 H1 R1 s1 it
    refine ⟨fun i m σ H => ∃ (S : Store) (ρ : Env) (G : Gh), Rel X.K cl G0 H0 S ρ G σ H ∧ Zle G1 G ∧ m = ds.length - i ∧ i ≤ ds.length ∧ AftS X.K cl W G0 H0 G D (forS gt cb (ds.drop i) ρ S), ⟨_, S1, ρ, G1, R1, Zle.refl _, rfl, Nat.zero_le _, by rw [List.drop_zero]; exact h.pre s1.zle⟩, ?_⟩
    rintro i m σ H ⟨S, ρ, G, R, z, rfl, hi, h⟩
    by_cases hlt : i < ds.length
    · right
      have hd : ds[i]? = some ds[i] := List.getElem?_eq_getElem hlt
      obtain ⟨go, yl⟩ := it.go S ρ G σ H i _ R z hd
      rw [List.drop_eq_getElem_cons hlt] at h
      refine ⟨go, fun σ H => ∃ (S : Store) (ρ : Env) (G : Gh), Rel X.K cl G0 H0 S ρ G σ H ∧ Zle G1 G ∧ AftS X.K cl W G0 H0 G D (forS gt cb (ds.drop (i + 1)) ρ S), fun σ' H' ⟨S', ρ', G', R', z', h'⟩ => ⟨ds.length - (i + 1), by omega, S', ρ', G', R', z', rfl, hlt, h'⟩, fun x H2 y => ?_⟩
      obtain ⟨rfl, rx⟩ := yl x H2 y
      unfold forS at h
      cases qt : gt ds[i] ρ with
      | none => simp only [qt, AftS] at h
      | some ρ1 =>
        simp only [qt] at h
        refine hgs R rx qt fun σ2 R2 => ⟨G0, H0, S, ρ1, G, R2, ?_⟩
        cases qb : cb ρ1 S with
        | nx ρ' S' => simp only [qb] at h; exact fun G' σ' H' R' z' => ⟨S', ρ', G', R', z.trans z', h.pre z'⟩
        | ct ρ' S' => simp only [qb] at h; exact fun G' σ' H' R' z' => ⟨S', ρ', G', R', z.trans z', h.pre z'⟩
        | bk ρ' S' => simp only [qb] at h; exact fun G' σ' H' R' z' => h G' σ' H' R' z'
        | rt v S' => simp only [qb] at h; exact h
        | exc n ρ' S' => simp only [qb] at h; exact h
        | stuck => simp only [qb] at h; exact h
    · left
      have e : i = ds.length := by omega
      subst e
      rw [List.drop_length] at h
      exact ⟨it.stop S ρ G σ H R z, h G σ H R (Zle.refl _)⟩

/-! ### while -/
def whileS (tc : Tx) (body : Stm) : Nat → Stm
  | 0 => fun _ _ => .stuck
  | n + 1 => sEx tc fun k ρ S => if k = true then (match body ρ S with
      | .nx ρ' S' => whileS tc body n ρ' S'
      | .ct ρ' S' => whileS tc body n ρ' S'
      | .bk ρ' S' => .nx ρ' S'
      | .rt v S' => .rt v S'
      | .exc n ρ' S' => .exc n ρ' S'
      | .stuck => .stuck) else .nx ρ S
/-- so many turns are never gone; a bound that is never reckoned -/
def FUEL : Nat := 2 ^ 64
def sWhile (tc : Tx) (body : Stm) : Stm := whileS tc body FUEL
theorem ss_while {cnd : Expr} {body : List Stmt} {tc : Tx} {cb : Stm} (hp : PassesOwn (model X.prog X.w) X.A X.env X.xe) (hc : STt X cl W cnd tc) (hb : SSs X cl W body cb) : SS X cl W (.While cnd body [] pos) (sWhile tc cb) := PS.weak (ps_while hp hc hb) fun D σ H ⟨G0, H0, S, ρ, G, R, h⟩ => by
  refine ⟨fun m σ H => ∃ (S : Store) (ρ : Env) (G : Gh), Rel X.K cl G0 H0 S ρ G σ H ∧ AftS X.K cl W G0 H0 G D (whileS tc cb m ρ S), ⟨FUEL, S, ρ, G, R, h⟩, ?_⟩
  rintro m σ H ⟨S, ρ, G, R, h⟩
  cases m with
  | zero => exact h.elim
  | succ m =>
    unfold whileS at h
    refine sEx_at (P := PT1) R h fun S' d v G' H' R' s p q => ?_
    cases (show v = d from p)
    cases d with
    | false => exact q G' σ H' R' (Zle.refl _)
    | true =>
      rw [if_pos rfl] at q ⊢
      refine ⟨fun σ H => ∃ (S : Store) (ρ : Env) (G : Gh), Rel X.K cl G0 H0 S ρ G σ H ∧ AftS X.K cl W G0 H0 G D (whileS tc cb m ρ S), fun σ' H' h => ⟨m, Nat.lt_succ_self _, h⟩, G0, H0, S', ρ, G', R', ?_⟩
      cases qb : cb ρ S' with
      | nx ρ' S2 => simp only [qb] at q; exact fun G2 σ2 H2 R2 z => ⟨S2, ρ', G2, R2, q.pre z⟩
      | ct ρ' S2 => simp only [qb] at q; exact fun G2 σ2 H2 R2 z => ⟨S2, ρ', G2, R2, q.pre z⟩
      | bk ρ' S2 => simp only [qb] at q; exact fun G2 σ2 H2 R2 z => q G2 σ2 H2 R2 z
      | rt v S2 => simp only [qb] at q; exact q
      | exc n ρ' S2 => simp only [qb] at q; exact q
      | stuck => simp only [qb] at q; exact q

/-! ### list comprehensions -/
def wipeE (ρ : Env) : List Nat → Env
  | [] => ρ
  | v :: vs => (wipeE ρ vs).set v .un
theorem Rel.wipe {K : PySem.W.Frag} {G0 G : Gh} {H0 H : Hp} {S : Store} {ρ : Env} {σ : L2.St} (R : Rel K cl G0 H0 S ρ G σ H) : ∀ vs : List Nat, Rel K cl G0 H0 S (wipeE ρ vs) G (L2.wipe σ vs) H
  | [] => R
  | v :: vs => (Rel.wipe R vs).setU v none
theorem wipe_set {i : Nat} {o : Option V} : ∀ {vs : List Nat} {σ : L2.St}, i ∈ vs → L2.wipe (σ.set i o) vs = L2.wipe σ vs
  | v :: vs, σ, h => by
    unfold L2.wipe
    by_cases hv : i ∈ vs
    · rw [wipe_set hv]
    · have e : i = v := by simpa [hv] using h
      subst e
      have comm : ∀ (us : List Nat) (σ : L2.St), i ∉ us → L2.wipe (σ.set i o) us = (L2.wipe σ us).set i o := fun us => by
        induction us with
        | nil => intro σ _; rfl
        | cons u us ih =>
          intro σ hu
          unfold L2.wipe
          rw [ih σ fun q => hu (List.mem_cons_of_mem _ q), List.set_comm _ _ (show i ≠ u from fun q => hu (by simp [q]))]
      rw [comm vs σ hv, List.set_set]
theorem wipe_wipe : ∀ (us : List Nat) (vs : List Nat) (σ : L2.St), (∀ u ∈ us, u ∈ vs) → L2.wipe (L2.wipe σ us) vs = L2.wipe σ vs
  | [], vs, σ, _ => rfl
  | u :: us, vs, σ, h => by
    show L2.wipe ((L2.wipe σ us).set u none) vs = _
    rw [wipe_set (h u (by simp)), wipe_wipe us vs σ fun x hx => h x (List.mem_cons_of_mem _ hx)]
def lcS (tg : Tgt) (tt : Tx) (elt : Ex) (ρ : Env) : List D → List D → Store → Res D
  | [], acc, S => .ok (.lst acc) S
  | d :: ds, acc, S => match tg d ρ with
    | none => .stuck
    | some ρ1 => match tt ρ1 S with
      | .ok k S => if k = true then (match elt ρ1 S with
          | .ok y S => if acc.length < 1000000 then lcS tg tt elt ρ ds (acc ++ [y]) S else .stuck
          | _ => .stuck) else lcS tg tt elt ρ ds acc S
      | _ => .stuck
def eLc (own : List Nat) (ci : Ix) (tg : Tgt) (tt : Tx) (elt : Ex) : Ex := fun ρ S => (ci ρ S).bind fun ds S => lcS tg tt elt (wipeE ρ own) ds [] S
def tYesD : Tx := fun _ S => .ok true S
abbrev W0 : WX := fun _ _ _ _ => False
abbrev STs (X : Cx) (cl : ClsP) (W : WX) (ifs : List Expr) (c : Tx) : Prop := PTs X ifs (tX X.K cl PT1 W c)
theorem sts_nil : STs X cl W [] tYesD := ⟨fun pins s σ H Q I ⟨G0, H0, S, ρ, G, R, h⟩ => pts_nil.run pins s σ H Q I (h true G H R (Stp.refl _ _) rfl)⟩
theorem sts_one {cnd : Expr} {tc : Tx} (h : STt X cl W cnd tc) : STs X cl W [cnd] tc := pts_one h
/-- targets within a block: the block's own slots alone -/
def TgO (g : TG) (own : List Nat) : Prop := ∀ x σ H (Q Q' : L2.St → Hp → Prop), g x σ H Q → (∀ σ' H', Q σ' H' → H' = H → L2.wipe σ' own = L2.wipe σ own → Q' σ' H') → g x σ H Q'
theorem tgo_name {i : Nat} {own : List Nat} (h : i ∈ own) : TgO (gName i) own := fun x σ H Q Q' q k => k _ _ q rfl (wipe_set h)
theorem tgso {own : List Nat} : ∀ {is : List Nat} (h : ∀ i ∈ is, i ∈ own) (vs : List V) (σ : L2.St) (H : Hp) (Q Q' : L2.St → Hp → Prop), gsOf is vs σ H Q → (∀ σ' H', Q σ' H' → H' = H → L2.wipe σ' own = L2.wipe σ own → Q' σ' H') → gsOf is vs σ H Q'
  | [], _, vs, σ, H, Q, Q', q, k => ⟨q.1, k _ _ q.2 rfl rfl⟩
  | i :: is, h, vs, σ, H, Q, Q', ⟨v, r, e, q⟩, k => ⟨v, r, e, tgso (is := is) (fun j hj => h j (List.mem_cons_of_mem _ hj)) r (σ.set i (some v)) H Q Q' q fun σ' H' q' e1 e2 => k σ' H' q' e1 (e2.trans (wipe_set (h i (by simp))))⟩
theorem tgo_tup {K : PySem.W.Frag} {is own : List Nat} {n : Nat} (h : ∀ i ∈ is, i ∈ own) : TgO (gTup K n (gsOf is)) own := fun x σ H Q Q' ⟨a, xs, e, hs, hl, q⟩ k => ⟨a, xs, e, hs, hl, tgso h xs σ H Q Q' q k⟩
theorem lc_sem {G0 : Gh} {H0 : Hp} {g : TG} {gt : Tgt} {own : List Nat} {tt : Tx} {elt : Ex} {ds : List D} {J : It} {Gs G1 : Gh} {Hs H1 : Hp} {S1 : Store} {ρ : Env} {σ : L2.St} {Q : VK} (R1 : Rel X.K cl G0 H0 S1 ρ G1 σ H1) (s1 : Stp Gs Hs G1 H1) (it : IterOk X.K cl J ds G0 H0 G1)
    (hgs : TgS X cl g gt) (hgo : TgO g own) (h : Aft X.K cl (PN X.K cl) W G0 H0 ρ σ Gs Hs (lcS gt tt elt (wipeE ρ own) ds [] S1) Q) (L : Addr) (hL : H1 L = none) :
    ∃ Wv : Nat → Nat → Hp → Prop, (∃ m, Wv 0 m (upd H1 L (.lst []))) ∧ ∀ i m H, Wv i m H → (J.stop i H ∧ Q (.ref L) H) ∨ (J.go i H ∧ ∃ Nx : Hp → Prop, (∀ H', Nx H' → ∃ m', m' < m ∧ Wv (i + 1) m' H') ∧ ∀ x H', J.yld i H x H' → g x (L2.wipe σ own) H' fun σ2 H2 => L2.wipe σ2 own = L2.wipe σ own ∧ (tX X.K cl PT1 W0 tt) σ2 H2 fun b H3 =>
      if b = true then (tX X.K cl (PF X.K cl) W0 elt) σ2 H3 fun y H4 => ∃ acc, H4 L = some (.lst acc) ∧ acc.length < sizeLine ∧ Nx (upd H4 L (.lst (acc ++ [y]))) else Nx H3) := by
  have hLs : Hs L = none := s1.dom L hL
  let Wv : Nat → Hp → Prop := fun i H => ∃ (S : Store) (G : Gh) (vs : List V) (acc : List D), Rel X.K cl G0 H0 S ρ G σ H ∧ Stp Gs Hs G H ∧ Zle G1 G ∧ H L = some (.lst vs) ∧ RepAll X.K cl G.mu G.Z vs acc ∧ G.lab L = none ∧ G.Z L = none ∧ i ≤ ds.length ∧
    Aft X.K cl (PN X.K cl) W G0 H0 ρ σ Gs Hs (lcS gt tt elt (wipeE ρ own) (ds.drop i) acc S) Q
  refine ⟨fun i m H => m = ds.length - i ∧ Wv i H, ⟨_, rfl, ?_⟩, ?_⟩
  · obtain ⟨R2, s2, n⟩ := R1.newL hL (vs := []) (ds := []) .nil
    exact ⟨S1, G1, [], [], R2, s1.trans s2, Zle.refl _, upd_same, .nil, (n.2 L (by simp)).1, (n.2 L (by simp)).2, Nat.zero_le _, by rw [List.drop_zero]; exact h⟩
  · rintro i m H ⟨rfl, S, G, vs, acc, R, s, z, hv, r, l1, l2, hi, h⟩
    by_cases hlt : i < ds.length
    · right
      have hd : ds[i]? = some ds[i] := List.getElem?_eq_getElem hlt
      obtain ⟨go, yl⟩ := it.go S ρ G σ H i _ R z hd
      rw [List.drop_eq_getElem_cons hlt] at h
      refine ⟨go, fun H' => Wv (i + 1) H', fun H' w => ⟨ds.length - (i + 1), by omega, rfl, w⟩, fun x H2 y => ?_⟩
      obtain ⟨rfl, rx⟩ := yl x H2 y
      unfold lcS at h
      cases qt : gt ds[i] (wipeE ρ own) with
      | none => simp only [qt, Aft] at h
      | some ρ1 =>
        simp only [qt] at h
        refine hgo _ _ _ _ _ (hgs (Q := fun σ' H' => Rel X.K cl G0 H0 S ρ1 G σ' H2) (R.wipe own) rx qt fun σ2 R2 => R2) fun σ2 H2' R2 eH hw => ⟨hw.trans (wipe_wipe own own σ fun _ h => h), G0, H0, S, ρ1, G, by rw [eH]; exact R2, ?_⟩
        subst eH
        cases qtt : tt ρ1 S with
        | exc n S2 => simp only [qtt, Aft] at h
        | stuck => simp only [qtt, Aft] at h
        | ok k S2 =>
          simp only [qtt] at h
          intro b G2 H3 R3 s3 eb
          obtain rfl : b = k := eb
          have out : ∀ {G' : Gh} {H' : Hp}, Stp G H2' G' H' → H' L = some (.lst vs) ∧ G'.lab L = none ∧ G'.Z L = none := fun {G' H'} st => by
            refine ⟨st.keep L _ hv (fun l e => by rw [l1] at e; cases e), ?_, ?_⟩
            · cases e : G'.lab L with
              | none => rfl
              | some l =>
                rcases st.labn L l e with h | h
                · rw [l1] at h; cases h
                · rw [hv] at h; cases h
            · cases e : G'.Z L with
              | none => rfl
              | some o =>
                rcases st.zn L o e with h | h
                · rw [l2] at h; cases h
                · rw [hv] at h; cases h
          cases b with
          | false =>
            obtain ⟨o1, o2, o3⟩ := out s3
            exact ⟨S2, G2, vs, acc, R.step s3 R3.ok, s.trans s3, z.trans s3.zle, o1, RepAll.mono s3.z s3.mu _ _ r, o2, o3, hlt, h⟩
          | true =>
            rw [if_pos rfl]
            refine ⟨G0, H0, S2, ρ1, G2, R3, ?_⟩
            cases qe : elt ρ1 S2 with
            | exc n S3 => simp only [qe, if_true, Aft] at h
            | stuck => simp only [qe, if_true, Aft] at h
            | ok y S3 =>
              simp only [qe, if_true] at h
              intro yv G3 H4 R4 s4 ry
              have s34 := s3.trans s4
              obtain ⟨o1, o2, o3⟩ := out s34
              split at h
              · rename_i hz
                refine ⟨vs, o1, by rw [r.length]; exact lim_lt hz, S3, G3, vs ++ [yv], acc ++ [y], (R.step s34 R4.ok).poke o2 o3 (R1.stp.dom L hL) ⟨_, o1⟩ _, (s.trans s34).poke hLs _, z.trans s34.zle, upd_same, (RepAll.mono s34.z s34.mu _ _ r).append (.cons ry .nil), o2, o3, hlt, h⟩
              · exact h.elim
    · left
      have e : i = ds.length := by omega
      subst e
      rw [List.drop_length] at h
      exact ⟨it.stop S ρ G σ H R z, h _ G H R s ⟨L, [L], rfl, ⟨.lst hv r, fun b hb => by simp at hb; subst hb; exact ⟨l1, l2⟩⟩, fun b hb => by simp at hb; subst hb; exact hLs⟩⟩
theorem sn_lc {elt iter : Expr} {ifs : List Expr} {scope : Scope} {own : List (Str × Nat)} {g : TG} {gt : Tgt} {ci : Ix} {tt : Tx} {ce : Ex} (hc : X.calm = true) (hN : X.N.Nodup) (hi : SI X cl W tg iter ci) (ok : BlkOk X.N X.env.scope scope own)
    (hg : ∀ (s : Shared) (H : Hp) (C : Addr) (cs : List (Str × Addr)) (fp : List Addr), PG (X.blk s H scope (compEnvC scope cs C X.env) fp) tg g) (hgs : TgS X cl g gt) (hgo : TgO g (own.map (·.2)))
    (ht : ∀ (s : Shared) (H : Hp) (C : Addr) (cs : List (Str × Addr)) (fp : List Addr), STs (X.blk s H scope (compEnvC scope cs C X.env) fp) cl W0 ifs tt) (he : ∀ (s : Shared) (H : Hp) (C : Addr) (cs : List (Str × Addr)) (fp : List Addr), SE (X.blk s H scope (compEnvC scope cs C X.env) fp) cl W0 elt ce)
    (hs : ∀ x, foldedSetIterable iter X.env x = pure x := by intro _; rfl) : SN X cl W (.ListComp elt [⟨tg, iter, ifs, 0⟩] scope pos) (eLc (own.map (·.2)) ci gt tt ce) := PE.weak (pe_lc (tt := tX X.K cl PT1 W0 tt) (te := tX X.K cl (PF X.K cl) W0 ce) hc hN hi ok hg ht he hs) fun σ H Q ⟨G0, H0, S, ρ, G, R, h⟩ => by
  refine ⟨G0, H0, S, ρ, G, R, ?_⟩
  unfold eLc at h
  cases q : ci ρ S with
  | exc n S' => rw [q] at h; exact h
  | stuck => rw [q] at h; exact h
  | ok ds S1 =>
    rw [q] at h
    exact fun J G1 H1 R1 s1 it L hL => lc_sem R1 s1 it hgs hgo h L hL
/-- name = [..] on one line -/
theorem ss_setLcN {i : Nat} {y : Str} {py spos : Pos} {elt iter : Expr} {ifs : List Expr} {scope : Scope} {own : List (Str × Nat)} {g : TG} {gt : Tgt} {ci : Ix} {tt : Tx} {ce : Ex} (hc : X.calm = true) (hN : X.N.Nodup) (hy : X.N[i]? = some y) (hyl : X.env.scope.names.lookup y = some .local)
    (hsw : swapsWith (.ListComp elt [⟨tg, iter, ifs, 0⟩] scope pos) (some (.Name y py)) spos.line X.env = pure true) (hi : SI X cl W tg iter ci) (ok : BlkOk X.N X.env.scope scope own)
    (hg : ∀ (s : Shared) (H : Hp) (C : Addr) (cs : List (Str × Addr)) (fp : List Addr), PG (X.blk s H scope (compEnvC scope cs C X.env) fp) tg g) (hgs : TgS X cl g gt) (hgo : TgO g (own.map (·.2)))
    (ht : ∀ (s : Shared) (H : Hp) (C : Addr) (cs : List (Str × Addr)) (fp : List Addr), STs (X.blk s H scope (compEnvC scope cs C X.env) fp) cl W0 ifs tt) (he : ∀ (s : Shared) (H : Hp) (C : Addr) (cs : List (Str × Addr)) (fp : List Addr), SE (X.blk s H scope (compEnvC scope cs C X.env) fp) cl W0 elt ce)
    (hs : ∀ x, foldedSetIterable iter X.env x = pure x := by intro _; rfl) : SS X cl W (.Assign [.Name y py] (.ListComp elt [⟨tg, iter, ifs, 0⟩] scope pos) spos) (sSetN i (eLc (own.map (·.2)) ci gt tt ce)) := PS.weak (ps_setLc (tt := tX X.K cl PT1 W0 tt) (te := tX X.K cl (PF X.K cl) W0 ce) hc hN hy hyl hsw hi ok hg ht he hs) fun D σ H ⟨G0, H0, S, ρ, G, R, h⟩ => by
  refine ⟨G0, H0, S, ρ, G, R, ?_⟩
  unfold sSetN sEx eLc at h
  cases q : ci ρ S with
  | exc n S' => simp only [q, Res.bind] at h; exact fun G' H' R' s => h G' σ H' R' s.zle
  | stuck => simp only [q, Res.bind] at h; exact h
  | ok ds S1 =>
    simp only [q, Res.bind] at h
    intro J G1 H1 R1 s1 it L hL
    refine lc_sem (W := W) (Q := fun x H1 => gName i x σ H1 D.nx) (tt := tt) (elt := ce) R1 s1 it hgs hgo ?_ L hL
    cases q2 : lcS gt tt ce (wipeE ρ (own.map (·.2))) ds [] S1 with
    | exc n S2 => simp only [q2] at h; exact fun G' H' R' s => h G' σ H' R' s.zle
    | stuck => simp only [q2] at h; exact h
    | ok d S2 =>
      simp only [q2] at h
      rintro v G' H' R' s ⟨a, as, rfl, n, hn⟩
      exact h _ _ H' (R'.setN i n fun b hb => R.stp.dom b (hn b hb)) ⟨s.z, s.mu⟩
theorem ss_setLc {i : Nat} {y : Str} {py spos : Pos} {elt iter : Expr} {ifs : List Expr} {scope : Scope} {own : List (Str × Nat)} {g : TG} {gt : Tgt} {ci : Ix} {tt : Tx} {ce : Ex} (hc : X.calm = true) (hN : X.N.Nodup) (hy : X.N[i]? = some y) (hyl : X.env.scope.names.lookup y = some .local)
    (hsw : swapsWith (.ListComp elt [⟨tg, iter, ifs, 0⟩] scope pos) (some (.Name y py)) spos.line X.env = pure true) (hi : SI X cl W tg iter ci) (ok : BlkOk X.N X.env.scope scope own)
    (hg : ∀ (s : Shared) (H : Hp) (C : Addr) (cs : List (Str × Addr)) (fp : List Addr), PG (X.blk s H scope (compEnvC scope cs C X.env) fp) tg g) (hgs : TgS X cl g gt) (hgo : TgO g (own.map (·.2)))
    (ht : ∀ (s : Shared) (H : Hp) (C : Addr) (cs : List (Str × Addr)) (fp : List Addr), STs (X.blk s H scope (compEnvC scope cs C X.env) fp) cl W0 ifs tt) (he : ∀ (s : Shared) (H : Hp) (C : Addr) (cs : List (Str × Addr)) (fp : List Addr), SE (X.blk s H scope (compEnvC scope cs C X.env) fp) cl W0 elt ce)
    (hs : ∀ x, foldedSetIterable iter X.env x = pure x := by intro _; rfl) : SS X cl W (.Assign [.Name y py] (.ListComp elt [⟨tg, iter, ifs, 0⟩] scope pos) spos) (sSet i (eLc (own.map (·.2)) ci gt tt ce)) := PS.weak (ss_setLcN hc hN hy hyl hsw hi ok hg hgs hgo ht he hs) fun D σ H ⟨G0, H0, S, ρ, G, R, h⟩ => by
  refine ⟨G0, H0, S, ρ, G, R, ?_⟩
  unfold sSet sEx at h
  unfold sSetN sEx
  cases q : eLc (own.map (·.2)) ci gt tt ce ρ S with
  | exc n S2 => simp only [q] at h ⊢; exact h
  | stuck => simp only [q] at h ⊢; exact h
  | ok d S2 =>
    simp only [q] at h ⊢
    intro G' σ' H' R' z
    by_cases hi2 : i < ρ.length
    · obtain ⟨G2, R2, z2⟩ := R'.thaw (i := i) (List.getElem?_set_self hi2)
      rw [List.set_set] at R2
      exact h G2 σ' H' R2 (z.trans z2)
    · have e1 : ∀ s : Slot, ρ.set i s = ρ := fun s => List.set_eq_of_length_le (by omega)
      rw [e1] at R' h
      exact h G' σ' H' R' z
end
end PM
set_option maxHeartbeats 1000000
/-! PM9: what a def promises, told of data; calls, methods, new instances, attributes; raise, try. -/
namespace PM
open PySem PySem.Spec PyProof.Rows L2

section
variable (K : PySem.W.Frag) (cl : ClsP)
/-- the promise of a def whose worth is m; bm: which arguments are borrowed -/
def FnEnd (G : Gh) (H : Hp) (r : Res Val) (Q : VK) (E : XK) : Prop :=
  match r with
  | .ok v S' => RtOk K cl G H S' v Q
  | .exc n S' => ∀ G' H', GOk K cl S' G' H' → StOnly G' → Stp G H G' H' → E (.ref (cl n)) none H'
  | .stuck => False
def spOf (bm : List Bool) (m : Fn) : Sp := fun vs H Q E => ∃ (G : Gh) (S : Store) (ds : List D), GOk K cl S G H ∧ StOnly G ∧ ArgsOk K cl G H bm vs ds ∧ FnEnd K cl G H (m ds S) Q E
end
def parE : List Bool → List D → List Slot
  | true :: bm, d :: ds => .bo d :: parE bm ds
  | false :: bm, d :: ds => .fr d :: parE bm ds
  | _, _ => []
def startE (bm : List Bool) (ds : List D) (k : Nat) : Env := parE bm ds ++ List.replicate k .un
def fin (r : SR) : Res Val := match r with
  | .nx _ S => .ok (.fr .non) S
  | .rt v S => .ok v S
  | .exc n _ S => .exc n S
  | _ => .stuck
def mkFn (bm : List Bool) (k : Nat) (body : Stm) : Fn := fun ds S => fin (body (startE bm ds k) S)

section
variable {K : PySem.W.Frag} {cl : ClsP} {W : WX} {G0 G G' G1 : Gh} {H0 H H' H1 : Hp} {S S' : Store} {ρ ρ' : Env} {σ : L2.St} {v : V} {d : D} {a : Addr} {as : List Addr} {i : Nat}
theorem ArgsOk.slots : ∀ {bm : List Bool} {vs : List V} {ds : List D}, ArgsOk K cl G H bm vs ds → StOnly G → ∀ (j i : Nat) (s : Slot), (parE bm ds)[i]? = some s → ∃ o, (vs.map some)[i]? = some o ∧ SlotOk K cl G H G H (.slot j) s o
  | _, _, _, .nil, _, _, _, _, h => by simp [parE] at h
  | _, _, _, .fr r t, hs, j, 0, s, h => by
    simp only [parE, List.getElem?_cons_zero, Option.some.injEq] at h
    subst h
    exact ⟨_, rfl, _, rfl, r⟩
  | _, _, _, .bo r t, hs, j, 0, s, h => by
    simp only [parE, List.getElem?_cons_zero, Option.some.injEq] at h
    subst h
    refine ⟨_, rfl, _, rfl, ?_⟩
    rcases r with r | ⟨a, as, e, c, q⟩
    · exact .inl r
    · refine .inr ⟨a, as, e, c, fun b hb => ?_⟩
      cases e2 : G.lab b with
      | none => rfl
      | some l =>
        have h1 := q b hb l e2
        rw [hs b l e2] at h1
        cases h1
  | _, _, _, .fr r t, hs, j, i + 1, s, h => by
    simp only [parE, List.getElem?_cons_succ] at h
    obtain ⟨o, h1, h2⟩ := t.slots hs j i s h
    exact ⟨o, by simpa using h1, h2⟩
  | _, _, _, .bo r t, hs, j, i + 1, s, h => by
    simp only [parE, List.getElem?_cons_succ] at h
    obtain ⟨o, h1, h2⟩ := t.slots hs j i s h
    exact ⟨o, by simpa using h1, h2⟩
theorem parE_len : ∀ {bm : List Bool} {vs : List V} {ds : List D}, ArgsOk K cl G H bm vs ds → (parE bm ds).length = vs.length
  | _, _, _, .nil => rfl
  | _, _, _, .fr r t => congrArg (· + 1) (parE_len t)
  | _, _, _, .bo r t => congrArg (· + 1) (parE_len t)
/-- the state at a def's entry -/
theorem Rel.start {bm : List Bool} {vs : List V} {ds : List D} {k n : Nat} (ok : GOk K cl S G H) (so : StOnly G) (p : ArgsOk K cl G H bm vs ds) (hn : n = k) : Rel K cl G H S (startE bm ds k) G (vs.map some ++ List.replicate n none) H := by
  have sl : ∀ i s, (startE bm ds k)[i]? = some s → ∃ o, (vs.map some ++ List.replicate n none)[i]? = some o ∧ SlotOk K cl G H G H (.slot i) s o := fun i s h => by
    unfold startE at h
    by_cases hi : i < (parE bm ds).length
    · rw [List.getElem?_append_left hi] at h
      obtain ⟨o, h1, h2⟩ := p.slots so i i s h
      exact ⟨o, by rw [List.getElem?_append_left (by rw [List.length_map, ← parE_len p]; exact hi)]; exact h1, h2⟩
    · rw [List.getElem?_append_right (by omega), List.getElem?_replicate] at h
      split at h
      · cases h
        rename_i h2
        refine ⟨none, ?_, trivial⟩
        rw [List.getElem?_append_right (by rw [List.length_map, ← parE_len p]; omega), List.getElem?_replicate, if_pos (by rw [List.length_map, ← parE_len p, hn]; exact h2)]
      · cases h
  exact ⟨ok, by unfold startE; rw [List.length_append, List.length_append, parE_len p, List.length_map, List.length_replicate, List.length_replicate, hn], sl, Stp.refl _ _, so⟩

/-- the caller's slots and what the callee left -/
def Gh.join (G G' : Gh) : Gh := { G' with lab := fun b => match G.lab b with
  | some l => if l.st = true then G'.lab b else some l
  | none => G'.lab b }
theorem join_cases {b : Addr} {l : Lab} (h : (G.join G').lab b = some l) : (G.lab b = some l ∧ l.st = false) ∨ G'.lab b = some l := by
  have h' : (match G.lab b with
    | some l => if l.st = true then G'.lab b else some l
    | none => G'.lab b) = some l := h
  cases q : G.lab b with
  | none => rw [q] at h'; exact .inr h'
  | some m =>
    rw [q] at h'
    simp only at h'
    split at h'
    · exact .inr h'
    · cases h'
      exact .inl ⟨rfl, by simpa using (by assumption : ¬ l.st = true)⟩
theorem join_slot {b : Addr} {l : Lab} (h : G.lab b = some l) (hs : l.st = false) : (G.join G').lab b = some l := by
  show (match G.lab b with
    | some l => if l.st = true then G'.lab b else some l
    | none => G'.lab b) = some l
  rw [h]
  simp [hs]
theorem join_new {b : Addr} (h : G.lab b = none) : (G.join G').lab b = G'.lab b := by
  show (match G.lab b with
    | some l => if l.st = true then G'.lab b else some l
    | none => G'.lab b) = G'.lab b
  rw [h]
theorem join_st {b : Addr} {l : Lab} (h : G.lab b = some l) (hs : l.st = true) : (G.join G').lab b = G'.lab b := by
  show (match G.lab b with
    | some l => if l.st = true then G'.lab b else some l
    | none => G'.lab b) = G'.lab b
  rw [h]
  simp [hs]
theorem Rel.join (R : Rel K cl G0 H0 S ρ G σ H) (ok : GOk K cl S' G' H') (so : StOnly G') (st : Stp G.out H G' H') : Rel K cl G0 H0 S' ρ (G.join G') σ H' ∧ Stp G H (G.join G') H' := by
  have slotOut : ∀ b l, G.lab b = some l → l.st = false → G.out.lab b = none := fun b l h hs => by
    cases e : G.out.lab b with
    | none => rfl
    | some m =>
      have := out_some.mp e
      rw [h] at this
      obtain ⟨h1, h2⟩ := this
      cases h1
      rw [hs] at h2
      cases h2
  -- a store label of the callee is one of the join
  have stl : ∀ b l, G'.lab b = some l → (G.join G').lab b = some l := fun b l h => by
    cases q : G.lab b with
    | none => rw [join_new q]; exact h
    | some m =>
      cases hm : m.st with
      | true => rw [join_st q hm]; exact h
      | false =>
        rcases st.labn b l h with h2 | h2
        · rw [slotOut b m q hm] at h2; cases h2
        · obtain ⟨_, o, h3⟩ := R.ok.labz b m q
          rw [h2] at h3; cases h3
  have sj : Stp G H (G.join G') H' := by
    refine ⟨st.z, fun b l h => ?_, fun b o h hs => st.keep b o h fun l hl => ?_, fun b l h => ?_, st.zn, st.mu, st.dom⟩
    · cases hl : l.st with
      | false => exact join_slot h hl
      | true => exact stl b l (st.lab b l (out_some.mpr ⟨h, hl⟩))
    · exact hs l (out_some.mp hl).1
    · rcases join_cases h with ⟨h1, _⟩ | h1
      · exact .inl h1
      · rcases st.labn b l h1 with h2 | h2
        · exact .inl (out_some.mp h2).1
        · exact .inr h2
  refine ⟨R.step sj ⟨ok.zsub, fun b l h => ?_, fun n c e => (ok.st n c e).mono (fun _ _ _ _ _ e => e) (Same.refl _) (fun b l e _ => stl b l e) ⟨[], by simp [Gh.join]⟩, ok.stn⟩, sj⟩
  rcases join_cases h with ⟨h1, h2⟩ | h1
  · obtain ⟨z, o, ho⟩ := R.ok.labz b l h1
    refine ⟨?_, o, st.keep b o ho fun l' e => ?_⟩
    · cases q : G'.Z b with
      | none => exact q
      | some o' =>
        rcases st.zn b o' q with h3 | h3
        · have z' : G.out.Z b = none := z
          rw [z'] at h3; cases h3
        · rw [ho] at h3; cases h3
    · rw [slotOut b l h1 h2] at e; cases e
  · exact ok.labz b l h1
theorem ArgsOk.out : ∀ {bm : List Bool} {vs : List V} {ds : List D}, ArgsOk K cl G H bm vs ds → ArgsOk K cl G.out H bm vs ds
  | _, _, _, .nil => .nil
  | _, _, _, .fr r t => .fr r t.out
  | _, _, _, .bo r t => .bo (by
    rcases r with r | ⟨a, as, e, c, q⟩
    · exact .inl r
    · exact .inr ⟨a, as, e, c, fun b hb l h => q b hb l (out_some.mp h).1⟩) t.out
/-- what a call is worth -/
def resF (r : Res Val) : Res D := match r with
  | .ok (.fr d) S => .ok d S
  | .ok (.ow d) S => .ok d S
  | .exc n S => .exc n S
  | .stuck => .stuck
def resN (r : Res Val) : Res D := match r with
  | .ok (.ow d) S => .ok d S
  | .exc n S => .exc n S
  | _ => .stuck
theorem new_join (R : Rel K cl G0 H0 S ρ G σ H) (n : NewAt K cl G' H' a d as) (hn : ∀ b ∈ as, H b = none) : NewAt K cl (G.join G') H' a d as :=
  ⟨n.1, fun b hb => ⟨by rw [join_new (R.nobody (hn b hb)).1]; exact (n.2 b hb).1, (n.2 b hb).2⟩⟩
theorem call_semF {r : Res Val} {Q : VK} (R : Rel K cl G0 H0 S ρ G σ H) (h : Aft K cl (PF K cl) W G0 H0 ρ σ G H (resF r) Q) : FnEnd K cl G.out H r Q (WE W σ) := by
  cases r with
  | ok v S' =>
    cases v with
    | fr d =>
      intro v G' H' ok so st r
      obtain ⟨R', s'⟩ := R.join ok so st
      exact h v _ H' R' s' r
    | ow d =>
      intro a as G' H' ok so st n hn
      obtain ⟨R', s'⟩ := R.join ok so st
      obtain ⟨R2, s2, rp⟩ := R'.freeze R.stp s' (new_join R n hn) hn
      exact h _ _ H' R2 s2 rp
  | exc n S' =>
    intro G' H' ok so st
    obtain ⟨R', s'⟩ := R.join ok so st
    exact h _ H' R' s'
  | stuck => exact h
theorem call_semN {r : Res Val} {Q : VK} (R : Rel K cl G0 H0 S ρ G σ H) (h : Aft K cl (PN K cl) W G0 H0 ρ σ G H (resN r) Q) : FnEnd K cl G.out H r Q (WE W σ) := by
  cases r with
  | ok v S' =>
    cases v with
    | fr d => exact h.elim
    | ow d =>
      intro a as G' H' ok so st n hn
      obtain ⟨R', s'⟩ := R.join ok so st
      exact h _ _ H' R' s' ⟨a, as, rfl, new_join R n hn, hn⟩
  | exc n S' =>
    intro G' H' ok so st
    obtain ⟨R', s'⟩ := R.join ok so st
    exact h _ H' R' s'
  | stuck => exact h
end

/-! ### a def -/
section
variable {P : Program} {w : World} {K : PySem.W.Frag} {mg : Str → Option Value} {base : Heap} {cl : ClsP}
theorem fn_ok {x qual : Str} {st : Stmt} {f : Addr} {fd : FuncData} {N ps : List Str} {lv k : Nat} {bm : List Bool} {body : Stm} (F : Fun K x qual st f fd) (Sc : FnScope N ps (defScope st)) (hbm : bm.length = ps.length) (hk : N.length = ps.length + k)
    (hbody : ∀ (cdv : Value) (A : Around) (outer : List PySem.Env) (s : Shared) (H : Hp) (E : XK), Room lv (A.deeper (envOfC qual (defScope st) s.heap.objs.size f cdv)) →
      Takes (cxOf (L2.CX P w) P w K mg base N qual (defScope st) f cdv A outer s H E) (fun c d _ H => E c d H) →
      SSs (cxOf (L2.CX P w) P w K mg base N qual (defScope st) f cdv A outer s H E) cl (fun c d _ H => E c d H) (defBody st) body) : FnOk P w K mg base (L2.CX P w) (lv + 1) f fd ps (spOf K cl bm (mkFn bm k body)) := by
  refine F.okX Sc (fun vs H Q E ⟨G, S, ds, ok, so, p, q⟩ => (p.len.1).trans hbm) (fun cdv A outer s H vs Q E hr ⟨G, S, ds, ok, so, p, q⟩ => ?_)
  refine ⟨_, hbody cdv A outer s H E hr (takes_of rfl rfl rfl rfl), G, H, S, startE bm ds k, G, Rel.start ok so p (by rw [p.len.1, hbm, hk]; omega), ?_⟩
  unfold mkFn at q
  cases r : body (startE bm ds k) S with
  | nx ρ' S' => rw [r] at q; exact fun G' σ' H' R' z => q .non _ H' R'.leave.1 out_only R'.leave.2 .non
  | rt v S' => rw [r] at q; exact q
  | exc n ρ' S' => rw [r] at q; exact fun G' σ' H' R' z => q _ H' R'.leave.1 out_only R'.leave.2
  | bk ρ' S' => rw [r] at q; exact q.elim
  | ct ρ' S' => rw [r] at q; exact q.elim
  | stuck => rw [r] at q; exact q.elim
end

/-! ### calls -/
section
variable {X : Cx} {cl : ClsP} {W : WX} {e o : Expr} {es : List Expr} {pos : Pos} {k : Nat} {f : Addr} {fd : FuncData} {ps : List Str} {m : Fn} {bm : List Bool} {x : Str} {p : Pos} {ax : Ax}
def eCall (m : Fn) (ca : Ax) : Ex := fun ρ S => (ca ρ S).bind fun ds S => resF (m ds S)
def eCallN (m : Fn) (ca : Ax) : Ex := fun ρ S => (ca ρ S).bind fun ds S => resN (m ds S)
theorem se_call (F : FnOk X.prog X.w X.K X.mg X.base (L2.CX X.prog X.w) k f fd ps (spOf X.K cl bm m)) (hr : Room k X.A) (hg : Gl X x) (hm : X.mg x = some (.ref f)) (hk : PySem.W.keepIn X.K (.ref f) = true) (hb : Binds X.K fd ps []) (tk : Takes X W) (ha : SA X cl W bm (e :: es) ax)
    (hdb : (x == ("__debug__" : Str)) = false := by decide) (he : starEach (e :: es) X.env = (false, eval e X.env) :: starEach es X.env := by rfl) (hpl : (backTo pos (starEach es X.env)).any (·.1) = false := by rfl) : SE X cl W (.Call (.Name x p) (e :: es) [] pos) (eCall m ax) :=
  PE.weak (pe_callS F hr hg hm hk hb (passAt tk) ha hdb he hpl) fun σ H Q ⟨G0, H0, S, ρ, G, R, h⟩ => by
    refine tX.bind (Pa := PA1 X.K cl bm) pfM R h fun ds vs S1 G1 H1 R1 s1 p1 h1 => ?_
    exact ⟨G1.out, S1, ds, R1.leave.1, out_only, ArgsOk.out p1, call_semF R1 h1⟩
theorem sn_call (F : FnOk X.prog X.w X.K X.mg X.base (L2.CX X.prog X.w) k f fd ps (spOf X.K cl bm m)) (hr : Room k X.A) (hg : Gl X x) (hm : X.mg x = some (.ref f)) (hk : PySem.W.keepIn X.K (.ref f) = true) (hb : Binds X.K fd ps []) (tk : Takes X W) (ha : SA X cl W bm (e :: es) ax)
    (hdb : (x == ("__debug__" : Str)) = false := by decide) (he : starEach (e :: es) X.env = (false, eval e X.env) :: starEach es X.env := by rfl) (hpl : (backTo pos (starEach es X.env)).any (·.1) = false := by rfl) : SN X cl W (.Call (.Name x p) (e :: es) [] pos) (eCallN m ax) :=
  PE.weak (pe_callS F hr hg hm hk hb (passAt tk) ha hdb he hpl) fun σ H Q ⟨G0, H0, S, ρ, G, R, h⟩ => by
    refine tX.bind (Pa := PA1 X.K cl bm) pnM R h fun ds vs S1 G1 H1 R1 s1 p1 h1 => ?_
    exact ⟨G1.out, S1, ds, R1.leave.1, out_only, ArgsOk.out p1, call_semN R1 h1⟩

/-! ### methods, by the class that the receiver has -/
/-- a method of the class C that keeps the promise sp -/
def MethOk (X : Cx) (m : Str) (C : Addr) (sp : Sp) : Prop := ∃ (g : Addr) (fd : FuncData) (j : Nat) (ps : List Str), Cls X.K C ∧ Meth X.K C m g ∧ FnOk X.prog X.w X.K X.mg X.base (L2.CX X.prog X.w) j g fd ps sp ∧ Room j X.A ∧ Binds X.K fd ps []
def tMD (X : Cx) (m : Str) (W : WX) (ta : TE) (t : TA) : TE := fun σ H Q => ta σ H fun v H1 => ∃ (a C dx : Addr) (fs : List (Str × V)) (sp : Sp), v = .ref a ∧ H1 a = some (.ins C dx fs) ∧ fs.lookup m = none ∧ MethOk X m C sp ∧ t σ H1 fun vs H2 => sp (v :: vs) H2 Q (WE W σ)
theorem pe_md {mn : Str} {apos : Pos} {ta : TE} {t : TA} {pl : Sem Bool} (ho : PE X o ta) (tk : Takes X W) (ha : PA X (e :: es) t)
    (hst : starEach (e :: es) X.env = (false, eval e X.env) :: starEach es X.env := by rfl) (hpl : (backTo pos (starEach es X.env)).any (·.1) = false := by rfl)
    (ht : eval (.Call (.Attribute o mn apos) (e :: es) [] pos) X.env = (do
      let ov ← eval o X.env
      standAt apos.atName
      let (f, first) ← holding [ov] (getMethod ov mn pl)
      callWith pos f first (backTo pos (starEach (e :: es) X.env)) (backToKw pos (keywordEach [] X.env))) := by rfl) : PE X (.Call (.Attribute o mn apos) (e :: es) [] pos) (tMD X mn W ta t) :=
  ⟨fun pins s σ H Q I h => PySem.W.methodCall_KW (pl := pl) (thn (ho.run pins s σ H _ I h) fun u s1 ⟨v, H1, I1, rv, a, C, dx, fs, sp, ev, ea, l, ⟨g, fd, j, ps, c, hm, F, hr, hb⟩, q⟩ => by
    subst ev
    cases (show u = Value.ref a from rv)
    refine getmeth_ok I1 ea c hm l ?_
    refine PySem.W.callWith_K (first := [.ref a]) (h₀ := X.base) I.ok.mod.kin hm.kp (thn (ha.run pos pins s1 σ H1 _ I1 q) fun us s2 ⟨vs, H2, I2, r, q2⟩ => ⟨I2.kIn, ?_⟩) hst hpl
    exact run_fnS (E := WE W) (us := Value.ref a :: us) (vs := V.ref a :: vs) F hr hb (passAt tk σ) I2 (.cons rfl r) q2) ht⟩
theorem pe_md0 {mn : Str} {apos : Pos} {ta : TE} {pl : Sem Bool} (ho : PE X o ta) (tk : Takes X W)
    (ht : eval (.Call (.Attribute o mn apos) [] [] pos) X.env = (do
      let ov ← eval o X.env
      standAt apos.atName
      let (f, first) ← holding [ov] (getMethod ov mn pl)
      callWith pos f first (backTo pos (starEach [] X.env)) (backToKw pos (keywordEach [] X.env))) := by rfl) : PE X (.Call (.Attribute o mn apos) [] [] pos) (tMD X mn W ta tNil) :=
  ⟨fun pins s σ H Q I h => PySem.W.methodCall_KW (pl := pl) (thn (ho.run pins s σ H _ I h) fun u s1 ⟨v, H1, I1, rv, a, C, dx, fs, sp, ev, ea, l, ⟨g, fd, j, ps, c, hm, F, hr, hb⟩, q⟩ => by
    subst ev
    cases (show u = Value.ref a from rv)
    refine getmeth_ok I1 ea c hm l ?_
    exact PySem.W.callWith_K0 (first := [.ref a]) I1.kIn hm.kp (run_fnS (E := WE W) (us := [Value.ref a]) (vs := [V.ref a]) F hr hb (passAt tk σ) I1 (.cons rfl .nil) q)) ht⟩
/-- the worth of a method, by the class -/
abbrev MTab := Nat → Option Fn
def eMeth (mn : Str) (mt : MTab) (co : Ex) (ca : Ax) (fin : Res Val → Res D) : Ex := fun ρ S => (co ρ S).bind fun d S => match d with
  | .obj c fs => (match fs.lookup mn, mt c with
    | none, some fn => (ca ρ S).bind fun ds S => fin (fn (d :: ds) S)
    | _, _ => .stuck)
  | .rf n => (match S[n]? with
    | some cell => (match cell.fs.lookup mn, mt cell.c with
      | none, some fn => (ca ρ S).bind fun ds S => fin (fn (d :: ds) S)
      | _, _ => .stuck)
    | none => .stuck)
  | _ => .stuck
/-- the class's methods are so -/
def MtOk (X : Cx) (cl : ClsP) (mn : Str) (bm : List Bool) (mt : MTab) : Prop := ∀ c fn, mt c = some fn → MethOk X mn (cl c) (spOf X.K cl (true :: bm) fn)
theorem lookup_none {f : Str} {α β : Type} : ∀ {xs : List (Str × α)} {ys : List (Str × β)}, xs.map (·.1) = ys.map (·.1) → ys.lookup f = none → xs.lookup f = none
  | [], [], _, _ => rfl
  | (a, x) :: xs, (b, y) :: ys, h, e => by
    simp only [List.map_cons, List.cons.injEq] at h
    obtain ⟨rfl, h⟩ := h
    rw [List.lookup_cons] at e ⊢
    cases q : f == a with
    | true => rw [q] at e; simp at e
    | false => rw [q] at e; exact lookup_none h e
/-- where the receiver stands -/
theorem recv {K : PySem.W.Frag} {G0 G : Gh} {H0 H : Hp} {S : Store} {ρ : Env} {σ : L2.St} {v : V} {mn : Str} {mt : MTab} {d : D} {fn : Fn} {c : Nat} (R : Rel K cl G0 H0 S ρ G σ H) (p : RepT K cl G H v d)
    (h : (∃ fs, d = .obj c fs ∧ fs.lookup mn = none ∧ mt c = some fn) ∨ ∃ n cell, d = .rf n ∧ S[n]? = some cell ∧ cell.c = c ∧ cell.fs.lookup mn = none ∧ mt c = some fn) : ∃ a dx fs, v = .ref a ∧ H a = some (.ins (cl c) dx fs) ∧ fs.lookup mn = none := by
  rcases h with ⟨fs, rfl, h1, h2⟩ | ⟨n, cell, rfl, hn, rfl, h1, h2⟩
  · rcases p with p | ⟨a, as, rfl, cc, _⟩
    · cases p with
      | obj hs hx ha => exact ⟨_, _, _, rfl, R.ok.zsub _ _ hs, ha.lookupN h1⟩
    · cases cc with
      | obj hs hx ha => exact ⟨_, _, _, rfl, hs, ha.lookupN h1⟩
  · rcases p with p | ⟨a, as, rfl, cc, _⟩
    · cases p with
      | rf e =>
        obtain ⟨a, dx, vs, e1, l1, l2, h3, h4, h5, h6⟩ := (R.ok.st n cell hn).ok
        rw [e] at e1
        cases e1
        exact ⟨_, _, _, rfl, h3, lookup_none h5 h1⟩
    · cases cc
theorem meth_sem {mn : Str} {mt : MTab} {co : Ex} {bm : List Bool} {P : Post D V} {fn : Res Val → Res D} (hP : PostM P) (hfin : ∀ {G0 : Gh} {H0 : Hp} {S : Store} {ρ : Env} {G : Gh} {σ : L2.St} {H : Hp} {r : Res Val} {Q : VK}, Rel X.K cl G0 H0 S ρ G σ H → Aft X.K cl P W G0 H0 ρ σ G H (fn r) Q → FnEnd X.K cl G.out H r Q (WE W σ)) (hmt : MtOk X cl mn bm mt)
    {σ : L2.St} {H : Hp} {Q : VK} (h : tX X.K cl P W (eMeth mn mt co ax fn) σ H Q) : tMD X mn W (tX X.K cl (PB X.K cl) W co) (tX X.K cl (PA1 X.K cl bm) W ax) σ H Q := by
  obtain ⟨G0, H0, S, ρ, G, R, h⟩ := h
  refine tX.bind hP R h fun d v S1 G1 H1 R1 s1 p1 h1 => ?_
  have go : ∀ (c : Nat) (fn1 : Fn), mt c = some fn1 → ((∃ fs, d = .obj c fs ∧ fs.lookup mn = none ∧ mt c = some fn1) ∨ ∃ n cell, d = .rf n ∧ S1[n]? = some cell ∧ cell.c = c ∧ cell.fs.lookup mn = none ∧ mt c = some fn1) →
      Aft X.K cl P W G0 H0 ρ σ G1 H1 ((ax ρ S1).bind fun ds S => fn (fn1 (d :: ds) S)) Q → ∃ (a C dx : Addr) (fs : List (Str × V)) (sp : Sp), v = .ref a ∧ H1 a = some (.ins C dx fs) ∧ fs.lookup mn = none ∧ MethOk X mn C sp ∧ tX X.K cl (PA1 X.K cl bm) W ax σ H1 fun vs H2 => sp (v :: vs) H2 Q (WE W σ) := fun c fn1 hf hr h1 => by
    obtain ⟨a, dx, fs, rfl, h2, h3⟩ := recv R1 p1 hr
    refine ⟨a, cl c, dx, fs, _, rfl, h2, h3, hmt c fn1 hf, tX.bind (Pa := PA1 X.K cl bm) hP R1 h1 fun ds vs S2 G2 H2 R2 s2 p2 h4 => ?_⟩
    exact ⟨G2.out, S2, d :: ds, R2.leave.1, out_only, ArgsOk.out (.bo (RepT.stp p1 s2) p2), hfin R2 h4⟩
  cases d with
  | obj c fs =>
    simp only at h1
    cases q1 : fs.lookup mn with
    | some y => simp only [q1, Aft] at h1
    | none =>
      cases q2 : mt c with
      | none => simp only [q1, q2, Aft] at h1
      | some fn1 =>
        simp only [q1, q2] at h1
        exact go c fn1 q2 (.inl ⟨fs, rfl, q1, q2⟩) h1
  | rf n =>
    simp only at h1
    cases q0 : S1[n]? with
    | none => simp only [q0, Aft] at h1
    | some cell =>
      simp only [q0] at h1
      cases q1 : cell.fs.lookup mn with
      | some y => simp only [q1, Aft] at h1
      | none =>
        cases q2 : mt cell.c with
        | none => simp only [q1, q2, Aft] at h1
        | some fn1 =>
          simp only [q1, q2] at h1
          exact go cell.c fn1 q2 (.inr ⟨n, cell, rfl, q0, rfl, q1, q2⟩) h1
  | _ => simp only [Aft] at h1
theorem se_meth {mn : Str} {apos : Pos} {mt : MTab} {co : Ex} {pl : Sem Bool} (hmt : MtOk X cl mn bm mt) (ho : SB X cl W o co) (tk : Takes X W) (ha : SA X cl W bm (e :: es) ax)
    (hst : starEach (e :: es) X.env = (false, eval e X.env) :: starEach es X.env := by rfl) (hpl : (backTo pos (starEach es X.env)).any (·.1) = false := by rfl)
    (ht : eval (.Call (.Attribute o mn apos) (e :: es) [] pos) X.env = (do
      let ov ← eval o X.env
      standAt apos.atName
      let (f, first) ← holding [ov] (getMethod ov mn pl)
      callWith pos f first (backTo pos (starEach (e :: es) X.env)) (backToKw pos (keywordEach [] X.env))) := by rfl) : SE X cl W (.Call (.Attribute o mn apos) (e :: es) [] pos) (eMeth mn mt co ax resF) :=
  PE.weak (pe_md (pl := pl) ho tk ha hst hpl ht) fun σ H Q h => meth_sem pfM call_semF hmt h
theorem sn_meth {mn : Str} {apos : Pos} {mt : MTab} {co : Ex} {pl : Sem Bool} (hmt : MtOk X cl mn bm mt) (ho : SB X cl W o co) (tk : Takes X W) (ha : SA X cl W bm (e :: es) ax)
    (hst : starEach (e :: es) X.env = (false, eval e X.env) :: starEach es X.env := by rfl) (hpl : (backTo pos (starEach es X.env)).any (·.1) = false := by rfl)
    (ht : eval (.Call (.Attribute o mn apos) (e :: es) [] pos) X.env = (do
      let ov ← eval o X.env
      standAt apos.atName
      let (f, first) ← holding [ov] (getMethod ov mn pl)
      callWith pos f first (backTo pos (starEach (e :: es) X.env)) (backToKw pos (keywordEach [] X.env))) := by rfl) : SN X cl W (.Call (.Attribute o mn apos) (e :: es) [] pos) (eMeth mn mt co ax resN) :=
  PE.weak (pe_md (pl := pl) ho tk ha hst hpl ht) fun σ H Q h => meth_sem pnM call_semN hmt h
theorem aNil_sem {σ : L2.St} {H : Hp} {Q : List V → Hp → Prop} (h : tX X.K cl (PA1 X.K cl []) W aNil σ H Q) : tNil σ H Q := by
  obtain ⟨G0, H0, S, ρ, G, R, h⟩ := h
  exact h _ G H R (Stp.refl _ _) .nil
theorem tMD_nil {mn : Str} {ta : TE} {σ : L2.St} {H : Hp} {Q : VK} (mono : ∀ (M M' : V → Hp → Prop), (∀ v H, M v H → M' v H) → ta σ H M → ta σ H M') (h : tMD X mn W ta (tX X.K cl (PA1 X.K cl []) W aNil) σ H Q) : tMD X mn W ta tNil σ H Q :=
  mono _ _ (fun v H1 ⟨a, C, dx, fs, sp, e1, e2, e3, e4, q⟩ => ⟨a, C, dx, fs, sp, e1, e2, e3, e4, aNil_sem q⟩) h
theorem tX_mono {K : PySem.W.Frag} {α β : Type} {P : Post α β} {c : Env → Store → Res α} {σ : L2.St} {H : Hp} {Q Q' : β → Hp → Prop} (k : ∀ v H, Q v H → Q' v H) (h : tX K cl P W c σ H Q) : tX K cl P W c σ H Q' := by
  obtain ⟨G0, H0, S, ρ, G, R, h⟩ := h
  refine ⟨G0, H0, S, ρ, G, R, ?_⟩
  cases q : c ρ S with
  | ok d S' => rw [q] at h; exact fun v G' H' R' s p => k _ _ (h v G' H' R' s p)
  | exc n S' => rw [q] at h; exact h
  | stuck => rw [q] at h; exact h
theorem se_meth0 {mn : Str} {apos : Pos} {mt : MTab} {co : Ex} {pl : Sem Bool} (hmt : MtOk X cl mn [] mt) (ho : SB X cl W o co) (tk : Takes X W)
    (ht : eval (.Call (.Attribute o mn apos) [] [] pos) X.env = (do
      let ov ← eval o X.env
      standAt apos.atName
      let (f, first) ← holding [ov] (getMethod ov mn pl)
      callWith pos f first (backTo pos (starEach [] X.env)) (backToKw pos (keywordEach [] X.env))) := by rfl) : SE X cl W (.Call (.Attribute o mn apos) [] [] pos) (eMeth mn mt co aNil resF) :=
  PE.weak (pe_md0 (pl := pl) ho tk ht) fun σ H Q h => tMD_nil (fun _ _ k q => tX_mono k q) (meth_sem pfM call_semF hmt h)
theorem sn_meth0 {mn : Str} {apos : Pos} {mt : MTab} {co : Ex} {pl : Sem Bool} (hmt : MtOk X cl mn [] mt) (ho : SB X cl W o co) (tk : Takes X W)
    (ht : eval (.Call (.Attribute o mn apos) [] [] pos) X.env = (do
      let ov ← eval o X.env
      standAt apos.atName
      let (f, first) ← holding [ov] (getMethod ov mn pl)
      callWith pos f first (backTo pos (starEach [] X.env)) (backToKw pos (keywordEach [] X.env))) := by rfl) : SN X cl W (.Call (.Attribute o mn apos) [] [] pos) (eMeth mn mt co aNil resN) :=
  PE.weak (pe_md0 (pl := pl) ho tk ht) fun σ H Q h => tMD_nil (fun _ _ k q => tX_mono k q) (meth_sem pnM call_semN hmt h)
end

section
variable {X : Cx} {cl : ClsP} {W : WX} {a b c : Expr} {ca cb cc : Ex} {pos : Pos}
theorem se_glE {x : Str} {v : V} {d : D} (hg : Gl X x) (h : ∃ u, X.mg x = some u ∧ RelV v u) (rp : ∀ mu Z, Rep X.K cl mu Z v d) (hd : (x == ("__debug__" : Str)) = false := by decide) : SE X cl W (.Name x pos) (eC d) := by
  obtain ⟨u, hm, r⟩ := h
  exact se_gl hg hm r rp hd
theorem se_ch {op op' : CmpOp} {r r' : R2} {f f' : D → D → Option D} (ho : OpR X (compareOp op) r) (ho' : OpR X (compareOp op') r') (hs : OpS X cl r f (PF X.K cl)) (hs' : OpS X cl r' f' (PF X.K cl)) (ha : SB X cl W a ca) (hb : SB X cl W b cb) (hc : SB X cl W c cc) (hm : lastMarks [op, op'] [b, c] = false := by with_unfolding_all rfl) : SE X cl W (.Compare a [op, op'] [b, c] pos) (eChain f f' ca cb cc) :=
  PE.weak (pe_chain ho ho' ha hb hc hm) fun _ _ _ h => chain_sem hs hs' h
end
theorem _root_.L2.Room.u65 {k : Nat} {A : Around} (r : Room k A) : A.units + 65 < cLine := by have := r.un; omega
theorem _root_.L2.Room.u1 {k : Nat} {A : Around} (r : Room k A) : A.units + 1 < cLine := by have := r.un; omega
end PM
set_option maxHeartbeats 1000000
/-! PM10: the law's start. -/
namespace PM
open PySem PySem.Spec PyProof.Rows L2
theorem sp_start {K : PySem.W.Frag} {cl : ClsP} (bm : List Bool) {m : Fn} {H : Hp} {a : Addr} {ns : List Int} (hb : bm = [true] ∨ bm = [false]) (h : ∃ S, m [.scr ns] [] = .ok (.fr (.bl true)) S) (hS : SqL K H a (ns.map V.int)) : spOf K cl bm m [.ref a] H (fun v _ => v = .bl true) (fun _ _ _ => False) := by
  obtain ⟨S, e⟩ := h
  refine ⟨{ Z := H, lab := fun _ => none, mu := [], me := none }, [], [.scr ns], ⟨fun _ _ e => e, fun _ _ e => (by cases e), fun n c e => (by simp at e), ⟨rfl, rfl⟩⟩, fun _ _ e => (by cases e), ?_, ?_⟩
  · rcases hb with rfl | rfl
    · exact .bo (.inl (.scr hS)) .nil
    · exact .fr (.scr hS) .nil
  · rw [e]
    intro v G' H' _ _ _ r
    cases r
    rfl
theorem cx_end {P : Program} {w : World} {H : Hp} {s : Shared} {e : Value} {s' : Shared} (z : L2.CX P w [] H s (fun _ _ _ => False) e s') : False := by
  obtain ⟨_, _, _, _, _, _, _, _, _, _, _, _, h⟩ := z
  exact h
end PM
set_option maxHeartbeats 1000000
/-! PM11: instances made, their fields read and stored, isinstance of own classes, raise. -/
namespace PM
open PySem PySem.Spec PyProof.Rows L2

/-- the classes that have the field -/
abbrev FTab := Nat → Str → Bool
def CInfo (K : PySem.W.Frag) (cl : ClsP) (fl : FTab) : Prop := ∀ c f, fl c f = true → Cls K (cl c) ∧ NoAttr K (cl c) f
def pD (f : Str) (d : D) : List (Str × D) → List (Str × D)
  | [] => [(f, d)]
  | (g, x) :: r => if g = f then (g, d) :: r else (g, x) :: pD f d r
section
variable {K : PySem.W.Frag} {cl : ClsP} {mu : List Addr} {Z H : Hp} {G : Gh} {v : V}
theorem RepF.put {f : Str} {d : D} (r : Rep K cl mu Z v d) : ∀ {vs : List (Str × V)} {ds : List (Str × D)}, RepF K cl mu Z vs ds → RepF K cl mu Z (putF f v vs) (pD f d ds)
  | _, _, .nil => .cons r .nil
  | _, _, @RepF.cons _ _ _ _ g w vs e ds q t => by
    unfold putF pD
    by_cases h : g = f
    · rw [if_pos h, if_pos h]; exact .cons r t
    · rw [if_neg h, if_neg h]; exact .cons q (RepF.put r t)
theorem RepT.obj {c : Nat} {fs : List (Str × D)} (h : RepT K cl G H v (.obj c fs)) (zs : Same G.Z H) : ∃ a dx vs, v = .ref a ∧ H a = some (.ins (cl c) dx vs) ∧ RepF K cl G.mu G.Z vs fs := by
  rcases h with h | ⟨a, as, e, cc, _⟩
  · cases h with
    | obj hs hx ha => exact ⟨_, _, _, rfl, zs _ _ hs, ha⟩
  · cases cc with
    | obj hs hx ha => exact ⟨_, _, _, e, hs, ha⟩
theorem RepT.rfn {n : Nat} (h : RepT K cl G H v (.rf n)) : ∃ a, v = .ref a ∧ G.mu[n]? = some a := by
  rcases h with h | ⟨a, as, e, cc, _⟩
  · cases h with
    | rf e => exact ⟨_, rfl, e⟩
  · cases cc
theorem lookup_at {f : Str} {α β : Type} : ∀ {vs : List (Str × α)} {ds : List (Str × β)} {s : β}, vs.map (·.1) = ds.map (·.1) → ds.lookup f = some s → ∃ (k : Nat) (v : α), ds[k]? = some (f, s) ∧ vs[k]? = some (f, v) ∧ vs.lookup f = some v
  | [], [], _, _, e => by simp at e
  | (a, x) :: vs, (b, y) :: ds, s, h, e => by
    simp only [List.map_cons, List.cons.injEq] at h
    obtain ⟨rfl, h⟩ := h
    rw [List.lookup_cons] at e
    cases q : f == a with
    | true =>
      rw [q] at e
      simp at e
      subst e
      have : f = a := by simpa using q
      subst this
      exact ⟨0, x, rfl, rfl, by simp⟩
    | false =>
      rw [q] at e
      obtain ⟨k, v, h1, h2, h3⟩ := lookup_at h e
      exact ⟨k + 1, v, by simpa using h1, by simpa using h2, by rw [List.lookup_cons, q]; exact h3⟩
end
def eFld (fl : FTab) (f : Str) (co : Ex) : Ex := fun ρ S => (co ρ S).bind fun d S => match d with
  | .obj c fs => if fl c f = true then Res.opt (fs.lookup f) S else .stuck
  | .rf n => (match S[n]? with
    | some cell => if fl cell.c f = true then (match cell.fs.lookup f with
      | some (.fr d) => .ok d S
      | _ => .stuck) else .stuck
    | none => .stuck)
  | _ => .stuck
section
variable {X : Cx} {cl : ClsP} {W : WX} {e o : Expr} {c co : Ex} {pos : Pos} {fl : FTab} {f : Str}
theorem se_fld (hi : CInfo X.K cl fl) (ho : SB X cl W o co) (hb : attributeBase o f X.env (eval o X.env) = eval o X.env := by rfl) : SE X cl W (.Attribute o f pos) (eFld fl f co) := PE.weak (pe_fld ho hb) fun σ H Q ⟨G0, H0, S, ρ, G, R, h⟩ => by
  refine tX.bind (Pa := PB X.K cl) pfM R h fun d v S1 G1 H1 R1 s1 p1 h1 => ?_
  cases d with
  | obj k fs =>
    simp only at h1
    split at h1
    · rename_i hf
      obtain ⟨hc, hn⟩ := hi k f hf
      cases q : fs.lookup f with
      | none => rw [q] at h1; exact h1.elim
      | some y =>
        rw [q] at h1
        obtain ⟨a, dx, vs, rfl, ha, r⟩ := RepT.obj p1 R1.ok.zsub
        obtain ⟨w, hw, rw'⟩ := r.lookup q
        exact ⟨a, cl k, dx, vs, w, rfl, ha, hc, hn, hw, h1 _ G1 H1 R1 (Stp.refl _ _) rw'⟩
    · exact h1.elim
  | rf n =>
    simp only at h1
    cases q0 : S1[n]? with
    | none => simp only [q0, Aft] at h1
    | some cell =>
      simp only [q0] at h1
      split at h1
      · rename_i hf
        obtain ⟨hc, hn⟩ := hi cell.c f hf
        cases q : cell.fs.lookup f with
        | none => simp only [q, Aft] at h1
        | some s =>
          cases s with
          | fr y =>
            simp only [q] at h1
            obtain ⟨a, rfl, ha⟩ := RepT.rfn p1
            obtain ⟨a', dx, vs, e1, l1, l2, h3, h4, h5, h6⟩ := (R1.ok.st n cell q0).ok
            rw [ha] at e1
            cases e1
            obtain ⟨k, w, g1, g2, g3⟩ := lookup_at h5 q
            exact ⟨a, _, dx, vs, w, rfl, h3, hc, hn, g3, h1 _ G1 H1 R1 (Stp.refl _ _) (h6 k f _ w g1 g2)⟩
          | _ => simp only [q, Aft] at h1
      · exact h1.elim
  | _ => simp only [Aft] at h1
/-- self.f = e in __init__ -/
def sFldMe (fl : FTab) (i : Nat) (f : Str) (c : Ex) : Stm := sEx c fun d ρ S => match ρ[i]? with
  | some (.me (.obj k fs)) => if fl k f = true ∧ fs.length < 1000 then .nx (ρ.set i (.me (.obj k (pD f d fs)))) S else .stuck
  | _ => .stuck
/-- x.f = e, x owns the instance -/
def sFldOw (fl : FTab) (i : Nat) (f : Str) (c : Ex) : Stm := sEx c fun d ρ S => match ρ[i]? with
  | some (.ow (.obj k fs)) => if fl k f = true ∧ fs.length < 1000 then .nx (ρ.set i (.ow (.obj k (pD f d fs)))) S else .stuck
  | _ => .stuck
theorem ss_fldMe {i : Nat} {x : Str} {p pos' : Pos} (hi : CInfo X.K cl fl) (hv : PE X (.Name x p) (tVar i)) (he : SE X cl W e c) (hs : swapsWith e (some (.Attribute (.Name x p) f pos')) pos.line X.env = pure false := by rfl) : SS X cl W (.Assign [.Attribute (.Name x p) f pos'] e pos) (sFldMe fl i f c) := PS.weak (ps_fld hv he hs) fun D σ H h =>
  sEx_sem (P := PF X.K cl) h fun G0 H0 S' ρ G d v G' H' R' s0 s p q => by
    cases qi : ρ[i]? with
    | none => simp only [qi, AftS] at q
    | some sl =>
      cases sl with
      | me d0 =>
        cases d0 with
        | obj k fs =>
          simp only [qi] at q
          split at q
          · rename_i hf
            obtain ⟨hc, hn⟩ := hi k f hf.1
            obtain ⟨o, ho, w, rfl, ⟨a, as, rfl, cc, hl⟩, hm⟩ := R'.slot i _ qi
            cases cc with
            | obj h1 h2 r =>
              rename_i dx vs
              have ne : dx ≠ a := fun z => by subst z; rw [h1] at h2; cases h2
              exact ⟨_, ho, a, cl k, dx, vs, rfl, h1, hc, hn, by rw [r.length]; exact hf.2, q G' σ _ (R'.writeMe qi ho hl (by simp) (.obj upd_same (by rw [upd_ne ne]; exact h2) (RepF.put p r))) (Zle.refl _)⟩
          · exact q.elim
        | _ => simp only [qi, AftS] at q
      | _ => simp only [qi, AftS] at q
theorem ss_fldOw {i : Nat} {x : Str} {p pos' : Pos} (hi : CInfo X.K cl fl) (hv : PE X (.Name x p) (tVar i)) (he : SE X cl W e c) (hs : swapsWith e (some (.Attribute (.Name x p) f pos')) pos.line X.env = pure false := by rfl) : SS X cl W (.Assign [.Attribute (.Name x p) f pos'] e pos) (sFldOw fl i f c) := PS.weak (ps_fld hv he hs) fun D σ H h =>
  sEx_sem (P := PF X.K cl) h fun G0 H0 S' ρ G d v G' H' R' s0 s p q => by
    cases qi : ρ[i]? with
    | none => simp only [qi, AftS] at q
    | some sl =>
      cases sl with
      | ow d0 =>
        cases d0 with
        | obj k fs =>
          simp only [qi] at q
          split at q
          · rename_i hf
            obtain ⟨hc, hn⟩ := hi k f hf.1
            obtain ⟨o, ho, w, rfl, ⟨a, as, rfl, cc, hl⟩⟩ := R'.slot i _ qi
            cases cc with
            | obj h1 h2 r =>
              rename_i dx vs
              have ne : dx ≠ a := fun z => by subst z; rw [h1] at h2; cases h2
              exact ⟨_, ho, a, cl k, dx, vs, rfl, h1, hc, hn, by rw [r.length]; exact hf.2, q G' σ _ (R'.write ho hl (by simp) (.obj upd_same (by rw [upd_ne ne]; exact h2) (RepF.put p r))) (Zle.refl _)⟩
          · exact q.elim
        | _ => simp only [qi, AftS] at q
      | _ => simp only [qi, AftS] at q
end

/-! ### __init__ -/
abbrev Ini := Nat → List D → Store → Res D
section
variable (K : PySem.W.Frag) (cl : ClsP)
def IniEnd (G : Gh) (H : Hp) (x : Addr) (r : Res D) (Q : VK) (E : XK) : Prop :=
  match r with
  | .ok d S' => ∀ as G' H', GOk K cl S' G' H' → StOnly G' → Stp G H G' H' → NewAt K cl G' H' x d as → (∀ b ∈ as, H b = none) → Q .non H'
  | .exc n S' => ∀ G' H', GOk K cl S' G' H' → StOnly G' → Stp G H G' H' → E (.ref (cl n)) none H'
  | .stuck => False
def spIni (c : Nat) (bm : List Bool) (m : Ini) : Sp := fun vs H Q E => ∃ (G : Gh) (S : Store) (ds : List D) (x dx : Addr) (vs' : List V) (H1 : Hp), vs = .ref x :: vs' ∧ H = upd (upd H1 dx (.own x)) x (.ins (cl c) dx []) ∧ H1 x = none ∧ H1 dx = none ∧ dx ≠ x ∧
  GOk K cl S G H1 ∧ StOnly G ∧ ArgsOk K cl G H1 bm vs' ds ∧ IniEnd K cl G H1 x (m c ds S) Q E
end
def mkIni (bm : List Bool) (k : Nat) (body : Stm) : Ini := fun c ds S => match body (.me (.obj c []) :: startE bm ds k) S with
  | .nx ρ S' => (match (ρ[0]? : Option Slot) with
    | some (Slot.me d) => .ok d S'
    | _ => .stuck)
  | .exc n _ S' => .exc n S'
  | _ => .stuck
section
variable {K : PySem.W.Frag} {cl : ClsP} {G : Gh} {H : Hp} {S : Store}
theorem parE_slots {bm : List Bool} {vs : List V} {ds : List D} {x : Addr} {c dxa : Addr} {H' : Hp} (p : ArgsOk K cl G H bm vs ds) (so : StOnly G) (as : List Addr) (l : Lab) (mv : Option V) : ∀ (j i : Nat) (s : Slot), (parE bm ds)[i]? = some s → ∃ o, (vs.map some)[i]? = some o ∧ SlotOk K cl { G with me := mv } H (({ G with me := mv } : Gh).own as l) H' (.slot j) s o := by
  induction p with
  | nil => intro j i s h; simp [parE] at h
  | @fr bm v vs d ds r t ih =>
    intro j i s h
    cases i with
    | zero =>
      simp only [parE, List.getElem?_cons_zero, Option.some.injEq] at h
      subst h
      exact ⟨_, rfl, _, rfl, r⟩
    | succ i =>
      simp only [parE, List.getElem?_cons_succ] at h
      obtain ⟨o, h1, h2⟩ := ih j i s h
      exact ⟨o, by simpa using h1, h2⟩
  | @bo bm v vs d ds r t ih =>
    intro j i s h
    cases i with
    | zero =>
      simp only [parE, List.getElem?_cons_zero, Option.some.injEq] at h
      subst h
      refine ⟨_, rfl, _, rfl, ?_⟩
      rcases r with r | ⟨a, as', e, cc, q⟩
      · exact .inl r
      · refine .inr ⟨a, as', e, cc, fun b hb => ?_⟩
        show G.lab b = none
        cases e2 : G.lab b with
        | none => rfl
        | some l =>
          have h1 := q b hb l e2
          rw [so b l e2] at h1
          cases h1
    | succ i =>
      simp only [parE, List.getElem?_cons_succ] at h
      obtain ⟨o, h1, h2⟩ := ih j i s h
      exact ⟨o, by simpa using h1, h2⟩
theorem Stp.me {G' : Gh} {H' : Hp} {mv : Option V} (s : Stp { G with me := mv } H G' H') : Stp G H G' H' := ⟨s.z, s.lab, s.keep, s.labn, s.zn, s.mu, s.dom⟩
theorem Rel.startMe {bm : List Bool} {vs : List V} {ds : List D} {k n c : Nat} {x dx : Addr} (ok : GOk K cl S G H) (so : StOnly G) (p : ArgsOk K cl G H bm vs ds) (hn : n = k) (hx : H x = none) (hdx : H dx = none) (ne : dx ≠ x) :
    Rel K cl { G with me := some (.ref x) } H S (.me (.obj c []) :: startE bm ds k) (({ G with me := some (.ref x) } : Gh).own [x, dx] (.slot 0)) ((V.ref x :: vs).map some ++ List.replicate n none) (upd (upd H dx (.own x)) x (.ins (cl c) dx [])) := by
  have sm : Same H (upd (upd H dx (.own x)) x (.ins (cl c) dx [])) := fun b o e => by
    rw [upd_ne (ne_of_none e hx), upd_ne (ne_of_none e hdx)]; exact e
  have hd : upd (upd H dx (.own x)) x (.ins (cl c) dx []) dx = some (.own x) := by rw [upd_ne ne, upd_same]
  have lab : ∀ b l, G.lab b = some l → (({ G with me := some (.ref x) } : Gh).own [x, dx] (.slot 0)).lab b = some l := fun b l e => by
    rw [own_out]
    · exact e
    · intro hb
      obtain ⟨_, o, h⟩ := ok.labz b l e
      simp at hb
      rcases hb with rfl | rfl
      · rw [hx] at h; cases h
      · rw [hdx] at h; cases h
  have labn : ∀ b l, (({ G with me := some (.ref x) } : Gh).own [x, dx] (.slot 0)).lab b = some l → G.lab b = some l ∨ (b = x ∨ b = dx) := fun b l e => by
    by_cases hb : b ∈ [x, dx]
    · exact .inr (by simpa using hb)
    · rw [own_out hb] at e; exact .inl e
  refine ⟨⟨ok.zsub.trans sm, fun b l e => ?_, fun m cc e => (ok.st m cc e).mono (fun b _ _ _ o e => sm b o e) (Same.refl _) (fun b l e _ => lab b l e) ⟨[], by simp [Gh.own]⟩, ok.stn⟩, ?_, fun i s h => ?_, ⟨Same.refl _, lab, fun b o e _ => sm b o e, fun b l e => ?_, fun b o e => .inl e, ⟨[], by simp [Gh.own]⟩, fun b e => sm.free e⟩, so⟩
  · rcases labn b l e with h | h | h
    · obtain ⟨h1, o, h2⟩ := ok.labz b l h
      exact ⟨h1, o, sm b o h2⟩
    · subst h; exact ⟨ok.zsub.free hx, _, upd_same⟩
    · subst h; exact ⟨ok.zsub.free hdx, _, hd⟩
  · have := parE_len p
    unfold startE
    simp only [List.length_cons, List.length_append, List.length_map, List.length_replicate, this, hn]
    omega
  · cases i with
    | zero =>
      simp only [List.getElem?_cons_zero, Option.some.injEq] at h
      subst h
      refine ⟨some (.ref x), rfl, _, rfl, ⟨x, [x, dx], rfl, .obj upd_same hd .nil, fun b hb => own_in hb⟩, rfl⟩
    | succ i =>
      simp only [List.getElem?_cons_succ] at h
      unfold startE at h
      by_cases hi : i < (parE bm ds).length
      · rw [List.getElem?_append_left hi] at h
        obtain ⟨o, h1, h2⟩ := parE_slots (x := x) (c := x) (dxa := x) (H' := upd (upd H dx (.own x)) x (.ins (cl c) dx [])) p so [x, dx] (.slot 0) (some (.ref x)) (i + 1) i s h
        refine ⟨o, ?_, h2⟩
        simp only [List.map_cons, List.cons_append, List.getElem?_cons_succ]
        rw [List.getElem?_append_left (by rw [List.length_map, ← parE_len p]; exact hi)]
        exact h1
      · rw [List.getElem?_append_right (by omega), List.getElem?_replicate] at h
        split at h
        · cases h
          rename_i h2
          refine ⟨none, ?_, trivial⟩
          simp only [List.map_cons, List.cons_append, List.getElem?_cons_succ]
          rw [List.getElem?_append_right (by rw [List.length_map, ← parE_len p]; omega), List.getElem?_replicate, if_pos (by rw [List.length_map, ← parE_len p, hn]; exact h2)]
        · cases h
  · rcases labn b l e with h | h | h
    · exact .inl h
    · subst h; exact .inr hx
    · subst h; exact .inr hdx
end
section
variable {P : Program} {w : World} {K : PySem.W.Frag} {mg : Str → Option Value} {base : Heap} {cl : ClsP}
theorem ini_ok {x qual : Str} {st : Stmt} {f : Addr} {fd : FuncData} {N : List Str} {p0 : Str} {ps : List Str} {lv k c : Nat} {bm : List Bool} {body : Stm} (F : Fun K x qual st f fd) (Sc : FnScope N (p0 :: ps) (defScope st)) (hbm : bm.length = ps.length) (hk : N.length = 1 + ps.length + k)
    (hbody : ∀ (cdv : Value) (A : Around) (outer : List PySem.Env) (s : Shared) (H : Hp) (E : XK), Room lv (A.deeper (envOfC qual (defScope st) s.heap.objs.size f cdv)) →
      Takes (cxOf (L2.CX P w) P w K mg base N qual (defScope st) f cdv A outer s H E) (fun c d _ H => E c d H) →
      SSs (cxOf (L2.CX P w) P w K mg base N qual (defScope st) f cdv A outer s H E) cl (fun c d _ H => E c d H) (defBody st) body) : FnOk P w K mg base (L2.CX P w) (lv + 1) f fd (p0 :: ps) (spIni K cl c bm (mkIni bm k body)) := by
  refine F.okX Sc (fun vs H Q E ⟨G, S, ds, x, dx, vs', H1, e, _, _, _, _, _, _, p, _⟩ => by rw [e, List.length_cons, p.len.1, hbm, List.length_cons]) (fun cdv A outer s H vs Q E hr ⟨G, S, ds, x, dx, vs', H1, e, eH, hx, hdx, ne, ok, so, p, q⟩ => ?_)
  subst e eH
  refine ⟨_, hbody cdv A outer s _ E hr (takes_of rfl rfl rfl rfl), _, H1, S, .me (.obj c []) :: startE bm ds k, _, Rel.startMe ok so p (by rw [List.length_cons, p.len.1, hbm, hk]; omega) hx hdx ne, ?_⟩
  unfold mkIni at q
  cases r : body (.me (.obj c []) :: startE bm ds k) S with
  | nx ρ' S' =>
    rw [r] at q
    intro G' σ' H' R' z
    simp only at q
    cases q0 : ρ'[0]? with
    | none => simp only [q0, IniEnd] at q
    | some sl =>
      cases sl with
      | me d =>
        simp only [q0] at q
        obtain ⟨o, ho, v, rfl, ⟨a, as, rfl, cc, hl⟩, hm⟩ := R'.slot 0 _ q0
        have ea : a = x := by
          have : some (V.ref x) = some (V.ref a) := hm
          cases this
          rfl
        subst ea
        refine q as _ H' R'.leave.1 out_only (Stp.me R'.leave.2) ⟨cc, fun b hb => ⟨?_, (R'.ok.labz b _ (hl b hb)).1⟩⟩ fun b hb => R'.ownNew (hl b hb)
        cases e : G'.out.lab b with
        | none => rfl
        | some l =>
          have := out_some.mp e
          rw [hl b hb] at this
          obtain ⟨h1, h2⟩ := this
          cases h1
          simp [Lab.st] at h2
      | _ => simp only [q0, IniEnd] at q
  | rt v S' => rw [r] at q; exact q.elim
  | exc n ρ' S' => rw [r] at q; exact fun G' σ' H' R' z => q _ H' R'.leave.1 out_only (Stp.me R'.leave.2)
  | bk ρ' S' => rw [r] at q; exact q.elim
  | ct ρ' S' => rw [r] at q; exact q.elim
  | stuck => rw [r] at q; exact q.elim
end
/-! ### C(..) -/
section
variable {X : Cx} {cl : ClsP} {W : WX} {e : Expr} {es : List Expr} {pos : Pos} {k : Nat} {f C : Addr} {fd : FuncData} {ps : List Str} {bm : List Bool} {x : Str} {p : Pos} {ax : Ax} {sp : Sp} {t : TA}
def tMakeS (C : Addr) (sp : Sp) (W : WX) (t : TA) : TE := fun σ H Q => t σ H fun vs H1 => ∀ x dx, H1 x = none → H1 dx = none → dx ≠ x → sp (.ref x :: vs) (upd (upd H1 dx (.own x)) x (.ins C dx [])) (fun v H2 => v = .non ∧ Q (.ref x) H2) (WE W σ)
theorem run_makeS {pins : List (Addr × Obj)} {σ : L2.St} {H : Hp} {s : Shared} {Q : VK} {us : List Value} {vs : List V} (M : Mk X.K C f) (F : FnOk X.prog X.w X.K X.mg X.base (L2.CX X.prog X.w) k f fd ps sp) (hr : Room (k + 1) X.A) (hb : Binds X.K fd ps [])
    (tk : Takes X W) (I : Inv X pins σ H s) (r : Vals vs us)
    (h : ∀ x dx, H x = none → H dx = none → dx ≠ x → sp (.ref x :: vs) (upd (upd H dx (.own x)) x (.ins C dx [])) (fun v H2 => v = .non ∧ Q (.ref x) H2) (WE W σ)) :
    wpAny (model X.prog X.w) X.A (call (.ref C) us) (EP X pins σ Q) X.xe s := by
  have hq := h (s.heap.objs.size + 1) s.heap.objs.size (I.hok.fresh (Nat.le_succ _)) (I.hok.fresh (Nat.le_refl _)) (Nat.ne_of_lt (Nat.lt_succ_self _))
  have I2 := Inv.made (C := C) I
  have r2 : Vals (V.ref (s.heap.objs.size + 1) :: vs) (Value.ref (s.heap.objs.size + 1) :: us) := .cons rfl r
  have hl : (Value.ref (s.heap.objs.size + 1) :: us).length = ps.length := by
    have e := r2.length
    rw [F.len _ _ _ _ hq] at e
    exact e.symm
  have hl2 : ((Value.ref (s.heap.objs.size + 1) :: us) ++ []).length = ps.length := by rw [List.append_nil]; exact hl
  have hb2 := hb _ (Value.ref (s.heap.objs.size + 1) :: us) I2.kIn hl2
  rw [List.append_nil] at hb2
  refine wpAny_call (make_map (f := f) I.kIn M.makes M.init (beq_iff_eq.mp M.fn) (codeAny_mono (F.run _ X.stack _ _ ⟨Value.ref (s.heap.objs.size + 1) :: us, []⟩ (Value.ref (s.heap.objs.size + 1) :: us) _ _ (WE W σ) (hr.make C us [])
    (I2.env0.make C us []) hb2 r2 hq) fun r s' hq' => ?_))
  cases r with
  | error e => exact passAt tk σ pins _ _ e s' I2 hq'
  | ok fl =>
    cases fl with
    | ret u =>
      obtain ⟨v, H', I3, rv, ev, q3⟩ := I2.after hq'
      subst ev
      exact ⟨rv, ⟨V.ref (s.heap.objs.size + 1), H', I3, rfl, q3⟩⟩
    | next => exact False.elim hq'
    | brk => exact False.elim hq'
    | cont => exact False.elim hq'
theorem pe_makeS (M : Mk X.K C f) (F : FnOk X.prog X.w X.K X.mg X.base (L2.CX X.prog X.w) k f fd ps sp) (hr : Room (k + 1) X.A) (hg : Gl X x) (hm : X.mg x = some (.ref C)) (hb : Binds X.K fd ps []) (tk : Takes X W)
    (ha : PA X (e :: es) t) (hdb : (x == ("__debug__" : Str)) = false := by decide) (he : starEach (e :: es) X.env = (false, eval e X.env) :: starEach es X.env := by rfl) (hpl : (backTo pos (starEach es X.env)).any (·.1) = false := by rfl) :
    PE X (.Call (.Name x p) (e :: es) [] pos) (tMakeS C sp W t) := by
  refine ⟨fun pins s σ H Q I h => ?_⟩
  refine wpAny_Call_Name_kw (ld_glob I hg hm ?_ hdb)
  refine PySem.W.callWith_K (h₀ := X.base) I.ok.mod.kin M.kp (thn (ha.run pos pins s σ H _ I h) fun us s1 ⟨vs, H1, I1, r, q⟩ => ⟨I1.kIn, ?_⟩) he hpl
  exact run_makeS M F hr hb tk I1 r q
theorem pe_makeS0 (M : Mk X.K C f) (F : FnOk X.prog X.w X.K X.mg X.base (L2.CX X.prog X.w) k f fd ps sp) (hr : Room (k + 1) X.A) (hg : Gl X x) (hm : X.mg x = some (.ref C)) (hb : Binds X.K fd ps []) (tk : Takes X W)
    (hdb : (x == ("__debug__" : Str)) = false := by decide) : PE X (.Call (.Name x p) [] [] pos) (tMakeS C sp W tNil) := by
  refine ⟨fun pins s σ H Q I h => ?_⟩
  refine wpAny_Call_Name_kw (ld_glob I hg hm ?_ hdb)
  exact PySem.W.callWith_K0 I.kIn M.kp (run_makeS (us := []) M F hr hb tk I .nil h)
def eMake (m : List D → Store → Res D) (ca : Ax) : Ex := fun ρ S => (ca ρ S).bind fun ds S => m ds S
theorem make_sem {G0 : Gh} {H0 : Hp} {S : Store} {ρ : Env} {G : Gh} {σ : L2.St} {H : Hp} {y : Addr} {r : Res D} {Q : VK} (R : Rel X.K cl G0 H0 S ρ G σ H) (h : Aft X.K cl (PN X.K cl) W G0 H0 ρ σ G H r Q) : IniEnd X.K cl G.out H y r (fun v H2 => v = .non ∧ Q (.ref y) H2) (WE W σ) := by
  cases r with
  | ok d S' =>
    intro as G' H' ok so st n hn
    obtain ⟨R', s'⟩ := R.join ok so st
    exact ⟨rfl, h _ _ H' R' s' ⟨y, as, rfl, new_join R n hn, hn⟩⟩
  | exc n S' =>
    intro G' H' ok so st
    obtain ⟨R', s'⟩ := R.join ok so st
    exact h _ H' R' s'
  | stuck => exact h
theorem sn_make {c : Nat} {m : Ini} (M : Mk X.K (cl c) f) (F : FnOk X.prog X.w X.K X.mg X.base (L2.CX X.prog X.w) k f fd ps (spIni X.K cl c bm m)) (hr : Room (k + 1) X.A) (hg : Gl X x) (hm : X.mg x = some (.ref (cl c))) (hb : Binds X.K fd ps []) (tk : Takes X W) (ha : SA X cl W bm (e :: es) ax)
    (hdb : (x == ("__debug__" : Str)) = false := by decide) (he : starEach (e :: es) X.env = (false, eval e X.env) :: starEach es X.env := by rfl) (hpl : (backTo pos (starEach es X.env)).any (·.1) = false := by rfl) : SN X cl W (.Call (.Name x p) (e :: es) [] pos) (eMake (m c) ax) :=
  PE.weak (pe_makeS M F hr hg hm hb tk ha hdb he hpl) fun σ H Q ⟨G0, H0, S, ρ, G, R, h⟩ => by
    refine tX.bind (Pa := PA1 X.K cl bm) pnM R h fun ds vs S1 G1 H1 R1 s1 p1 h1 => ?_
    intro y dx hy hdx ne
    exact ⟨G1.out, S1, ds, y, dx, vs, H1, rfl, rfl, hy, hdx, ne, R1.leave.1, out_only, ArgsOk.out p1, make_sem R1 h1⟩
theorem sn_make0 {c : Nat} {m : Ini} (M : Mk X.K (cl c) f) (F : FnOk X.prog X.w X.K X.mg X.base (L2.CX X.prog X.w) k f fd ps (spIni X.K cl c [] m)) (hr : Room (k + 1) X.A) (hg : Gl X x) (hm : X.mg x = some (.ref (cl c))) (hb : Binds X.K fd ps []) (tk : Takes X W)
    (hdb : (x == ("__debug__" : Str)) = false := by decide) : SN X cl W (.Call (.Name x p) [] [] pos) (eMake (m c) aNil) :=
  PE.weak (pe_makeS0 M F hr hg hm hb tk hdb) fun σ H Q ⟨G0, H0, S, ρ, G, R, h⟩ => by
    intro y dx hy hdx ne
    exact ⟨G.out, S, [], y, dx, [], H, rfl, rfl, hy, hdx, ne, R.leave.1, out_only, .nil, make_sem R h⟩

/-! ### isinstance of an own class -/
structure ObCls (K : PySem.W.Frag) (C : Addr) : Prop where
  cls : Cls K C
  ha : PySem.W.findIn K (.ref C) "__class__" = some (some (.builtin "object.__class__"))
  hn : PySem.W.specialIn K (.builtin "object.__class__") "__get__" = some (some (.builtin "getset_descriptor.__get__"))
  ht : PySem.W.takesIn K (.builtin "object.__class__") = some true
  hm : PySem.W.mroIn K C (.type "object") = some true
abbrev STab := Nat → Nat → Option Bool
def SubOk (K : PySem.W.Frag) (cl : ClsP) (sub : STab) : Prop := ∀ c t b, sub c t = some b → ObCls K (cl c) ∧ PySem.W.kitOne K (.ref (cl c)) (.ref (cl t)) = some b
def eIsO (sub : STab) (t : Nat) (ca : Ex) : Ex := fun ρ S => (ca ρ S).bind fun d S => match d with
  | .obj c _ => Res.opt ((sub c t).map .bl) S
  | .rf n => (match S[n]? with
    | some cell => Res.opt ((sub cell.c t).map .bl) S
    | none => .stuck)
  | _ => .stuck
theorem se_isO {x y : Str} {p p2 : Pos} {a : Expr} {ca : Ex} {sub : STab} {t : Nat} (hsub : SubOk X.K cl sub) (hg : Gl X x) (hm : X.mg x = none) (hv : bootBuiltins x = some (.builtin "isinstance")) (ha : SB X cl W a ca)
    (hg2 : Gl X y) (hm2 : X.mg y = some (.ref (cl t))) (hd2 : (y == ("__debug__" : Str)) = false := by decide) (hn : x ≠ "__name__" := by decide) (hdb : (x == ("__debug__" : Str)) = false := by decide)
    (he : starEach [a, .Name y p2] X.env = (false, eval a X.env) :: starEach [.Name y p2] X.env := by rfl) (he2 : starEach [.Name y p2] X.env = (false, eval (.Name y p2) X.env) :: starEach [] X.env := by rfl) (hpl : (backTo pos (starEach [.Name y p2] X.env)).any (·.1) = false := by rfl) : SE X cl W (.Call (.Name x p) [a, .Name y p2] [] pos) (eIsO sub t ca) :=
  PE.weak (pe_callB call_isi hg hm hv (pa_cons ha (pa_cons (pe_glob hg2 hm2 (v := .ref (cl t)) rfl hd2) pa_nil he2) he) hn hdb he hpl) fun σ H Q ⟨G0, H0, S, ρ, G, R, h⟩ => by
    refine tX.bind (Pa := PB X.K cl) pfM R h fun d x S1 G1 H1 R1 s1 p1 h1 => ?_
    have go : ∀ (c : Nat) (k : Bool) (a dx : Addr) (fs : List (Str × V)), sub c t = some k → x = .ref a → H1 a = some (.ins (cl c) dx fs) → Q (.bl k) H1 → rIsi X.K [x, .ref (cl t)] H1 Q := fun c k a dx fs hs hx ha hq => by
      obtain ⟨C, hk⟩ := hsub c t k hs
      subst hx
      exact ⟨_, _, _, _, k, rfl, .own _, .base (.ins ha C.cls C.ha C.hn C.ht C.hm), hk, hq⟩
    cases d with
    | obj c fs =>
      simp only at h1
      cases q : sub c t with
      | none => rw [q] at h1; exact h1.elim
      | some k =>
        rw [q] at h1
        obtain ⟨a, dx, vs, rfl, ha, r⟩ := RepT.obj p1 R1.ok.zsub
        exact go c k a dx vs q rfl ha (h1 _ G1 H1 R1 (Stp.refl _ _) (.bl _))
    | rf n =>
      simp only at h1
      cases q0 : S1[n]? with
      | none => simp only [q0, Aft] at h1
      | some cell =>
        simp only [q0] at h1
        cases q : sub cell.c t with
        | none => rw [q] at h1; exact h1.elim
        | some k =>
          rw [q] at h1
          obtain ⟨a, rfl, ha⟩ := RepT.rfn p1
          obtain ⟨a', dx, vs, e1, l1, l2, h3, h4, h5, h6⟩ := (R1.ok.st n cell q0).ok
          rw [ha] at e1
          cases e1
          exact go cell.c k a dx vs q rfl h3 (h1 _ G1 H1 R1 (Stp.refl _ _) (.bl _))
    | _ => simp only [Aft] at h1

/-! ### raise -/
def sRaise (n : Nat) : Stm := fun ρ S => .exc n ρ S
structure ExCls (K : PySem.W.Frag) (C : Addr) : Prop where
  xi : PySem.W.excIn K C [.type "ValueError", .type "Exception", .type "BaseException", .type "object"] "ValueError.__new__" = true
  kp : PySem.W.keepIn K (.ref C) = true
  sb : PySem.W.subIn K (.ref C) (.type "BaseException") = some true
  ty : PySem.W.typeIn K (.ref C) = some (.type "type")
theorem ss_raise {n : Nat} {x m : Str} {j : Nat} {p p2 pos2 : Pos} (hc : X.calm = true) (tk : Takes X W) (ex : ExCls X.K (cl n)) (gC : X.mg x = some (.ref (cl n))) (hg : Gl X x) (hdb : (x == ("__debug__" : Str)) = false := by decide) : SS X cl W (.Raise (some (.Call (.Name x p) [.Constant (.str m) j p2] [] pos)) none pos2) (sRaise n) :=
  PS.weak (ps_raise hc tk (pmk_own PySem.F.excBase_ValueError ex.xi gC ex.kp (raises_own ex.sb ex.ty) hg hdb)) fun D σ H ⟨G0, H0, S, ρ, G, R, h⟩ => h G σ H R (Zle.refl _)
end
/-- where the classes stand -/
def clOf (K : PySem.W.Frag) (names : List Str) (n : Nat) : Addr := match names[n]? with
  | some x => (match PySem.W.nsIn K mainGlobals x with
    | some (some (.ref a)) => a
    | _ => 0)
  | none => 0
theorem clOf_eq {K : PySem.W.Frag} {names : List Str} {n : Nat} {x : Str} {a : Addr} (h1 : names[n]? = some x) (h2 : PySem.W.nsIn K mainGlobals x = some (some (.ref a))) : clOf K names n = a := by
  unfold clOf; rw [h1]; simp only [h2]
end PM
set_option maxHeartbeats 1000000
/-! PM12: more built-in functions, ranges with a step, chains as tests, dicts read, unpacking. -/
namespace PM
open PySem PySem.Spec PyProof.Rows L2
section
variable {X : Cx} {cl : ClsP} {W : WX} {e tg a b c : Expr} {ca cb cc : Ex} {pos : Pos}

/-! ### min, max of two; sum, any, all of a list -/
def fMin2 : List D → Option D
  | [.int i, .int j] => some (.int (if j < i then j else i))
  | _ => none
def fMax2 : List D → Option D
  | [.int i, .int j] => some (.int (if j > i then j else i))
  | _ => none
theorem cs_min2 : CallS X cl [true, true] (fun xs H Q => ∃ i j, xs = [.int i, .int j] ∧ Q (.int (if j < i then j else i)) H) fMin2 (PF X.K cl) := fun {G0 H0 S ρ G σ H vs ds z Q} R p q k => by
  unfold fMin2 at q
  split at q
  · cases q
    obtain ⟨v, v', rfl, h, h'⟩ := p.two
    exact ⟨_, _, by rw [h.int, h'.int], k _ G H R (Stp.refl _ _) (.int _)⟩
  · cases q
theorem cs_max2 : CallS X cl [true, true] (fun xs H Q => ∃ i j, xs = [.int i, .int j] ∧ Q (.int (if j > i then j else i)) H) fMax2 (PF X.K cl) := fun {G0 H0 S ρ G σ H vs ds z Q} R p q k => by
  unfold fMax2 at q
  split at q
  · cases q
    obtain ⟨v, v', rfl, h, h'⟩ := p.two
    exact ⟨_, _, by rw [h.int, h'.int], k _ G H R (Stp.refl _ _) (.int _)⟩
  · cases q
def D.ints : List D → Option (List Int)
  | [] => some []
  | .int i :: r => (D.ints r).map (i :: ·)
  | _ :: _ => none
def D.bls : List D → Option (List Bool)
  | [] => some []
  | .bl i :: r => (D.bls r).map (i :: ·)
  | _ :: _ => none
def D.strs : List D → Option (List Str)
  | [] => some []
  | .str i :: r => (D.strs r).map (i :: ·)
  | _ :: _ => none
section
variable {K : PySem.W.Frag} {mu : List Addr} {Z : Hp}
theorem RepAll.toInts : ∀ {vs : List V} {ds : List D} {ns : List Int}, RepAll K cl mu Z vs ds → D.ints ds = some ns → vs = ns.map V.int
  | _, _, _, .nil, e => by simp only [D.ints] at e; cases e; rfl
  | _, _, ns, @RepAll.cons _ _ _ _ v vs d ds r t, e => by
    cases d <;> simp only [D.ints, reduceCtorEq] at e
    cases q : D.ints ds with
    | none => rw [q] at e; cases e
    | some ms =>
      rw [q] at e
      cases e
      cases r
      rw [RepAll.toInts t q]
      rfl
theorem RepAll.toBls : ∀ {vs : List V} {ds : List D} {ns : List Bool}, RepAll K cl mu Z vs ds → D.bls ds = some ns → vs = ns.map V.bl
  | _, _, _, .nil, e => by simp only [D.bls] at e; cases e; rfl
  | _, _, ns, @RepAll.cons _ _ _ _ v vs d ds r t, e => by
    cases d <;> simp only [D.bls, reduceCtorEq] at e
    cases q : D.bls ds with
    | none => rw [q] at e; cases e
    | some ms =>
      rw [q] at e
      cases e
      cases r
      rw [RepAll.toBls t q]
      rfl
theorem RepAll.toStrs : ∀ {vs : List V} {ds : List D} {ns : List Str}, RepAll K cl mu Z vs ds → D.strs ds = some ns → vs = ns.map V.str
  | _, _, _, .nil, e => by simp only [D.strs] at e; cases e; rfl
  | _, _, ns, @RepAll.cons _ _ _ _ v vs d ds r t, e => by
    cases d <;> simp only [D.strs, reduceCtorEq] at e
    cases q : D.strs ds with
    | none => rw [q] at e; cases e
    | some ms =>
      rw [q] at e
      cases e
      cases r
      rw [RepAll.toStrs t q]
      rfl
end
def fSum : List D → Option D
  | [.lst xs] => (D.ints xs).map fun ns => .int ns.sum
  | _ => none
def fAny : List D → Option D
  | [.lst xs] => (D.bls xs).map fun ns => .bl (ns.any id)
  | _ => none
def fAll : List D → Option D
  | [.lst xs] => (D.bls xs).map fun ns => .bl (ns.all id)
  | _ => none
theorem cs_sum : CallS X cl [true] (rSum X.K) fSum (PF X.K cl) := fun {G0 H0 S ρ G σ H vs ds z Q} R p q k => by
  unfold fSum at q
  split at q
  · rename_i xs
    cases q1 : D.ints xs with
    | none => rw [q1] at q; cases q
    | some ns =>
      rw [q1] at q
      cases q
      obtain ⟨v, rfl, h⟩ := p.one
      obtain ⟨a1, vs, rfl, h1, r1⟩ := h.lst R.ok.zsub
      exact ⟨a1, ns, rfl, .inl (.inl (by rw [← r1.toInts q1]; exact h1)), k _ G H R (Stp.refl _ _) (.int _)⟩
  · cases q
theorem cs_any : CallS X cl [true] (rAny X.K) fAny (PF X.K cl) := fun {G0 H0 S ρ G σ H vs ds z Q} R p q k => by
  unfold fAny at q
  split at q
  · rename_i xs
    cases q1 : D.bls xs with
    | none => rw [q1] at q; cases q
    | some ns =>
      rw [q1] at q
      cases q
      obtain ⟨v, rfl, h⟩ := p.one
      obtain ⟨a1, vs, rfl, h1, r1⟩ := h.lst R.ok.zsub
      exact ⟨a1, ns, rfl, .inl (.inl (by rw [← r1.toBls q1]; exact h1)), k _ G H R (Stp.refl _ _) (.bl _)⟩
  · cases q
theorem cs_all : CallS X cl [true] (rAll X.K) fAll (PF X.K cl) := fun {G0 H0 S ρ G σ H vs ds z Q} R p q k => by
  unfold fAll at q
  split at q
  · rename_i xs
    cases q1 : D.bls xs with
    | none => rw [q1] at q; cases q
    | some ns =>
      rw [q1] at q
      cases q
      obtain ⟨v, rfl, h⟩ := p.one
      obtain ⟨a1, vs, rfl, h1, r1⟩ := h.lst R.ok.zsub
      exact ⟨a1, ns, rfl, .inl (.inl (by rw [← r1.toBls q1]; exact h1)), k _ G H R (Stp.refl _ _) (.bl _)⟩
  · cases q

/-! ### ranges -/
def rngC (lo c : Int) (n : Nat) : List D := (List.range n).map fun (k : Nat) => .int (lo + (k : Int) * c)
theorem iter_rngC {K : PySem.W.Frag} {G0 G : Gh} {H0 : Hp} {lo c : Int} {n : Nat} : IterOk K cl (Itc lo c n) (rngC lo c n) G0 H0 G where
  go := fun S ρ G' σ H i d R z e => by
    unfold rngC at e
    rw [List.getElem?_map] at e
    by_cases hi : i < n
    · rw [List.getElem?_range hi] at e
      cases e
      refine ⟨hi, fun x H2 y => ⟨y.1, ?_⟩⟩
      rw [y.2]
      exact .int _
    · rw [List.getElem?_eq_none (by simpa using hi)] at e
      cases e
  stop := fun S ρ G' σ H R z => by
    show n ≤ (rngC lo c n).length
    unfold rngC
    rw [List.length_map, List.length_range]
    exact Nat.le_refl _
/-- how many -/
def stepN (i j c : Int) : Nat := if i < j then ((j - i - 1) / c + 1).toNat else 0
theorem rgC_pos {i j c : Int} (hi : -1000000000 ≤ i) (hi' : i ≤ 1000000000) (hj : -1000000000 ≤ j) (hj' : j ≤ 1000000000) (hc : 0 < c) (hc' : c ≤ 1000000000) : RgC i j c (stepN i j c) := by
  have hs : Builtin.Range.rangeSize i j c = (stepN i j c : Int) := by
    unfold Builtin.Range.rangeSize stepN
    rw [if_pos hc]
    split
    · have := Int.ediv_nonneg (a := j - i - 1) (b := c) (by omega) (by omega)
      omega
    · rfl
  refine ⟨by omega, by omega, ?_, hs⟩
  unfold Builtin.Range.small
  rw [hs]
  have h1 : (stepN i j c : Int) * c ≤ 2000000000 + c ∧ (stepN i j c : Int) ≤ 2000000001 := by
    unfold stepN
    split
    · have h0 := Int.ediv_nonneg (a := j - i - 1) (b := c) (by omega) (by omega)
      have h2 := Int.ediv_mul_le (j - i - 1) (show c ≠ 0 by omega)
      have h3 := Int.ediv_le_self c (show (0 : Int) ≤ j - i - 1 by omega)
      have e : ((((j - i - 1) / c + 1).toNat : Nat) : Int) = (j - i - 1) / c + 1 := by omega
      rw [e, Int.add_mul]
      omega
    · simp; omega
  have h0 : (0 : Int) ≤ (stepN i j c : Int) * c := Int.mul_nonneg (by omega) (by omega)
  simp only [Builtin.Range.rangeFitsLong, Bool.and_eq_true, Bool.or_eq_true, decide_eq_true_eq, beq_iff_eq, show c > 0 from hc, if_true]
  have e1 : ((stepN i j c : Int) - 1) * c = (stepN i j c : Int) * c - c := by rw [Int.sub_mul, Int.one_mul]
  refine ⟨⟨⟨by omega, by omega⟩, by omega⟩, ?_⟩
  omega
def fR3 : List D → Option (List D)
  | [.int i, .int j, .int c] => if ((-1000000000 ≤ i ∧ i ≤ 1000000000) ∧ -1000000000 ≤ j ∧ j ≤ 1000000000) ∧ 0 < c ∧ c ≤ 1000000000 then some (rngC i c (stepN i j c)) else none
  | _ => none
theorem fR3_some {ds zs : List D} (h : fR3 ds = some zs) : ∃ i j c, ds = [.int i, .int j, .int c] ∧ (((-1000000000 ≤ i ∧ i ≤ 1000000000) ∧ -1000000000 ≤ j ∧ j ≤ 1000000000) ∧ 0 < c ∧ c ≤ 1000000000) ∧ zs = rngC i c (stepN i j c) := by
  unfold fR3 at h
  split at h
  · split at h
    · cases h
      exact ⟨_, _, _, rfl, by assumption, rfl⟩
    · cases h
  · cases h
abbrev iR3 := iFn fR3
theorem ArgsOk.three {K : PySem.W.Frag} {G : Gh} {H : Hp} {vs : List V} {d d' d'' : D} (h : ArgsOk K cl G H [true, true, true] vs [d, d', d'']) : ∃ v v' v'', vs = [v, v', v''] ∧ RepT K cl G H v d ∧ RepT K cl G H v' d' ∧ RepT K cl G H v'' d'' := by
  cases h with
  | bo h t =>
    obtain ⟨v', v'', rfl, h', h''⟩ := t.two
    exact ⟨_, v', v'', rfl, h, h', h''⟩
theorem si_range3 {ax : Ax} {p : Pos} (hg : Gl X "range") (hm : X.mg "range" = none) (ha : SA X cl W [true, true, true] [a, b, c] ax) (hs : starEach [a, b, c] X.env = (false, eval a X.env) :: starEach [b, c] X.env := by rfl) (hpl : (backTo pos (starEach [b, c] X.env)).any (·.1) = false := by rfl) : SI X cl W tg (.Call (.Name "range" p) [a, b, c] [] pos) (iR3 ax) := PI.weak (pi_range3 hg hm ha hs hpl) fun σ H Rr ⟨G0, H0, S, ρ, G, R, h⟩ => by
  refine ⟨G0, H0, S, ρ, G, R, ?_⟩
  unfold iR3 iFn at h
  cases q : ax ρ S with
  | ok ds S' =>
    rw [q] at h
    intro vs G' H' R' s p
    simp only [Res.bind] at h
    cases q2 : fR3 ds with
    | none => rw [q2] at h; exact h.elim
    | some zs =>
      rw [q2] at h
      obtain ⟨i, j, c, rfl, hz, rfl⟩ := fR3_some q2
      obtain ⟨v, v', v'', rfl, rv, rv', rv''⟩ := ArgsOk.three p
      exact ⟨i, j, c, _, by rw [rv.int, rv'.int, rv''.int], rgC_pos hz.1.1.1 hz.1.1.2 hz.1.2.1 hz.1.2.2 hz.2.1 hz.2.2, h _ G' H' R' s iter_rngC⟩
  | exc n S' => rw [q] at h; exact h
  | stuck => rw [q] at h; exact h
/-- reversed(range(a)) -/
def iRv1 (ca : Ex) : Ix := fun ρ S => (ca ρ S).bind fun d S => match d with
  | .int n => if -1000000000 ≤ n ∧ n ≤ 1000000000 then .ok (rngC (n.toNat - 1) (-1) n.toNat) S else .stuck
  | _ => .stuck
theorem si_rev1 {p p2 pos2 : Pos} (hg : Gl X "reversed") (hm : X.mg "reversed" = none) (hg2 : Gl X "range") (hm2 : X.mg "range" = none) (ha : SB X cl W a ca)
    (na : starEach [a] X.env = (false, eval a X.env) :: starEach [] X.env := by rfl)
    (hs : starEach [.Call (.Name "range" p2) [a] [] pos2] X.env = (false, eval (.Call (.Name "range" p2) [a] [] pos2) X.env) :: starEach [] X.env := by rfl) : SI X cl W tg (.Call (.Name "reversed" p) [.Call (.Name "range" p2) [a] [] pos2] [] pos) (iRv1 ca) := PI.weak (pi_revR hg hm (prg_1 hg2 hm2 ha na) hs) fun σ H Rr ⟨G0, H0, S, ρ, G, R, h⟩ => by
  refine ⟨G0, H0, S, ρ, G, R, ?_⟩
  unfold iRv1 at h
  cases q : ca ρ S with
  | ok d S' =>
    rw [q] at h
    intro v G' H' R' s p
    simp only [Res.bind] at h
    cases d <;> simp only at h
    rename_i n
    by_cases hz : -1000000000 ≤ n ∧ n ≤ 1000000000
    · rw [if_pos hz] at h
      refine ⟨n, RepT.int p, by omega, by omega, by omega, by omega, ?_⟩
      have e : ((0 : Int) + (((n - 0).toNat : Nat) : Int) - 1) = (n.toNat : Int) - 1 := by omega
      have e2 : (n - 0).toNat = n.toNat := by omega
      rw [e, e2]
      exact h _ G' H' R' s iter_rngC
    · rw [if_neg hz] at h; exact h.elim
  | exc n S' => rw [q] at h; exact h
  | stuck => rw [q] at h; exact h
/-- list(range(a)) -/
def eLstRg1 (ca : Ex) : Ex := fun ρ S => (ca ρ S).bind fun d S => match d with
  | .int n => if -1000000 ≤ n ∧ n ≤ 1000000 then .ok (.lst (rngD 0 n.toNat)) S else .stuck
  | _ => .stuck
theorem rep_rg {K : PySem.W.Frag} {mu : List Addr} {Z : Hp} (lo n : Int) : RepAll K cl mu Z (rgV lo n) (rngD lo (n - lo).toNat) := by
  unfold rgV rngD
  generalize List.range (n - lo).toNat = l
  induction l with
  | nil => exact .nil
  | cons x l ih => exact .cons (.int _) ih
theorem sn_lstRg1 {p p2 pos2 : Pos} (hc : X.calm = true) (hg : Gl X "list") (hm : X.mg "list" = none) (hg2 : Gl X "range") (hm2 : X.mg "range" = none) (ha : SB X cl W a ca)
    (na : starEach [a] X.env = (false, eval a X.env) :: starEach [] X.env := by rfl)
    (hs : starEach [.Call (.Name "range" p2) [a] [] pos2] X.env = (false, eval (.Call (.Name "range" p2) [a] [] pos2) X.env) :: starEach [] X.env := by rfl) : SN X cl W (.Call (.Name "list" p) [.Call (.Name "range" p2) [a] [] pos2] [] pos) (eLstRg1 ca) := PE.weak (pe_listRg hc hg hm (prg_1 hg2 hm2 ha na) hs) fun σ H Q ⟨G0, H0, S, ρ, G, R, h⟩ => by
  refine tX.bind (Pa := PB X.K cl) pnM R h fun d v S1 G1 H1 R1 s1 p1 h1 => ?_
  cases d <;> simp only [Aft] at h1
  rename_i n
  by_cases hz : -1000000 ≤ n ∧ n ≤ 1000000
  · rw [if_pos hz] at h1
    refine ⟨n, RepT.int p1, ⟨by omega, by omega, by omega, by omega, by omega⟩, fun l hl => ?_⟩
    have r := rep_rg (K := X.K) (cl := cl) (mu := G1.mu) (Z := G1.Z) 0 n
    rw [Int.sub_zero] at r
    obtain ⟨R', s', nn⟩ := R1.newL hl r
    exact h1 _ _ _ R' s' ⟨l, [l], rfl, nn, fun b hb => by simp at hb; subst hb; exact hl⟩
  · rw [if_neg hz] at h1; exact h1.elim

/-! ### chains as tests -/
theorem eChain_bl {f f' : D → D → Option D} (hb' : Bls f') {ρ : Env} {S S' : Store} {d : D} (h : eChain f f' ca cb cc ρ S = .ok d S') : ∃ k, d = .bl k := by
  unfold eChain at h
  cases q1 : ca ρ S with
  | ok d1 S1 =>
    rw [q1] at h
    simp only [Res.bind] at h
    cases q2 : cb ρ S1 with
    | ok d2 S2 =>
      rw [q2] at h
      simp only at h
      split at h
      · cases q3 : cc ρ S2 with
        | ok d3 S3 =>
          rw [q3] at h
          simp only at h
          cases q4 : f' d2 d3 with
          | none => rw [q4] at h; cases h
          | some z => rw [q4] at h; cases h; exact hb' _ _ _ q4
        | exc n S3 => rw [q3] at h; cases h
        | stuck => rw [q3] at h; cases h
      · cases h; exact ⟨_, rfl⟩
      · cases h
    | exc n S2 => rw [q2] at h; cases h
    | stuck => rw [q2] at h; cases h
  | exc n S1 => rw [q1] at h; cases h
  | stuck => rw [q1] at h; cases h
theorem st_ch {op op' : CmpOp} {r r' : R2} {f f' : D → D → Option D} (hb' : Bls f') (ho : OpR X (compareOp op) r) (ho' : OpR X (compareOp op') r') (hs : OpS X cl r f (PF X.K cl)) (hs' : OpS X cl r' f' (PF X.K cl)) (ha : SB X cl W a ca) (hb : SB X cl W b cb) (hc : SB X cl W c cc) (hm : lastMarks [op, op'] [b, c] = false := by with_unfolding_all rfl) : STt X cl W (.Compare a [op, op'] [b, c] pos) (eTr (eChain f f' ca cb cc)) :=
  PT.weak (pt_chain ho ho' ha hb hc hm) fun σ H Q ⟨G0, H0, S, ρ, G, R, h⟩ => by
    refine chain_sem (Q := fun x H' => ∃ k, x = .bl k ∧ Q k H') hs hs' ⟨G0, H0, S, ρ, G, R, ?_⟩
    unfold eTr at h
    cases q : eChain f f' ca cb cc ρ S with
    | ok d S' =>
      rw [q] at h
      obtain ⟨k, rfl⟩ := eChain_bl hb' q
      intro v G' H' R' s p
      cases p
      exact ⟨k, rfl, h k G' H' R' s rfl⟩
    | exc n S' => rw [q] at h; exact h
    | stuck => rw [q] at h; exact h

/-! ### dicts read -/
theorem bls_din {neg : Bool} : Bls (oDin neg) := fun d e z h => by
  cases e <;> simp only [oDin, reduceCtorEq] at h
  cases q : d.key with
  | none => rw [q] at h; cases h
  | some k => rw [q] at h; cases h; exact ⟨_, rfl⟩
theorem st_din (hu : X.A.units + 1 < cLine) (ha : SB X cl W a ca) (hb : SB X cl W b cb) (hm : behindInMarks .In b = false := by rfl) : STt X cl W (.Compare a [.In] [b] pos) (eTr (eBin (oDin false) ca cb)) :=
  PT.weak (pt_cmp (pc_din hu ha hb) hm) fun σ H Q h => by
    have h2 := din_sem (Q := fun x H' => ∃ k, x = .bl k ∧ Q k H') (test_of bls_din h)
    exact h2
theorem st_dnin (hu : X.A.units + 1 < cLine) (ha : SB X cl W a ca) (hb : SB X cl W b cb) (hm : behindInMarks .NotIn b = false := by rfl) : STt X cl W (.Compare a [.NotIn] [b] pos) (eTr (eBin (oDin true) ca cb)) :=
  PT.weak (pt_cmp (pc_dnotin hu ha hb) hm) fun σ H Q h => by
    have h2 := din_sem (Q := fun x H' => ∃ k, x = .bl k ∧ Q k H') (test_of bls_din h)
    exact h2
theorem se_din (hu : X.A.units + 1 < cLine) (ha : SB X cl W a ca) (hb : SB X cl W b cb) (hm : behindInMarks .In b = false := by rfl) : SE X cl W (.Compare a [.In] [b] pos) (eBin (oDin false) ca cb) :=
  PE.weak (pe_cmp (pc_din hu ha hb) hm) fun σ H Q h => din_sem h
theorem se_dnin (hu : X.A.units + 1 < cLine) (ha : SB X cl W a ca) (hb : SB X cl W b cb) (hm : behindInMarks .NotIn b = false := by rfl) : SE X cl W (.Compare a [.NotIn] [b] pos) (eBin (oDin true) ca cb) :=
  PE.weak (pe_cmp (pc_dnotin hu ha hb) hm) fun σ H Q h => din_sem h
/-- d[k] -/
def valD (ds : List (Key × D)) (k : Key) : Option D := (ds.find? fun kv => decide (kv.1 = k)).map (·.2)
def oDget : D → D → Option D
  | .dic ds, d => match d.key with
    | some k => valD ds k
    | none => none
  | _, _ => none
theorem RepK.valD {K : PySem.W.Frag} {mu : List Addr} {Z : Hp} {k : Key} {d : D} : ∀ {vs : List (Key × V)} {ds : List (Key × D)}, RepK K cl mu Z vs ds → PM.valD ds k = some d → ∃ v, valV vs k = some v ∧ Rep K cl mu Z v d
  | _, _, .nil, e => by simp [PM.valD] at e
  | _, _, @RepK.cons _ _ _ _ k' v' vs d' ds r t, e => by
    unfold PM.valD at e
    by_cases h : k' = k
    · rw [List.find?_cons] at e
      simp only [h, decide_true] at e
      cases e
      exact ⟨v', valV_pos h, r⟩
    · rw [List.find?_cons] at e
      simp only [h, decide_false] at e
      obtain ⟨v, h1, h2⟩ := RepK.valD (k := k) (d := d) t e
      exact ⟨v, by rw [valV_neg h]; exact h1, h2⟩
theorem se_dget (hu : X.A.units + 1 < cLine) (ha : SB X cl W a ca) (hb : SB X cl W b cb) (hs : NoSl b := by intro _ _; rfl) : SE X cl W (.Subscript a b pos) (eBin oDget ca cb) := PE.weak (pe_dget hu ha hb hs) fun σ H Q ⟨G0, H0, S, ρ, G, R, h⟩ => by
  refine tX.bind (Pa := PB X.K cl) pfM R h fun d x S1 G1 H1 R1 s1 p1 h1 => ?_
  refine tX.bind (Pa := PB X.K cl) pfM R1 h1 fun e y S2 G2 H2 R2 s2 p2 h2 => ?_
  cases d <;> simp only [oDget, Res.opt, Aft] at h2
  rename_i ds
  cases q : e.key with
  | none => simp only [q] at h2
  | some k =>
    simp only [q] at h2
    cases q2 : PM.valD ds k with
    | none => simp only [q2] at h2
    | some z =>
      simp only [q2] at h2
      obtain ⟨p, vs, rfl, h3, r3⟩ := RepT.dic (RepT.stp p1 s2) R2.ok.zsub
      have e1 := RepT.key p2 q
      subst e1
      obtain ⟨v, hv, rv⟩ := r3.valD q2
      exact ⟨p, v, rfl, by rw [← hv]; exact DGet.k h3, h2 _ G2 H2 R2 (Stp.refl _ _) rv⟩
end
end PM
set_option maxHeartbeats 1000000
/-! PM13: names are forgotten. -/
namespace PM
open PySem PySem.Spec PyProof.Rows L2
def sWipe (is : List Nat) : Stm := fun ρ S => .nx (wipeE ρ is) S
section
variable {X : Cx} {cl : ClsP} {W : WX} {s1 : Stm} {rest : List Stmt}
theorem Rel.drops {K : PySem.W.Frag} {G0 G : Gh} {H0 H : Hp} {S : Store} {ρ : Env} {σ : L2.St} (R : Rel K cl G0 H0 S ρ G σ H) : ∀ is : List Nat, Rel K cl G0 H0 S (wipeE ρ is) G σ H
  | [] => R
  | i :: is => (Rel.drops R is).drop1 i
theorem ss_wipe {is : List Nat} (h : SSs X cl W rest s1) : SSs X cl W rest (sSeq (sWipe is) s1) := PSs.weak h fun D σ H ⟨G0, H0, S, ρ, G, R, q⟩ => ⟨G0, H0, S, wipeE ρ is, G, R.drops is, q⟩
end
end PM
namespace PM
open PySem PySem.Spec PyProof.Rows L2
theorem sp_startR {K : PySem.W.Frag} {cl : ClsP} (bm : List Bool) {m : Fn} {H : Hp} {a : Addr} {ns : List Int} (hb : bm = [true] ∨ bm = [false]) (h : ∃ S, resF (m [.scr ns] []) = .ok (.bl true) S) (hS : SqL K H a (ns.map V.int)) : spOf K cl bm m [.ref a] H (fun v _ => v = .bl true) (fun _ _ _ => False) := by
  obtain ⟨S, h⟩ := h
  refine ⟨{ Z := H, lab := fun _ => none, mu := [], me := none }, [], [.scr ns], ⟨fun _ _ e => e, fun _ _ e => (by cases e), fun n c e => (by simp at e), ⟨rfl, rfl⟩⟩, fun _ _ e => (by cases e), ?_, ?_⟩
  · rcases hb with rfl | rfl
    · exact .bo (.inl (.scr hS)) .nil
    · exact .fr (.scr hS) .nil
  · cases q : m [.scr ns] [] with
    | ok v S' =>
      cases v with
      | fr d =>
        rw [q] at h
        simp only [resF] at h
        cases h
        intro v G' H' _ _ _ r
        cases r
        rfl
      | ow d =>
        rw [q] at h
        simp only [resF] at h
        cases h
        intro a as G' H' _ _ _ n _
        cases n.1
    | exc n S' => rw [q] at h; simp only [resF, reduceCtorEq] at h
    | stuck => rw [q] at h; simp only [resF, reduceCtorEq] at h
end PM
set_option maxHeartbeats 2000000
/-! PX1: a caught exception is tracked in the heap: it may be handed to another def. -/
namespace PM
open PySem PySem.Spec PyProof.Rows L2
section
variable {X : Cx} {pins : List (Addr × Obj)} {σ : L2.St} {H : Hp} {s : Shared}
/-- what is new since the def began may be tracked -/
theorem inv_track {e : Addr} {kind : Value} {ob : Obj} {parts : Array Value} (I : Inv X pins σ H s) (here : s.heap.get? e = some ob) (hz : Zc kind none ob) (hd : ob.data = .fields parts) (hn : H e = none) (new0 : X.s_0.heap.get? e = none)
    (nl : e ≠ X.env.locals) (np : ∀ p ∈ X.pn ++ pins, p.1 ≠ e) : Inv (X.suite e (X.pn ++ pins)) [] σ (upd H e (exnO kind e)) s := by
  have off : ∀ {b : Addr}, b ≠ e → upd H e (exnO kind e) b = H b := fun h => upd_ne h
  have far : ∀ {b : Addr} {o : Obj}, X.s_0.heap.get? b = some o → b ≠ e := fun {b o} h z => by rw [z, new0] at h; cases h
  have tracked : ∀ {b : Addr} {o : HO}, H b = some o → upd H e (exnO kind e) b = some o := fun {b o} h => by
    rw [off fun z => by rw [z, hn] at h; cases h]; exact h
  refine ⟨I.ok.suite _ _, I.os, I.bare, ⟨I.base.keep, I.base.slot, ?_, I.base.there, ?_, ?_, ?_⟩, I.loc, I.cell, ?_, ?_, ?_, ?_, I.len⟩
  · intro b o h1 h2 h3
    rw [off (far h1)]
    exact I.base.free b o h1 h2 h3
  · exact fun b xs h => tracked (I.base.tups b xs h)
  · exact fun b o u h => tracked (I.base.frzs b o u h)
  · intro b ps h
    obtain ⟨more, h'⟩ := I.base.tbls b ps h
    exact ⟨more, tracked h'⟩
  · exact (off fun z => nl z.symm).trans I.free
  · intro x c h
    refine (off fun z => ?_).trans (I.freeC x c h)
    obtain ⟨v, o, h1, h2⟩ := I.cell x c h
    rw [z, here] at h1
    cases h1
    rw [hd] at h2
    cases h2
  · intro p hp
    have hp' : p ∈ X.pn ++ pins := by rw [List.append_nil] at hp; exact hp
    obtain ⟨h1, h2, h3⟩ := I.pin p hp'
    exact ⟨h1, (off (np p hp')).trans h2, h3⟩
  · exact I.hok.laidN (fun _ _ h => h) hn ⟨⟨ob, parts, here, hz, hd⟩, ⟨ob, here⟩, fun _ _ ⟨o, v, h1, h2⟩ k => ⟨o, v, k o h1, h2⟩⟩
theorem inv_untrack {e : Addr} {pn' : List (Addr × Obj)} (I : Inv (X.suite e (X.pn ++ pins)) pn' σ H s) (ok : X.Ok) : Inv X pins σ H s :=
  ⟨ok, I.os, I.bare, I.base, I.loc, I.cell, I.free, I.freeC, fun p hp => I.pin p (List.mem_append_left _ hp), I.hok, I.len⟩
end
/-- what the clause wishes: the exception is tracked while the suite runs -/
def wAsT (K : PySem.W.Frag) (c : Value) (i : Nat) (ts : Value → Addr → TS) (Wout : WX) (D : Ends) : WX := fun cls d σ H =>
  ∃ hit, PySem.W.exmOne K cls c = some hit ∧ (hit = true → d = none ∧ ∀ e, H e = none → ts cls e { nx := fun σ' H' => D.nx (σ'.set i none) H', rt := D.rt, bk := fun σ' H' => D.bk (σ'.set i none) H', ct := fun σ' H' => D.ct (σ'.set i none) H' } (σ.set i (some (.ref e))) (upd H e (exnO cls e))) ∧
    (hit = false → Wout cls d σ H)
section
variable {X : Cx} {x n : Str} {c : Value} {i : Nat} {body suite : List Stmt} {first : Stmt} {np pos pos' : Pos} {tb : WX → TS} {ts : Value → Addr → TS} {Wout : WX}
theorem ps_tryT (hs : X.stack = X.env :: X.outer) (hf : X.env.frame = some X.env.locals) (hN : X.N.Nodup) (hi : X.N[i]? = some n) (hln : X.env.kindOf n = some .local) (hc : Names X x c) (tk : Takes X Wout) (hex : X.ex = [])
    (hb : ∀ (W : WX) (pn : List (Addr × Obj)) (xe : Value → Shared → Prop), Takes (X.tr pn xe) W → PassesOwn (model X.prog X.w) X.A X.env xe → PSs (X.tr pn xe) body (tb W))
    (hsu : ∀ (e : Addr) (cls : Value) (pn : List (Addr × Obj)), PSs (X.suite e pn) (first :: suite) (ts cls e)) :
    PS X (.Try body [.ExceptHandler (some (.Name x np)) (some n) (first :: suite) pos'] [] [] pos) (fun D σ H => tb (wAsT X.K c i ts Wout D) D σ H) := by
  refine ⟨fun pins s0 σ H D I want => ?_⟩
  have ok := I.ok
  have fr : X.A.frames = some (X.env :: X.outer) := by rw [ok.frames, hs]
  refine wpAny_Try_except (wpAny_mono ((hb (wAsT X.K c i ts Wout D) (X.pn ++ pins)
    (fun u t => wpAny (model X.prog X.w) X.A (noteFrame u X.env) (fun _ t2 => wpAny (model X.prog X.w) X.A (setFlight u none)
      (fun _ t3 => wpAny (model X.prog X.w) X.A (handleBy u X.env [.ExceptHandler (some (.Name x np)) (some n) (first :: suite) pos']) (SP X pins D) X.xe t3) X.xe t2) X.xe t)
    (fun u t caught => ?_) PassesOwn.looking).run [] s0 σ H D (I.toTry _) want) ?_ fun u t h => h)
  · obtain ⟨e, B, t0, pins', τ, G, cls, d, rfl, J', grd, upS, sky, free, osq, bareq, wish⟩ := caught
    have J : Inv X pins τ G t0 := J'.ofTry ok
    have sky1 : Sky B (X.env :: X.outer) e (Zc cls d) X.env.locals t.heap := by rw [← hs]; exact sky
    obtain ⟨hit, hm, yes, no⟩ := wish
    show wpAny _ X.A (noteFrame (.ref e) X.env) _ _ _
    refine Sky.land Zc.steady fr hf sky1 fun g3 air3 up3 => ?_
    have J3 : Inv X pins τ G { t with heap := g3 } := J.landed grd air3.1 (upS.trans up3) osq bareq
    obtain ⟨o3, v3, at3, z3, d3⟩ := air3.there
    have offFr : e ∉ frs (X.env :: X.outer) := fun hm => by
      obtain ⟨_, o', at', hnf⟩ := air3.2.2.1.mem hm
      rw [at3] at at'; cases at'
      exact hnf _ d3
    have notLoc : e ≠ X.env.locals := fun z => offFr (List.mem_filterMap.mpr ⟨X.env, List.mem_cons_self, by rw [hf, z]⟩)
    have notFs : e ∉ X.fs := fun hm => by
      obtain ⟨q, hq, z⟩ := List.mem_filterMap.mp hm
      exact offFr (List.mem_filterMap.mpr ⟨q, List.mem_cons_of_mem _ hq, z⟩)
    -- the exception is new
    have new : t0.heap.get? e = none := by
      cases q : t0.heap.get? e with
      | none => rfl
      | some o =>
        have z := grd e o q (by rw [hs]; exact offFr)
        rw [air3.2.1] at z; cases z
    have new0 : X.s_0.heap.get? e = none := by
      cases q : X.s_0.heap.get? e with
      | none => rfl
      | some o =>
        obtain ⟨o', z⟩ := J.base.there e o q (by rw [hex]; simp)
        rw [new] at z; cases z
    have offPins : ∀ p ∈ X.pn ++ pins, p.1 ≠ e := fun p hp z => by
      have q := (J.pin p hp).1
      rw [z, new] at q; cases q
    have S3 := J3.suite at3 d3 free notLoc notFs
    refine wpAny_handleBy_cons (codeAny_handlers_test ?_) (by intro q; cases q)
    have kindAt : PySem.W.Looks (model X.prog X.w) g3 (typeOf (.ref e)) cls := fun A Q E s k q => wpAny_typeOf_ref (k _ _ at3) (by rw [z3.1]; exact q)
    have asks := PySem.W.exm_one (M := model X.prog X.w) J3.kIn kindAt hm
    have named : ∀ {Q E : Value → Shared → Prop}, Q c { t with heap := g3 } → wpAny (model X.prog X.w) (X.A.mark (some (.ref e))) (eval (.Name x np) X.env) Q E { t with heap := g3 } := fun {Q E} q => by
      obtain ⟨hg, hdb, h | ⟨h, hv, hnn⟩⟩ := hc
      · exact ld_glob (X := X.suite e ((e, o3) :: (X.pn ++ pins))) S3 hg h q hdb
      · exact ld_blt (X := X.suite e ((e, o3) :: (X.pn ++ pins))) S3 hg h hv q hnn hdb
    refine named (asks.here ?_)
    cases hit with
    | false =>
      show wpAny _ X.A (handleBy (.ref e) X.env []) _ _ _
      refine wpAny_handleBy_nil ?_
      obtain ⟨_, _, _, o, _, T, _, _, hat, _, hdt, hfl, _⟩ := id air3
      unfold PySem.passOn
      refine wpAny_bind (wpAny_field hat hdt hfl ?_)
      rw [if_neg (show ¬ ((Value.ref T == Value.none) = true) by simp)]
      have go : wpAny (model X.prog X.w) X.A (setFlight (.ref e) X.env.frame) (fun _ t4 => wpAny (model X.prog X.w) X.A (throw (.ref e) : Sem Flow) (SP X pins D) X.xe t4) X.xe { t with heap := g3 } := by
        rw [hf]
        exact HandSPX.setFlight_upZ air3 fun g4 air4 up4 => wpAny_throw (tk _ _ ⟨e, B, t0, pins, τ, G, cls, d, rfl, J, grd, (upS.trans up3).trans up4, .inr (.inr (by rw [hs]; exact air4)), free, osq, bareq, no rfl⟩)
      first
        | exact wpAny_bind (wpAny_pure (wpAny_bind go))
        | exact wpAny_bind go
    | true =>
      obtain ⟨hdn, run⟩ := yes rfl
      subst hdn
      refine codeAny_handlers_suite_as (HandSPX.lands_againZ air3 fun g4 air4 up4 => ?_)
      have J4 : Inv X pins τ G { t with heap := g4 } := J.landed grd air4.1 ((upS.trans up3).trans up4) osq bareq
      obtain ⟨o4, v4, at4, z4, d4⟩ := air4.there
      have T4 := inv_track J4 at4 z4 d4 free new0 notLoc offPins
      refine store_ok (X := X.suite e (X.pn ++ pins)) (v := .ref e) T4 hN hi (.inl hln) rfl (fun t5 T5 => ?_) (.inr hln)
      refine wpAny_mono ((hsu e cls (X.pn ++ pins)).run [] t5 _ _ _ T5 (run e free)) (fun f t6 hsp => ?_) fun _ _ z => z.elim
      have close : ∀ {τ6 : L2.St} {G6 : Hp} {Q : Shared → Prop}, Inv (X.suite e (X.pn ++ pins)) [] τ6 G6 t6 → (∀ t7, Inv X pins (τ6.set i none) G6 t7 → Q t7) →
          wpAny (model X.prog X.w) X.A (do bindName X.env n .none; unbindBehindTheSuite X.env n pos') (fun _ t7 => Q t7) X.xe t6 := fun {τ6 G6 Q} S6 hq => gone_ok (inv_untrack S6 ok) hN hi hln hq
      cases f with
      | next =>
        obtain ⟨τ6, G6, S6, q6⟩ := hsp
        exact close S6 fun t7 J7 => ⟨_, _, J7, q6⟩
      | brk =>
        obtain ⟨τ6, G6, S6, q6⟩ := hsp
        exact close S6 fun t7 J7 => ⟨_, _, J7, q6⟩
      | cont =>
        obtain ⟨τ6, G6, S6, q6⟩ := hsp
        exact close S6 fun t7 J7 => ⟨_, _, J7, q6⟩
      | ret u =>
        obtain ⟨w6, τ6, G6, S6, r6, q6⟩ := hsp
        exact close S6 fun t7 J7 => ⟨_, _, _, J7, r6, q6⟩
  · intro f t hsp
    cases f with
    | next =>
      obtain ⟨τ, G, J', q⟩ := hsp
      exact wpAny_execs_nil ⟨τ, G, J'.ofTry ok, q⟩
    | brk =>
      obtain ⟨τ, G, J', q⟩ := hsp
      exact ⟨τ, G, J'.ofTry ok, q⟩
    | cont =>
      obtain ⟨τ, G, J', q⟩ := hsp
      exact ⟨τ, G, J'.ofTry ok, q⟩
    | ret u =>
      obtain ⟨w, τ, G, J', r, q⟩ := hsp
      exact ⟨w, τ, G, J'.ofTry ok, r, q⟩
end
end PM
set_option maxHeartbeats 1000000
/-! PM14: try, caught exceptions, defs called within a suite. -/
namespace PM
open PySem PySem.Spec PyProof.Rows L2
section
variable {X : Cx} {cl : ClsP} {W : WX} {a : Expr} {ca : Ex} {pos : Pos}
theorem RepT.exnv {K : PySem.W.Frag} {G : Gh} {H : Hp} {v : V} {n : Nat} (h : RepT K cl G H v (.exn n)) (zs : Same G.Z H) : ∃ e, v = .ref e ∧ H e = some (exnO (.ref (cl n)) e) := by
  rcases h with h | ⟨_, _, _, c, _⟩
  · cases h with
    | exn hs => exact ⟨_, rfl, zs _ _ hs⟩
  · cases c
/-! ### isinstance of a caught exception -/
def rIsX (K : PySem.W.Frag) : List V → Hp → VK → Prop := fun xs H Q => ∃ (e C : Addr) (c : V) (cv : Value) (b : Bool), xs = [.ref e, c] ∧ (∀ u, RelV c u → u = cv) ∧ H e = some (exnO (.ref C) e) ∧ ExcC K C ∧ PySem.W.kitOne K (.ref C) cv = some b ∧ Q (.bl b) H
theorem call_isX : CallR X (.builtin "isinstance") (rIsX X.K) := by
  intro pins s σ H xs us Q I r h
  obtain ⟨e, C, c, cv, b, rfl, hcv, he, F, hk, q⟩ := h
  obtain ⟨u1, u2, rfl, r1, r2⟩ := vals2 r
  cases hcv _ r2
  cases r1
  obtain ⟨⟨ob, parts, h1, ⟨h2, h3⟩, h4⟩, _⟩ := I.hok e _ he
  have J : PySem.W.InstAt s.heap e ob C none := by
    obtain ⟨oc, od, oda, osl⟩ := ob
    cases h2; cases h3; cases h4
    exact ⟨h1, rfl, rfl, trivial⟩
  exact PySem.W.kia_one (PySem.W.handS_kitx_exc F.hg F.hk F.hs F.hd F.ha F.hn F.ht F.hm) I.kIn J hk (fun z => nomatch z) fun tk => ⟨.bl b, H, I.kept (t' := tk) fun _ _ z => z, rfl, q⟩
abbrev HTab := Nat → Option Bool
def eIsX (f : HTab) (ca : Ex) : Ex := fun ρ S => (ca ρ S).bind fun d S => match d with
  | .exn n => Res.opt ((f n).map .bl) S
  | _ => .stuck
def IsXOk (K : PySem.W.Frag) (cl : ClsP) (f : HTab) (cv : Value) : Prop := ∀ n b, f n = some b → ExcC K (cl n) ∧ PySem.W.kitOne K (.ref (cl n)) cv = some b
theorem isx_sem {f : HTab} {cv : Value} {c : V} {t : TA} {σ : L2.St} {H : Hp} {Q : VK} (hf : IsXOk X.K cl f cv) (hc : ∀ u, RelV c u → u = cv) (ht : ∀ σ H (k : List V → Hp → Prop), k [c] H → t σ H k) (h : tX X.K cl (PF X.K cl) W (eIsX f ca) σ H Q) :
    tX X.K cl (PB X.K cl) W ca σ H fun v H1 => t σ H1 fun vs H2 => rIsX X.K (v :: vs) H2 Q := by
  obtain ⟨G0, H0, S, ρ, G, R, h⟩ := h
  refine tX.bind (Pa := PB X.K cl) pfM R h fun d x S1 G1 H1 R1 s1 p1 h1 => ht _ _ _ ?_
  cases d with
  | exn n =>
    simp only at h1
    cases q : f n with
    | none => rw [q] at h1; exact h1.elim
    | some b =>
      rw [q] at h1
      obtain ⟨e, rfl, he⟩ := p1.exnv R1.ok.zsub
      obtain ⟨F, hk⟩ := hf n b q
      exact ⟨e, cl n, c, cv, b, rfl, hc, he, F, hk, h1 _ G1 H1 R1 (Stp.refl _ _) (.bl _)⟩
  | _ => simp only [Aft] at h1
theorem se_isX {x y : Str} {p p2 : Pos} {f : HTab} {t : Nat} (hf : IsXOk X.K cl f (.ref (cl t))) (hg : Gl X x) (hm : X.mg x = none) (hv : bootBuiltins x = some (.builtin "isinstance")) (ha : SB X cl W a ca)
    (hg2 : Gl X y) (hm2 : X.mg y = some (.ref (cl t))) (hd2 : (y == ("__debug__" : Str)) = false := by decide) (hn : x ≠ "__name__" := by decide) (hdb : (x == ("__debug__" : Str)) = false := by decide)
    (he : starEach [a, .Name y p2] X.env = (false, eval a X.env) :: starEach [.Name y p2] X.env := by rfl) (he2 : starEach [.Name y p2] X.env = (false, eval (.Name y p2) X.env) :: starEach [] X.env := by rfl) (hpl : (backTo pos (starEach [.Name y p2] X.env)).any (·.1) = false := by rfl) : SE X cl W (.Call (.Name x p) [a, .Name y p2] [] pos) (eIsX f ca) :=
  PE.weak (pe_callB call_isX hg hm hv (pa_cons ha (pa_cons (pe_glob hg2 hm2 (v := .ref (cl t)) rfl hd2) pa_nil he2) he) hn hdb he hpl) fun σ H Q h => by
    refine isx_sem (t := tCons (tC (.ref (cl t))) tNil) hf (fun u r => by cases r; rfl) (fun σ H k q => q) h
theorem se_isXv {x y : Str} {p p2 : Pos} {f : HTab} {T : String} (hf : IsXOk X.K cl f (.type T)) (hg : Gl X x) (hm : X.mg x = none) (hv : bootBuiltins x = some (.builtin "isinstance")) (ha : SB X cl W a ca)
    (hg2 : Gl X y) (hm2 : X.mg y = none) (hv2 : bootBuiltins y = some (.type T)) (hn2 : y ≠ "__name__" := by decide) (hd2 : (y == ("__debug__" : Str)) = false := by decide) (hn : x ≠ "__name__" := by decide) (hdb : (x == ("__debug__" : Str)) = false := by decide)
    (he : starEach [a, .Name y p2] X.env = (false, eval a X.env) :: starEach [.Name y p2] X.env := by rfl) (he2 : starEach [.Name y p2] X.env = (false, eval (.Name y p2) X.env) :: starEach [] X.env := by rfl) (hpl : (backTo pos (starEach [.Name y p2] X.env)).any (·.1) = false := by rfl) : SE X cl W (.Call (.Name x p) [a, .Name y p2] [] pos) (eIsX f ca) :=
  PE.weak (pe_callB call_isX hg hm hv (pa_cons ha (pa_cons (pe_bltn hg2 hm2 hv2 (v := .ty T) rfl hn2 hd2) pa_nil he2) he) hn hdb he hpl) fun σ H Q h => by
    refine isx_sem (t := tCons (tC (.ty T)) tNil) hf (fun u r => by cases r; rfl) (fun σ H k q => q) h
end
/-! ### try -/
def sTryT (i : Nat) (hit : HTab) (body suite : Stm) : Stm := fun ρ S => match body ρ S with
  | .exc n ρ' S' => (match hit n with
    | some true => (match suite (ρ'.set i (.fr (.exn n))) S' with
      | .nx r s => .nx (r.set i .un) s
      | .bk r s => .bk (r.set i .un) s
      | .ct r s => .ct (r.set i .un) s
      | .rt v s => .rt v s
      | _ => .stuck)
    | some false => .exc n ρ' S'
    | none => .stuck)
  | r => r
def hands (n : Nat) (ρ : Env) (S : Store) : List (HTab × Stm) → SR
  | [] => .exc n ρ S
  | (hit, suite) :: r => match hit n with
    | some true => (match suite ρ S with
      | .exc _ _ _ => .stuck
      | q => q)
    | some false => hands n ρ S r
    | none => .stuck
def sTryO (hs : List (HTab × Stm)) (body : Stm) : Stm := fun ρ S => match body ρ S with
  | .exc n ρ' S' => hands n ρ' S' hs
  | r => r
def HitOk (K : PySem.W.Frag) (cl : ClsP) (hit : HTab) (c : Value) : Prop := ∀ n b, hit n = some b → PySem.W.exmOne K (.ref (cl n)) c = some b
section
variable {X : Cx} {cl : ClsP} {W : WX} {x n : Str} {c : Value} {i : Nat} {body suite : List Stmt} {first : Stmt} {np pos pos' : Pos} {s1 s2 : Stm} {hit : HTab}
theorem ss_stuck {rest : List Stmt} : SSs X cl W rest (fun _ _ => .stuck) := ⟨fun _ _ _ _ _ _ ⟨_, _, _, _, _, _, h⟩ => h.elim⟩
theorem ss_tryT (hN : X.N.Nodup) (hi : X.N[i]? = some n) (hln : X.env.kindOf n = some .local) (hc : Names X x c) (tk : Takes X W) (hh : HitOk X.K cl hit c)
    (hb : ∀ (W : WX) (pn : List (Addr × Obj)) (xe : Value → Shared → Prop), Takes (X.tr pn xe) W → PassesOwn (model X.prog X.w) X.A X.env xe → SSs (X.tr pn xe) cl W body s1)
    (hsu : ∀ (e : Addr) (pn : List (Addr × Obj)), SSs (X.suite e pn) cl W0 (first :: suite) s2)
    (hs : X.stack = X.env :: X.outer := by rfl) (hf : X.env.frame = some X.env.locals := by rfl) (hex : X.ex = [] := by rfl) :
    SS X cl W (.Try body [.ExceptHandler (some (.Name x np)) (some n) (first :: suite) pos'] [] [] pos) (sTryT i hit s1 s2) :=
  PS.weak (ps_tryT (tb := fun W' => tS X.K cl W' s1) (ts := fun _ _ => tS X.K cl W0 s2) hs hf hN hi hln hc tk hex (fun W' pn xe t p => hb W' pn xe t p) fun e _ pn => hsu e pn) fun D σ H ⟨G0, H0, S, ρ, G, R, h⟩ => by
    refine ⟨G0, H0, S, ρ, G, R, ?_⟩
    unfold sTryT at h
    cases q : s1 ρ S with
    | nx ρ' S' => rw [q] at h; exact h
    | rt v S' => rw [q] at h; exact h
    | bk ρ' S' => rw [q] at h; exact h
    | ct ρ' S' => rw [q] at h; exact h
    | stuck => rw [q] at h; exact h.elim
    | exc m ρ' S' =>
      simp only [q] at h
      intro G' σ' H' R' z
      cases e : hit m with
      | none => simp only [e, AftS] at h
      | some b =>
        refine ⟨b, hh m b e, fun hb' => ⟨rfl, fun p hp => ?_⟩, fun hb' => ?_⟩
        · subst hb'
          simp only [e] at h
          obtain ⟨R1, st1, hz1⟩ := R'.newF hp (exnO (.ref (cl m)) p)
          have R2 := R1.setF i (v := .ref p) (d := .exn m) (.exn hz1)
          refine ⟨G0, H0, S', _, _, R2, ?_⟩
          have zz : Zle G _ := z.trans st1.zle
          cases q2 : s2 (ρ'.set i (.fr (.exn m))) S' with
          | nx r s => simp only [q2] at h; exact fun G3 σ3 H3 R3 z3 => h G3 _ H3 (R3.setU i none) (zz.trans z3)
          | bk r s => simp only [q2] at h; exact fun G3 σ3 H3 R3 z3 => h G3 _ H3 (R3.setU i none) (zz.trans z3)
          | ct r s => simp only [q2] at h; exact fun G3 σ3 H3 R3 z3 => h G3 _ H3 (R3.setU i none) (zz.trans z3)
          | rt v s => simp only [q2] at h; exact h
          | exc _ _ _ => simp only [q2, AftS] at h
          | stuck => simp only [q2, AftS] at h
        · subst hb'
          simp only [e] at h
          exact h G' σ' H' R' z
inductive HdsS (X : Cx) (cl : ClsP) : List ExceptHandler → List (HTab × Stm) → List (Value × (Addr → Value → Option Addr → TS)) → Prop
  | nil : HdsS X cl [] [] []
  | cons {x : Str} {c : Value} {first : Stmt} {suite : List Stmt} {np pos' : Pos} {hit : HTab} {s2 : Stm} {hds : List ExceptHandler} {l : List (HTab × Stm)} {l' : List (Value × (Addr → Value → Option Addr → TS))} (hc : Names X x c) (hh : HitOk X.K cl hit c)
      (hsu : ∀ (e : Addr) (oe : Obj) (pn : List (Addr × Obj)), SSs (X.suite e ((e, oe) :: pn)) cl W0 (first :: suite) s2) (r : HdsS X cl hds l l') :
      HdsS X cl (.ExceptHandler (some (.Name x np)) none (first :: suite) pos' :: hds) ((hit, s2) :: l) ((c, fun _ _ _ => tS X.K cl W0 s2) :: l')
theorem HdsS.ok {hds : List ExceptHandler} {l : List (HTab × Stm)} {l' : List (Value × (Addr → Value → Option Addr → TS))} (h : HdsS X cl hds l l') : HdsOk X hds l' := by
  induction h with
  | nil => exact .nil
  | cons hc hh hsu r ih => exact .cons hc (fun a oe cls d pn _ _ => hsu a oe pn) ih
theorem HdsS.sem {G0 G' : Gh} {H0 H' : Hp} {m : Nat} {ρ' : Env} {S' : Store} {σ' : L2.St} {D : Ends} {G : Gh} (R' : Rel X.K cl G0 H0 S' ρ' G' σ' H') (z : Zle G G') {hds : List ExceptHandler} {l : List (HTab × Stm)} {l' : List (Value × (Addr → Value → Option Addr → TS))} (h : HdsS X cl hds l l')
    (w : AftS X.K cl W G0 H0 G D (hands m ρ' S' l)) : wMany X.K W D l' (.ref (cl m)) none σ' H' := by
  induction h with
  | nil => exact w G' σ' H' R' z
  | @cons x c first suite np pos' hit s2 hds l l' hc hh hsu r ih =>
    unfold hands at w
    cases e : hit m with
    | none => simp only [e, AftS] at w
    | some b =>
      refine ⟨b, hh m b e, fun hb' a ha => ?_, fun hb' => ?_⟩
      · subst hb'
        simp only [e] at w
        refine ⟨G0, H0, S', ρ', G', R', ?_⟩
        cases q2 : s2 ρ' S' with
        | nx r s => simp only [q2] at w; exact fun G3 σ3 H3 R3 z3 => w G3 _ H3 R3 (z.trans z3)
        | bk r s => simp only [q2] at w; exact fun G3 σ3 H3 R3 z3 => w G3 _ H3 R3 (z.trans z3)
        | ct r s => simp only [q2] at w; exact fun G3 σ3 H3 R3 z3 => w G3 _ H3 R3 (z.trans z3)
        | rt v s => simp only [q2] at w; exact w
        | exc _ _ _ => simp only [q2, AftS] at w
        | stuck => simp only [q2, AftS] at w
      · subst hb'
        simp only [e] at w
        exact ih w
theorem ss_tryO {h₀ : ExceptHandler} {hds : List ExceptHandler} {l : List (HTab × Stm)} {l' : List (Value × (Addr → Value → Option Addr → TS))} (tk : Takes X W) (hh : HdsS X cl (h₀ :: hds) l l')
    (hb : ∀ (W : WX) (pn : List (Addr × Obj)) (xe : Value → Shared → Prop), Takes (X.tr pn xe) W → PassesOwn (model X.prog X.w) X.A X.env xe → SSs (X.tr pn xe) cl W body s1)
    (hs : X.stack = X.env :: X.outer := by rfl) (hf : X.env.frame = some X.env.locals := by rfl) : SS X cl W (.Try body (h₀ :: hds) [] [] pos) (sTryO l s1) :=
  PS.weak (ps_try_many (tb := fun W' => tS X.K cl W' s1) hs hf tk (fun W' pn xe t p => hb W' pn xe t p) hh.ok) fun D σ H ⟨G0, H0, S, ρ, G, R, h⟩ => by
    refine ⟨G0, H0, S, ρ, G, R, ?_⟩
    unfold sTryO at h
    cases q : s1 ρ S with
    | nx ρ' S' => rw [q] at h; exact h
    | rt v S' => rw [q] at h; exact h
    | bk ρ' S' => rw [q] at h; exact h
    | ct ρ' S' => rw [q] at h; exact h
    | stuck => rw [q] at h; exact h.elim
    | exc m ρ' S' =>
      simp only [q] at h
      exact fun G' σ' H' R' z => hh.sem R' z h
end
theorem kit_of {K : PySem.W.Frag} {t : Value} {C : Addr} {b : Bool} (h1 : PySem.W.isClsIn K C = true) (h2 : PySem.W.typeIn K (.ref C) = some (.type "type")) (h3 : PySem.W.subIn K t (.ref C) = some b) (h4 : b = true ∨ (t == .ref C) = false) : PySem.W.kitOne K t (.ref C) = some b := by
  unfold PySem.W.kitOne
  split
  · rename_i q
    rcases h4 with rfl | h4
    · rfl
    · rw [h4] at q; cases q
  · unfold PySem.W.kitCls
    have : ((PySem.W.clsIn K C).isSome && PySem.W.typeIn K (.ref C) == some (.type "type")) = true := by
      rw [Bool.and_eq_true]
      exact ⟨h1, beq_iff_eq.mpr h2⟩
    simp only [this, if_true]
    exact h3
theorem kit_ofT {K : PySem.W.Frag} {t : Value} {T : String} {b : Bool} (h1 : PySem.W.kitMeta T = true) (h3 : PySem.W.subIn K t (.type T) = some b) (h4 : b = true ∨ (t == .type T) = false) : PySem.W.kitOne K t (.type T) = some b := by
  unfold PySem.W.kitOne
  split
  · rename_i q
    rcases h4 with rfl | h4
    · rfl
    · rw [h4] at q; cases q
  · unfold PySem.W.kitCls
    simp only [h1, if_true]
    exact h3
end PM
set_option maxHeartbeats 1000000
/-! PM15: plain defs (no loops, nothing raised) called while an exception is handled. -/
namespace PM
open PySem PySem.Spec PyProof.Rows L2
theorem _root_.L2H.RoomH.units {k : Nat} {A : Around} (r : L2H.RoomH k A) : A.units + 64 < cLine := by have := r.un; omega
theorem _root_.L2H.RoomH.u65 {k : Nat} {A : Around} (r : L2H.RoomH k A) : A.units + 65 < cLine := by have := r.un; omega
theorem _root_.L2H.RoomH.u1 {k : Nat} {A : Around} (r : L2H.RoomH k A) : A.units + 1 < cLine := by have := r.un; omega
/-- nothing gets out -/
def CXn : CXT := fun _ _ _ _ _ _ => False
structure FnQ (P : Program) (w : World) (K : PySem.W.Frag) (mg : Str → Option Value) (base : Heap) (k : Nat) (f : Addr) (fd : FuncData) (ps : List Str) (sp : Sp) : Prop where
  len : ∀ vs H Q E, sp vs H Q E → vs.length = ps.length
  run : ∀ (A : Around) (outer : List PySem.Env) (s : Shared) (H : Hp) (args : Args) (us : List Value) (vs : List V) (Q : VK), L2H.RoomH k A → Env0 P w K mg base A outer s H → BindsTo s fd args (ps.zip us) → Vals vs us → sp vs H Q (fun _ _ _ => False) →
    codeAny (model P w) A (.call (.ref f) args) (CR CXn outer P w H s Q (fun _ _ _ => False)) s
section
variable {P : Program} {w : World} {K : PySem.W.Frag} {mg : Str → Option Value} {base : Heap} {cl : ClsP}
theorem fnq_ok {x qual : Str} {st : Stmt} {f : Addr} {fd : FuncData} {N ps : List Str} {lv k : Nat} {bm : List Bool} {body : Stm} (F : Fun K x qual st f fd) (Sc : FnScope N ps (defScope st)) (hbm : bm.length = ps.length) (hk : N.length = ps.length + k)
    (hbody : ∀ (cdv : Value) (A : Around) (outer : List PySem.Env) (s : Shared) (H : Hp) (p : Addr × Obj), L2H.RoomH lv (A.deeper (envOfC qual (defScope st) s.heap.objs.size f cdv)) →
      SSs (L2H.cxH CXn P w K mg base N qual (defScope st) f cdv A outer s H (fun _ _ _ => False) p) cl W0 (defBody st) body) : FnQ P w K mg base (lv + 1) f fd ps (spOf K cl bm (mkFn bm k body)) := by
  obtain ⟨oc, od, kV, doc, pm, an, cdv, ct, osl, rfl, lk, hcd⟩ := F.ex
  have hlen : ∀ vs H Q E, spOf K cl bm (mkFn bm k body) vs H Q E → vs.length = ps.length := fun vs H Q E ⟨G, S, ds, ok, so, p, q⟩ => (p.len.1).trans hbm
  refine ⟨hlen, fun A outer s H args us vs Q hr e0 hb r hsp => ?_⟩
  have hl := hlen _ _ _ _ hsp
  have inB := e0.mod.kin _ _ lk
  obtain ⟨inS, untr⟩ := e0.bs _ _ inB
  have KX : K.In s.heap := e0.mod.kin.keeps fun b o e => (e0.bs b o e).1
  have lim : s.heap.NoLimit := e0.mod.nolimit.keeps fun b o e => (e0.bs b o e).1
  have pin' : ∃ ob, L2H.PinOk outer H s (f, ob) := ⟨_, inS, untr, fun hm => (by have := (e0.funs.mem hm).1; rw [inB] at this; cases this), fun v z => (by cases z)⟩
  obtain ⟨ob, pin⟩ := pin'
  have kinds : ∀ y ∈ ps.zip us, (defScope st).names.lookup y.1 = some .local ∨ ((defScope st).names.lookup y.1 = some .cell ∧ ((cellsFrom (s.heap.objs.size + 1) (defScope st).names []).lookup y.1).isSome = true) := fun ⟨n, v⟩ hy =>
    (Sc.par n (List.of_mem_zip hy).1).elim .inl fun q => .inr ⟨q, PySem.W.cellsFrom_some _ _ _ (.inl q)⟩
  refine codeAny_call_function hr.depth inS rfl Sc.co Sc.gen rfl (PySem.W.codeRec_of KX hcd) (hb _ _ _ _ (wpAny_newFunctionEnv_cells Sc.kind kinds fun env he s1 x0 => ?_))
  subst he
  refine ⟨lim.keeps x0.toInCall.keep, codeAny_func ?_⟩
  obtain ⟨G, S, ds, ok, so, p, q⟩ := hsp
  have B := hbody cdv A outer s H (f, ob) (hr.deeper _)
  have I := L2H.inv_startH (CX := CXn) (qual := qual) (f := f) (cd := cdv) (E := fun _ _ _ => False) Sc pin e0 hl r x0
  have t : tS K cl W0 body { nx := fun _ H' => Q .non H', rt := Q } (L2.start N vs) H := by
    refine ⟨G, H, S, startE bm ds k, G, Rel.start ok so p (by rw [p.len.1, hbm, hk]; omega), ?_⟩
    unfold mkFn at q
    cases z : body (startE bm ds k) S with
    | nx ρ' S' => rw [z] at q; exact fun G' σ' H' R' _ => q .non _ H' R'.leave.1 out_only R'.leave.2 .non
    | rt v S' => rw [z] at q; exact q
    | exc n ρ' S' => rw [z] at q; exact fun G' σ' H' R' _ => q _ H' R'.leave.1 out_only R'.leave.2
    | bk ρ' S' => rw [z] at q; exact q.elim
    | ct ρ' S' => rw [z] at q; exact q.elim
    | stuck => rw [z] at q; exact q.elim
  refine wpAny_mono (B.run [] s1 (L2.start N vs) H _ I t) (fun fl s' hq => ?_) fun e s' hq => hq
  cases fl with
  | ret u =>
    obtain ⟨v, σ', H', J, rv, z⟩ := hq
    exact ⟨v, H', J.os, J.bare, J.base, J.hok, rv, z⟩
  | next =>
    obtain ⟨σ', H', J, z⟩ := hq
    exact ⟨.non, H', J.os, J.bare, J.base, J.hok, rfl, z⟩
  | brk => obtain ⟨_, _, _, z⟩ := hq; exact z.elim
  | cont => obtain ⟨_, _, _, z⟩ := hq; exact z.elim
end
def resQ (r : Res Val) : Res D := match r with
  | .ok (.fr d) S => .ok d S
  | .ok (.ow d) S => .ok d S
  | _ => .stuck
def eCallQ (m : Fn) (ca : Ax) : Ex := fun ρ S => (ca ρ S).bind fun ds S => resQ (m ds S)
section
variable {X : Cx} {cl : ClsP} {W : WX} {e : Expr} {es : List Expr} {pos : Pos} {k : Nat} {f : Addr} {fd : FuncData} {ps : List Str} {m : Fn} {bm : List Bool} {x : Str} {p : Pos} {ax : Ax}
def tCallQ (sp : Sp) (t : TA) : TE := fun σ H Q => t σ H fun vs H1 => sp vs H1 Q (fun _ _ _ => False)
theorem pe_callQ {sp : Sp} {t : TA} (F : FnQ X.prog X.w X.K X.mg X.base k f fd ps sp) (hr : L2H.RoomH k X.A) (hg : Gl X x) (hm : X.mg x = some (.ref f)) (hk : PySem.W.keepIn X.K (.ref f) = true) (hb : Binds X.K fd ps [])
    (ha : PA X (e :: es) t) (hdb : (x == ("__debug__" : Str)) = false := by decide) (he : starEach (e :: es) X.env = (false, eval e X.env) :: starEach es X.env := by rfl) (hpl : (backTo pos (starEach es X.env)).any (·.1) = false := by rfl) :
    PE X (.Call (.Name x p) (e :: es) [] pos) (tCallQ sp t) := by
  refine ⟨fun pins s σ H Q I h => wpAny_Call_Name_kw (ld_glob I hg hm ?_ hdb)⟩
  refine PySem.W.callWith_K (h₀ := X.base) I.ok.mod.kin hk (thn (ha.run pos pins s σ H _ I h) fun us s1 ⟨vs, H1, I1, r, q⟩ => ⟨I1.kIn, ?_⟩) he hpl
  have hl : us.length = ps.length := by rw [← r.length]; exact F.len _ _ _ _ q
  have b := hb s1 us I1.kIn (by rw [List.append_nil]; exact hl)
  rw [List.append_nil] at b
  refine wpAny_call (codeAny_mono (F.run X.A X.stack s1 H1 ⟨us, []⟩ us vs Q hr I1.env0 b r q) fun w s' hq => ?_)
  cases w with
  | error _ => exact hq.elim
  | ok fl =>
    cases fl with
    | ret u => exact I1.after hq
    | next => exact hq.elim
    | brk => exact hq.elim
    | cont => exact hq.elim
theorem se_callQ (F : FnQ X.prog X.w X.K X.mg X.base k f fd ps (spOf X.K cl bm m)) (hr : L2H.RoomH k X.A) (hg : Gl X x) (hm : X.mg x = some (.ref f)) (hk : PySem.W.keepIn X.K (.ref f) = true) (hb : Binds X.K fd ps []) (ha : SA X cl W bm (e :: es) ax)
    (hdb : (x == ("__debug__" : Str)) = false := by decide) (he : starEach (e :: es) X.env = (false, eval e X.env) :: starEach es X.env := by rfl) (hpl : (backTo pos (starEach es X.env)).any (·.1) = false := by rfl) : SE X cl W (.Call (.Name x p) (e :: es) [] pos) (eCallQ m ax) :=
  PE.weak (pe_callQ F hr hg hm hk hb ha hdb he hpl) fun σ H Q ⟨G0, H0, S, ρ, G, R, h⟩ => by
    refine tX.bind (Pa := PA1 X.K cl bm) pfM R h fun ds vs S1 G1 H1 R1 s1 p1 h1 => ?_
    refine ⟨G1.out, S1, ds, R1.leave.1, out_only, ArgsOk.out p1, ?_⟩
    have hF : Aft X.K cl (PF X.K cl) W0 G0 H0 ρ σ G1 H1 (resF (m ds S1)) Q := by
      cases z : m ds S1 with
      | ok v S' => cases v <;> (rw [z] at h1; exact h1)
      | exc n S' => rw [z] at h1; exact h1.elim
      | stuck => rw [z] at h1; exact h1.elim
    have := call_semF (W := W0) R1 hF
    exact this
end
end PM
/-! PM16: what is written at a place that is nobody's; a text appended to a new list that is then dropped. -/
namespace PM
open PySem PySem.Spec PyProof.Rows L2
section
variable {K : PySem.W.Frag} {cl : ClsP} {G0 G : Gh} {H0 H : Hp} {S : Store} {ρ : Env} {σ : L2.St} {p : Addr}
/-- a write at a place that is nobody's and was not there -/
theorem Rel.wnew (R : Rel K cl G0 H0 S ρ G σ H) (hl : G.lab p = none) (hz : G.Z p = none) (h0 : H0 p = none) (x : HO) : Rel K cl G0 H0 S ρ G σ (upd H p x) := by
  have ne : ∀ b l, G.lab b = some l → b ≠ p := fun b l e q => by subst q; rw [hl] at e; cases e
  have sm : ∀ b l, G.lab b = some l → ∀ o, H b = some o → upd H p x b = some o := fun b l e o h => by rw [upd_ne (ne b l e)]; exact h
  refine ⟨⟨fun b o e => ?_, fun b l e => ?_, fun n c e => (R.ok.st n c e).mono (fun b l e _ o h => sm b l e o h) (Same.refl _) (fun _ _ e _ => e) ⟨[], by simp⟩, R.ok.stn⟩, R.len, fun i s e => ?_, ?_, R.s0⟩
  · have : b ≠ p := fun q => by subst q; rw [hz] at e; cases e
    rw [upd_ne this]
    exact R.ok.zsub b o e
  · obtain ⟨h1, o, h2⟩ := R.ok.labz b l e
    exact ⟨h1, o, sm b l e o h2⟩
  · obtain ⟨o, h1, h2⟩ := R.slot i s e
    exact ⟨o, h1, h2.mono (fun b e o h => sm b _ e o h) (Same.refl _) (fun _ e => e) ⟨[], by simp⟩⟩
  · refine ⟨R.stp.z, R.stp.lab, fun b o e hb => ?_, R.stp.labn, R.stp.zn, R.stp.mu, fun b e => ?_⟩
    · have : b ≠ p := fun q => by subst q; rw [h0] at e; cases e
      rw [upd_ne this]
      exact R.stp.keep b o e hb
    · by_cases q : b = p
      · subst q; exact h0
      · rw [upd_ne q] at e
        exact R.stp.dom b e
end
section
variable {X : Cx} {cl : ClsP} {W : WX} {o : Expr} {c : Ex}
/-- o.append(text), o a new list that nobody holds -/
def sAppN (c : Ex) : Stm := sEx c fun d ρ S => match d with
  | .lst ds => if ds.length < 1000000 then .nx ρ S else .stuck
  | _ => .stuck
theorem ss_appN {x : Str} {j : Nat} {kp apos cpos pos : Pos} (he : SN X cl W o c)
    (hbase : attributeBase o ("append" : Str) X.env (eval o X.env) = eval o X.env := by rfl)
    (hline : (apos.endLine == cpos.line) = true := by rfl)
    (hsw : swapsWith (.Call (.Attribute o ("append" : Str) apos) [.Constant (.str x) j kp] [] cpos) none pos.line X.env = pure false := by rfl) :
    SS X cl W (.Expr (.Call (.Attribute o ("append" : Str) apos) [.Constant (.str x) j kp] [] cpos) pos) (sAppN c) :=
  PS.weak (ps_expr (pe_bm PySem.F.plainAttrs_list PySem.F.slot_list_append PySem.F.type_list_append mt_append he (pa_cons pe_str pa_nil) hbase (by rfl) hline (by rfl) (by rfl)) hsw) fun D σ H h =>
    sEx_sem h fun G0 H0 S' ρ G d v G' H' R' s0 s p q => by
      cases d <;> simp only [] at q <;> try exact q.elim
      rename_i ds
      obtain ⟨a, as, rfl, ⟨cc, n⟩, hn⟩ := p
      have ha : a ∈ as := cc.mem
      cases cc with
      | lst h1 r =>
        rename_i vs
        split at q
        · rename_i hl
          refine ⟨.inl ⟨rfl, vs, .inl (.inl h1)⟩, ?_⟩
          exact ⟨a, vs, .str x, rfl, rfl, h1, by rw [r.length]; exact lim_lt hl, q G' σ _ (R'.wnew (n a ha).1 (n a ha).2 (s0.dom a (hn a ha)) _) (Zle.refl _)⟩
        · exact q.elim
end
end PM
/-! PM17: dicts with nested keys, as data: {}, d[k], k in d, d.get(k, x), d[k] = v. -/
namespace PM
open PySem PySem.Spec PyProof.Rows L2
mutual
def D.nk : D → Option NestedKey
  | .int i => some (.num i)
  | .str x => some (.text x)
  | .tup ds => (D.nks ds).map .tup
  | _ => none
def D.nks : List D → Option (List NestedKey)
  | [] => some []
  | d :: ds => match D.nk d, D.nks ds with
    | some k, some ks => some (k :: ks)
    | _, _ => none
end
mutual
theorem D.nk_py : ∀ (d : D) (k : NestedKey), d.nk = some k → d.py = some k.data
  | .int _, _, e => by simp only [D.nk] at e; cases e; rfl
  | .str _, _, e => by simp only [D.nk] at e; cases e; rfl
  | .tup ds, k, e => by
    simp only [D.nk] at e
    cases q : D.nks ds with
    | none => rw [q] at e; cases e
    | some ks =>
      rw [q] at e
      cases e
      simp only [D.py, D.nks_py ds ks q, NestedKey.data]
      rfl
  | .non, _, e => by simp only [D.nk] at e; cases e
  | .bl _, _, e => by simp only [D.nk] at e; cases e
  | .lst _, _, e => by simp only [D.nk] at e; cases e
  | .dic _, _, e => by simp only [D.nk] at e; cases e
  | .obj _ _, _, e => by simp only [D.nk] at e; cases e
  | .rf _, _, e => by simp only [D.nk] at e; cases e
  | .scr _, _, e => by simp only [D.nk] at e; cases e
  | .exn _, _, e => by simp only [D.nk] at e; cases e
  | .dit _, _, e => by simp only [D.nk] at e; cases e
theorem D.nks_py : ∀ (ds : List D) (ks : List NestedKey), D.nks ds = some ks → D.pys ds = some (NestedKey.datas ks)
  | [], _, e => by simp only [D.nks] at e; cases e; rfl
  | d :: ds, _, e => by
    simp only [D.nks] at e
    cases q1 : d.nk with
    | none => rw [q1] at e; cases e
    | some k =>
      cases q2 : D.nks ds with
      | none => rw [q1, q2] at e; cases e
      | some ks =>
        rw [q1, q2] at e
        cases e
        simp only [D.pys, D.nk_py d k q1, D.nks_py ds ks q2, NestedKey.datas]
end
/-- a key: a tuple, at most eight deep -/
def D.nkey (d : D) : Option NestedKey := match d with
  | .tup ds => match D.nk (.tup ds) with
    | some k => if k.depth ≤ 8 then some k else none
    | none => none
  | _ => none
theorem D.nkey_nk {d : D} {k : NestedKey} (e : d.nkey = some k) : d.nk = some k ∧ k.depth ≤ 8 ∧ ∃ ds, d = .tup ds := by
  unfold D.nkey at e
  split at e
  · split at e
    · rename_i q
      split at e
      · cases e; exact ⟨q, by assumption, _, rfl⟩
      · cases e
    · cases e
  · cases e
section
variable {K : PySem.W.Frag} {cl : ClsP} {G : Gh} {H Z : Hp} {mu : List Addr} {v : V} {d : D} {k : NestedKey}
theorem Rep.nkey (hz : Same Z H) (h : Rep K cl mu Z v d) (e : d.nkey = some k) : ∃ b, v = .ref b ∧ KeyAt K H k b := by
  obtain ⟨e1, e2, ds, rfl⟩ := D.nkey_nk e
  have hd := Rep.dp hz _ v _ h (D.nk_py _ _ e1)
  cases h with
  | tup h1 h2 => exact ⟨_, rfl, hd, e2⟩
theorem RepT.nkey (h : RepT K cl G H v d) (zs : Same G.Z H) (e : d.nkey = some k) : ∃ b, v = .ref b ∧ KeyAt K H k b := by
  obtain ⟨e1, e2, ds, rfl⟩ := D.nkey_nk e
  rcases h with h | ⟨a, as, _, c, _⟩
  · exact Rep.nkey zs h e
  · cases c
def valN (ds : List (NestedKey × D)) (k : NestedKey) : Option D := (ds.find? fun kv => decide (kv.1 = k)).map (·.2)
def hasN (ds : List (NestedKey × D)) (k : NestedKey) : Bool := ds.any fun kv => decide (kv.1 = k)
def putND (ds : List (NestedKey × D)) (k : NestedKey) (d : D) : List (NestedKey × D) := if hasN ds k = true then ds.map (fun kv => if kv.1 = k then (kv.1, d) else kv) else ds ++ [(k, d)]
theorem RepN.keys : ∀ {vs : List NRow} {ds : List (NestedKey × D)}, RepN K cl mu Z vs ds → ∀ x ∈ vs, KeyAt K Z x.1 x.2.1
  | _, _, .nil, x, hx => nomatch hx
  | _, _, .cons h1 _ t, x, hx => by
    rcases List.mem_cons.mp hx with rfl | hx
    · exact h1
    · exact RepN.keys t x hx
theorem RepN.has : ∀ {vs : List NRow} {ds : List (NestedKey × D)}, RepN K cl mu Z vs ds → (atN vs k).isSome = hasN ds k
  | _, _, .nil => rfl
  | _, _, @RepN.cons _ _ _ _ k' b' v' vs d' ds h1 r t => by
    have ih := RepN.has t
    unfold atN hasN at ih ⊢
    rw [List.find?_cons, List.any_cons]
    by_cases h : k' = k
    · simp [h]
    · rw [decide_eq_false h]
      simpa using ih
theorem RepN.val : ∀ {vs : List NRow} {ds : List (NestedKey × D)} {d : D}, RepN K cl mu Z vs ds → valN ds k = some d → ∃ v, atN vs k = some v ∧ Rep K cl mu Z v d
  | _, _, _, .nil, e => by simp [valN] at e
  | _, _, d, @RepN.cons _ _ _ _ k' b' v' vs d' ds h1 r t, e => by
    have ih := fun e => RepN.val (d := d) t e
    unfold valN atN at *
    rw [List.find?_cons] at e ⊢
    by_cases h : k' = k
    · simp only [h, decide_true] at e ⊢
      cases e
      exact ⟨v', rfl, r⟩
    · simp only [h, decide_false] at e ⊢
      exact ih e
theorem valN_has {ds : List (NestedKey × D)} : (valN ds k).isSome = hasN ds k := by
  induction ds with
  | nil => rfl
  | cons p ds ih =>
    unfold valN hasN at ih ⊢
    rw [List.find?_cons, List.any_cons]
    by_cases h : p.1 = k
    · simp [h]
    · rw [decide_eq_false h]
      simpa using ih
theorem RepN.append : ∀ {vs ws : List NRow} {ds es : List (NestedKey × D)}, RepN K cl mu Z vs ds → RepN K cl mu Z ws es → RepN K cl mu Z (vs ++ ws) (ds ++ es)
  | _, _, _, _, .nil, t => t
  | _, _, _, _, .cons h1 r s, t => .cons h1 r (RepN.append s t)
theorem RepN.repl (rv : Rep K cl mu Z v d) : ∀ {vs : List NRow} {ds : List (NestedKey × D)}, RepN K cl mu Z vs ds → RepN K cl mu Z (vs.map fun x => if x.1 = k then (x.1, x.2.1, v) else x) (ds.map fun kv => if kv.1 = k then (kv.1, d) else kv)
  | _, _, .nil => .nil
  | _, _, @RepN.cons _ _ _ _ k' b' v' vs d' ds h1 r t => by
    rw [List.map_cons, List.map_cons]
    by_cases h : k' = k
    · rw [if_pos h, if_pos h]; exact .cons h1 rv (RepN.repl rv t)
    · rw [if_neg h, if_neg h]; exact .cons h1 r (RepN.repl rv t)
theorem RepN.put {b : Addr} (hk : KeyAt K Z k b) (rv : Rep K cl mu Z v d) {vs : List NRow} {ds : List (NestedKey × D)} (r : RepN K cl mu Z vs ds) : RepN K cl mu Z (putN vs k b v) (putND ds k d) := by
  unfold putN putND
  rw [r.has]
  split
  · exact r.repl rv
  · exact r.append (.cons hk rv .nil)
theorem OwnAt.dit {l : Lab} {ds : List (NestedKey × D)} (h : OwnAt K cl G H l v (.dit ds)) : ∃ a vs, v = .ref a ∧ H a = some (nestO cl.P cl.w a vs) ∧ RepN K cl G.mu G.Z vs ds ∧ G.lab a = some l := by
  obtain ⟨a, as, rfl, c, hl⟩ := h
  cases c with
  | dit h1 r => exact ⟨a, _, rfl, h1, r, hl a (by simp)⟩
end
section
variable {X : Cx} {cl : ClsP} {W : WX} {a b e : Expr} {ca cb c : Ex} {pos : Pos}
theorem ndict_of {K : PySem.W.Frag} {cl : ClsP} {P : Program} {w : World} {G : Gh} {H : Hp} {p : Addr} {vs : List NRow} {ds : List (NestedKey × D)} (hP : cl.P = P) (hw : cl.w = w) (zs : Same G.Z H) (h : H p = some (nestO cl.P cl.w p vs)) (r : RepN K cl G.mu G.Z vs ds) : NDict P w K H p vs := by
  subst hP hw
  exact ⟨h, fun x hx => KeyAt.mono' zs (r.keys x hx)⟩
def eDit0 : Ex := fun _ S => .ok (.dit []) S
theorem sn_dit0 (hP : cl.P = X.prog) (hw : cl.w = X.w) : SN X cl W (.Dict [] [] pos) eDit0 := PE.weak pe_dnewN fun σ H Q ⟨G0, H0, S, ρ, G, R, h⟩ p hp => by
  obtain ⟨R', s', n⟩ := R.newN hp (vs := []) (ds := []) .nil
  rw [← hP, ← hw]
  exact h _ _ _ R' s' ⟨p, [p], rfl, n, fun b hb => by simp at hb; subst hb; exact hp⟩
def oTget : D → D → Option D
  | .dit ds, d => match d.nkey with
    | some k => valN ds k
    | none => none
  | _, _ => none
theorem se_tget (hP : cl.P = X.prog) (hw : cl.w = X.w) (hu : X.A.units + 9 < cLine) (ha : SB X cl W a ca) (hb : SB X cl W b cb) (hs : NoSl b := by intro _ _; rfl) : SE X cl W (.Subscript a b pos) (eBin oTget ca cb) := PE.weak (pe_nget hu ha hb hs) fun σ H Q ⟨G0, H0, S, ρ, G, R, h⟩ => by
  refine tX.bind (Pa := PB X.K cl) pfM R h fun d x S1 G1 H1 R1 s1 p1 h1 => ?_
  refine tX.bind (Pa := PB X.K cl) pfM R1 h1 fun e y S2 G2 H2 R2 s2 p2 h2 => ?_
  cases d <;> simp only [oTget, Res.opt, Aft] at h2
  rename_i ds
  cases q : e.nkey with
  | none => simp only [q] at h2
  | some k =>
    simp only [q] at h2
    cases q2 : valN ds k with
    | none => simp only [q2] at h2
    | some z =>
      simp only [q2] at h2
      obtain ⟨p, vs, rfl, h3, r3⟩ := RepT.dit (RepT.stp p1 s2) R2.ok.zsub
      obtain ⟨b, rfl, hk⟩ := RepT.nkey p2 R2.ok.zsub q
      obtain ⟨v, hv, rv⟩ := r3.val q2
      exact ⟨p, b, vs, k, v, rfl, rfl, ndict_of hP hw R2.ok.zsub h3 r3, hk, hv, h2 _ G2 H2 R2 (Stp.refl _ _) rv⟩
def oTin (neg : Bool) : D → D → Option D
  | d, .dit ds => (d.nkey).map fun k => .bl (if neg then !hasN ds k else hasN ds k)
  | _, _ => none
theorem tin_sem {neg : Bool} {σ : L2.St} {H : Hp} {Q : VK} (hP : cl.P = X.prog) (hw : cl.w = X.w) (h : tX X.K cl (PF X.K cl) W (eBin (oTin neg) ca cb) σ H Q) :
    tNIn X.prog X.w X.K neg (tX X.K cl (PB X.K cl) W ca) (tX X.K cl (PB X.K cl) W cb) σ H Q := by
  obtain ⟨G0, H0, S, ρ, G, R, h⟩ := h
  refine tX.bind (Pa := PB X.K cl) pfM R h fun d y S1 G1 H1 R1 s1 p1 h1 => ?_
  refine tX.bind (Pa := PB X.K cl) pfM R1 h1 fun e x S2 G2 H2 R2 s2 p2 h2 => ?_
  cases e <;> simp only [oTin, Res.opt, Aft] at h2
  rename_i ds
  cases q : d.nkey with
  | none => rw [q] at h2; exact h2.elim
  | some k =>
    rw [q] at h2
    obtain ⟨p, vs, rfl, h3, r3⟩ := RepT.dit p2 R2.ok.zsub
    obtain ⟨b, rfl, hk⟩ := RepT.nkey (RepT.stp p1 s2) R2.ok.zsub q
    refine ⟨p, b, vs, k, rfl, rfl, ndict_of hP hw R2.ok.zsub h3 r3, hk, ?_⟩
    rw [r3.has]
    exact h2 _ G2 H2 R2 (Stp.refl _ _) (.bl _)
theorem bls_tin {neg : Bool} : Bls (oTin neg) := fun d e z h => by
  cases e <;> simp only [oTin, reduceCtorEq] at h
  cases q : d.nkey with
  | none => rw [q] at h; cases h
  | some k => rw [q] at h; cases h; exact ⟨_, rfl⟩
theorem se_tin (hP : cl.P = X.prog) (hw : cl.w = X.w) (hu : X.A.units + 9 < cLine) (ha : SB X cl W a ca) (hb : SB X cl W b cb) (hm : behindInMarks .In b = false := by rfl) : SE X cl W (.Compare a [.In] [b] pos) (eBin (oTin false) ca cb) :=
  PE.weak (pe_cmp (pc_nin hu ha hb) hm) fun σ H Q h => tin_sem hP hw h
theorem se_tnin (hP : cl.P = X.prog) (hw : cl.w = X.w) (hu : X.A.units + 9 < cLine) (ha : SB X cl W a ca) (hb : SB X cl W b cb) (hm : behindInMarks .NotIn b = false := by rfl) : SE X cl W (.Compare a [.NotIn] [b] pos) (eBin (oTin true) ca cb) :=
  PE.weak (pe_cmp (pc_nnotin hu ha hb) hm) fun σ H Q h => tin_sem hP hw h
theorem st_tin (hP : cl.P = X.prog) (hw : cl.w = X.w) (hu : X.A.units + 9 < cLine) (ha : SB X cl W a ca) (hb : SB X cl W b cb) (hm : behindInMarks .In b = false := by rfl) : STt X cl W (.Compare a [.In] [b] pos) (eTr (eBin (oTin false) ca cb)) :=
  PT.weak (pt_cmp (pc_nin hu ha hb) hm) fun σ H Q h => by
    have h2 := tin_sem (Q := fun x H' => ∃ k, x = .bl k ∧ Q k H') hP hw (test_of bls_tin h)
    exact h2
theorem st_tnin (hP : cl.P = X.prog) (hw : cl.w = X.w) (hu : X.A.units + 9 < cLine) (ha : SB X cl W a ca) (hb : SB X cl W b cb) (hm : behindInMarks .NotIn b = false := by rfl) : STt X cl W (.Compare a [.NotIn] [b] pos) (eTr (eBin (oTin true) ca cb)) :=
  PT.weak (pt_cmp (pc_nnotin hu ha hb) hm) fun σ H Q h => by
    have h2 := tin_sem (Q := fun x H' => ∃ k, x = .bl k ∧ Q k H') hP hw (test_of bls_tin h)
    exact h2
/-- d.get(k, x) -/
def oTgetD : D → D → D → Option D
  | .dit ds, e, z => (e.nkey).map fun k => (valN ds k).getD z
  | _, _, _ => none
def eGetN (ca cb cc : Ex) : Ex := fun ρ S => (ca ρ S).bind fun d S => match d with
  | .dit ds => (cb ρ S).bind fun e S => (cc ρ S).bind fun z S => Res.opt (oTgetD (.dit ds) e z) S
  | _ => .stuck
theorem RepN.getD {K : PySem.W.Frag} {mu : List Addr} {Z : Hp} {vs : List NRow} {ds : List (NestedKey × D)} {k : NestedKey} {z : D} {v : V} (r : RepN K cl mu Z vs ds) (rv : Rep K cl mu Z v z) : Rep K cl mu Z ((atN vs k).getD v) ((valN ds k).getD z) := by
  cases q : valN ds k with
  | none =>
    have h : (atN vs k).isSome = false := by rw [r.has, ← valN_has, q]; rfl
    cases q2 : atN vs k with
    | none => exact rv
    | some y => rw [q2] at h; cases h
  | some d =>
    obtain ⟨y, hy, ry⟩ := r.val q
    rw [hy]
    exact ry
theorem se_tgetor {f o : Expr} {co cf ce : Ex} {apos cpos : Pos} (hP : cl.P = X.prog) (hw : cl.w = X.w) (hu : X.A.units + 9 < cLine) (ho : SB X cl W o co) (he : SB X cl W e ce) (hf : SE X cl W f cf) (m : M2 X o "get" apos e f cpos) : SE X cl W (.Call (.Attribute o "get" apos) [e, f] [] cpos) (eGetN co ce cf) := PE.weak (pe_ngetor hu ho he hf m) fun σ H Q ⟨G0, H0, S, ρ, G, R, h⟩ => by
  refine tX.bind (Pa := PB X.K cl) pfM R h fun d x S1 G1 H1 R1 s1 p1 h1 => ?_
  cases d <;> simp only [Aft] at h1
  rename_i ds
  obtain ⟨p, vs, rfl, h3, r3⟩ := RepT.dit p1 R1.ok.zsub
  refine ⟨p, vs, rfl, ndict_of hP hw R1.ok.zsub h3 r3, ?_⟩
  refine tX.bind (Pa := PB X.K cl) pfM R1 h1 fun e y S2 G2 H2 R2 s2 p2 h2 => ?_
  refine tX.bind (Pa := PF X.K cl) pfM R2 h2 fun z w S3 G3 H3 R3 s3 p3 h4 => ?_
  simp only [oTgetD] at h4
  cases q : e.nkey with
  | none => simp only [q, Option.map_none, Res.opt, Aft] at h4
  | some k =>
    simp only [q, Option.map_some, Res.opt, Aft] at h4
    obtain ⟨p', vs', e', h3', r3'⟩ := RepT.dit (RepT.stp p1 (s2.trans s3)) R3.ok.zsub
    cases e'
    obtain ⟨b, rfl, hk⟩ := RepT.nkey (RepT.stp p2 s3) R3.ok.zsub q
    exact ⟨b, vs', k, rfl, ndict_of hP hw R3.ok.zsub h3' r3', hk, h4 _ G3 H3 R3 (Stp.refl _ _) (r3'.getD p3)⟩
/-- d[k] = e, d an owned dict -/
def sPutN (i : Nat) (ci c : Ex) : Stm := fun ρ S => match ρ[i]? with
  | some (.ow (.dit ds)) => sEx c (fun d ρ S => sEx ci (fun k ρ S => match k.nkey with
    | some j => if ds.length < 1000000 then .nx (ρ.set i (.ow (.dit (putND ds j d)))) S else .stuck
    | none => .stuck) ρ S) ρ S
  | _ => .stuck
theorem ss_nput {i : Nat} {x : Str} {k : Expr} {p pos' : Pos} {ck : Ex} (hP : cl.P = X.prog) (hw : cl.w = X.w) (hu : X.A.units + 9 < cLine) (hv : PE X (.Name x p) (tVar i)) (hk : SE X cl W k ck) (he : SE X cl W e c) (hs : swapsWith e (some (.Subscript (.Name x p) k pos')) pos.line X.env = pure false := by rfl) : SS X cl W (.Assign [.Subscript (.Name x p) k pos'] e pos) (sPutN i ck c) :=
  PS.weak (ps_nput hu hv hk he hs) fun D σ H ⟨G0, H0, S, ρ, G, R, h⟩ => by
    unfold sPutN at h
    split at h
    · rename_i ds q
      refine sEx_at (P := PF X.K cl) R h fun S1 d v G1 H1 R1 st1 p1 q1 => ?_
      obtain ⟨o, ho, w, rfl, ow⟩ := R1.slot i _ q
      obtain ⟨a, vs, rfl, h1, r1, l1⟩ := ow.dit
      refine ⟨_, ho, sEx_at (P := PF X.K cl) R1 q1 fun S2 kd kv G2 H2 R2 st2 p2 q2 => ?_⟩
      obtain ⟨o', ho', w', rfl, ow'⟩ := R2.slot i _ q
      rw [ho] at ho'
      cases ho'
      obtain ⟨a', vs', e', h1', r1', l1'⟩ := ow'.dit
      cases e'
      cases q3 : kd.nkey with
      | none => rw [q3] at q2; exact q2.elim
      | some j =>
        rw [q3] at q2
        simp only at q2
        split at q2
        · rename_i hz
          obtain ⟨b, rfl, hkz⟩ := Rep.nkey (Same.refl _) p2 q3
          refine ⟨a, b, vs', j, rfl, rfl, ndict_of hP hw R2.ok.zsub h1' r1', KeyAt.mono' R2.ok.zsub hkz, by rw [r1'.length]; exact lim_lt hz, ?_⟩
          rw [← hP, ← hw]
          exact q2 G2 σ _ (R2.write (as := [a]) ho (fun b hb => by simp at hb; subst hb; exact l1') (by simp) (.dit upd_same (RepN.put hkz (RepG.stp st2 p1) r1'))) (Zle.refl _)
        · exact q2.elim
    · exact h.elim
end
theorem _root_.L2.Room.u9 {k : Nat} {A : Around} (r : Room k A) : A.units + 9 < cLine := by have := r.un; omega
end PM
/-! PM18: list(reversed(a list)). -/
namespace PM
open PySem PySem.Spec PyProof.Rows L2
section
variable {X : Cx} {cl : ClsP} {W : WX} {a : Expr} {ca : Ex}
def eLstRev (ca : Ex) : Ex := fun ρ S => (ca ρ S).bind fun d S => match d with
  | .lst xs => .ok (.lst xs.reverse) S
  | _ => .stuck
theorem sn_lstRev {p p2 pos2 pos : Pos} (hc : X.calm = true) (hg : Gl X "list") (hm : X.mg "list" = none) (hg2 : Gl X "reversed") (hm2 : X.mg "reversed" = none) (ha : SB X cl W a ca)
    (na : starEach [a] X.env = (false, eval a X.env) :: starEach [] X.env := by rfl)
    (hs : starEach [.Call (.Name "reversed" p2) [a] [] pos2] X.env = (false, eval (.Call (.Name "reversed" p2) [a] [] pos2) X.env) :: starEach [] X.env := by rfl) : SN X cl W (.Call (.Name "list" p) [.Call (.Name "reversed" p2) [a] [] pos2] [] pos) (eLstRev ca) := PE.weak (pe_lstRev hc hg hm hg2 hm2 ha na hs) fun σ H Q ⟨G0, H0, S, ρ, G, R, h⟩ => by
  refine tX.bind (Pa := PB X.K cl) pnM R h fun d v S1 G1 H1 R1 s1 p1 h1 => ?_
  cases d <;> simp only [Aft] at h1
  obtain ⟨a1, vs, rfl, hl1, r1⟩ := RepT.lst p1 R1.ok.zsub
  refine ⟨a1, vs, rfl, .inl (.inl hl1), fun l hl => ?_⟩
  obtain ⟨R', s', nn⟩ := R1.newL hl r1.reverse
  exact h1 _ _ _ R' s' ⟨l, [l], rfl, nn, fun b hb => by simp at hb; subst hb; exact hl⟩
end
end PM
/-! PM19: texts joined and split; what is never come to. -/
namespace PM
open PySem PySem.Spec PyProof.Rows L2
def strsOf : List D → Option (List Str)
  | [] => some []
  | .str x :: r => (strsOf r).map (x :: ·)
  | _ => none
theorem strsOf_map : ∀ (ys : List Str), strsOf (ys.map D.str) = some ys
  | [] => rfl
  | y :: r => by simp only [List.map_cons, strsOf, strsOf_map r, Option.map_some]
theorem strsOf_rep {K : PySem.W.Frag} {cl : ClsP} {mu : List Addr} {Z : Hp} : ∀ {ds : List D} {vs : List V} {ys : List Str}, strsOf ds = some ys → RepAll K cl mu Z vs ds → vs = ys.map V.str
  | [], _, _, e, h => by cases e; cases h; rfl
  | d :: ds, _, ys, e, h => by
    cases h with
    | cons h1 h2 =>
      cases d <;> simp only [strsOf, reduceCtorEq] at e
      rename_i x
      cases q : strsOf ds with
      | none => rw [q] at e; cases e
      | some zs =>
        rw [q] at e
        cases e
        cases h1
        rw [strsOf_rep q h2]
        rfl
def joinD (a : Str) (ds : List D) : Option D := (strsOf ds).bind fun ys => if (ys.map (·.length)).sum + ys.length * a.length ≤ 16777216 then some (.str (Txt.join a ys)) else none
def eJoin (co ce : Ex) : Ex := fun ρ S => (co ρ S).bind fun d S => match d with
  | .str a => (ce ρ S).bind fun e S => (match e with
    | .lst ds => Res.opt (joinD a ds) S
    | .tup ds => Res.opt (joinD a ds) S
    | _ => .stuck)
  | _ => .stuck
theorem joinD_some {a : Str} {ds : List D} {z : D} (h : joinD a ds = some z) : ∃ ys, strsOf ds = some ys ∧ (ys.map (·.length)).sum + ys.length * a.length ≤ 16777216 ∧ z = .str (Txt.join a ys) := by
  unfold joinD at h
  cases q : strsOf ds with
  | none => rw [q] at h; cases h
  | some ys =>
    rw [q, Option.bind_some] at h
    split at h
    · cases h; exact ⟨ys, rfl, by assumption, rfl⟩
    · cases h
def splitD (a b : Str) : Option (List Str) := if (b.length == 0) = false ∧ a.length + 2 ≤ 16777216 then some (Txt.split a b) else none
def eSplit (co ce : Ex) : Ex := fun ρ S => (co ρ S).bind fun d S => match d with
  | .str a => (ce ρ S).bind fun e S => (match e with
    | .str b => (match splitD a b with
      | some ys => .ok (.lst (ys.map D.str)) S
      | none => .stuck)
    | _ => .stuck)
  | _ => .stuck
def sStuck : Stm := fun _ _ => .stuck
/-! a text times a number -/
def rRepS2 : R2 := fun x y H Q => ∃ (i : Str) (k : Int), x = .str i ∧ y = .int k ∧ (-1000 ≤ k ∧ k ≤ 1000) ∧ i.length ≤ 1000 ∧ Q (.str (Txt.mul i k)) H
theorem op_repS2 {X : Cx} : OpR X (binaryOp .Mult) rRepS2 := by
  intro pins s σ H x y v u Q I rx ry h
  obtain ⟨i, k, rfl, rfl, hk, hl, q⟩ := h
  obtain ⟨t, rfl⟩ := rx
  obtain ⟨t2, rfl⟩ := ry
  exact PySem.SB.mul (mulOk_of 1000 1000 hl hk.2 (by have := hk.1; omega) (by decide) (by decide)) fun t' tk => ⟨.str (Txt.mul i k), H, I.kept (t' := tk) (fun _ _ e => e), ⟨_, rfl⟩, q⟩
def gRepS (x : Str) (k : Int) : Option Str := if (-1000 ≤ k ∧ k ≤ 1000) ∧ x.length ≤ 1000 then some (Txt.mul x k) else none
def oRepS (d e : D) : Option D := match d, e with
  | .str x, .int k => (gRepS x k).map D.str
  | _, _ => none
theorem oo_repS {x : Str} {j : Int} {z : Str} (h : gRepS x j = some z) : oRepS (.str x) (.int j) = some (.str z) := by simp only [oRepS, h, Option.map_some]
theorem os_repS {X : Cx} {cl : ClsP} : OpS X cl rRepS2 oRepS (PF X.K cl) := fun {G0 H0 S ρ G σ H x y d e z Q} R p1 p2 q k => by
  cases d <;> cases e <;> simp only [oRepS, reduceCtorEq] at q
  rename_i xs j
  unfold gRepS at q
  split at q
  · rename_i hz
    cases q
    cases RepT.str p1
    have e2 := p2.int
    subst e2
    exact ⟨xs, j, rfl, rfl, hz.1, hz.2, k _ G H R (Stp.refl _ _) (.str _)⟩
  · cases q
section
variable {X : Cx} {cl : ClsP} {W : WX} {o e : Expr} {co ce : Ex} {apos pos : Pos} {st : Stmt} {body : List Stmt}
theorem se_join (ho : SB X cl W o co) (he : SB X cl W e ce) (hs : starEach [e] X.env = [(false, eval e X.env)] := by rfl) (hbase : attributeBase o "join" X.env (eval o X.env) = eval o X.env := by rfl) (hline : (apos.endLine == pos.line) = true := by rfl) :
    SE X cl W (.Call (.Attribute o "join" apos) [e] [] pos) (eJoin co ce) := PE.weak (pe_join ho he hs hbase hline) fun σ H Q ⟨G0, H0, S, ρ, G, R, h⟩ => by
  refine tX.bind (Pa := PB X.K cl) pfM R h fun d x S1 G1 H1 R1 s1 p1 h1 => ?_
  cases d <;> simp only [Aft] at h1
  rename_i a
  cases RepT.str p1
  refine ⟨⟨a, rfl⟩, ?_⟩
  refine tX.bind (Pa := PB X.K cl) pfM R1 h1 fun e y S2 G2 H2 R2 s2 p2 h2 => ?_
  cases e <;> simp only [Aft] at h2
  · rename_i ds
    obtain ⟨p, vs, rfl, h3, r3⟩ := RepT.lst p2 R2.ok.zsub
    cases q : joinD a ds with
    | none => rw [q] at h2; exact h2.elim
    | some z =>
      rw [q] at h2
      obtain ⟨ys, q1, q2, rfl⟩ := joinD_some q
      have e3 := strsOf_rep q1 r3
      subst e3
      exact ⟨a, p, ys, rfl, rfl, .inl (.inl (.inl h3)), q2, h2 _ G2 H2 R2 (Stp.refl _ _) (.str _)⟩
  · rename_i ds
    obtain ⟨p, vs, rfl, h3, r3⟩ := RepT.tup p2 R2.ok.zsub
    cases q : joinD a ds with
    | none => rw [q] at h2; exact h2.elim
    | some z =>
      rw [q] at h2
      obtain ⟨ys, q1, q2, rfl⟩ := joinD_some q
      have e3 := strsOf_rep q1 r3
      subst e3
      exact ⟨a, p, ys, rfl, rfl, .inr h3, q2, h2 _ G2 H2 R2 (Stp.refl _ _) (.str _)⟩
theorem sn_split (ho : SB X cl W o co) (he : SB X cl W e ce) (hs : starEach [e] X.env = [(false, eval e X.env)] := by rfl) (hbase : attributeBase o "split" X.env (eval o X.env) = eval o X.env := by rfl) (hline : (apos.endLine == pos.line) = true := by rfl) :
    SN X cl W (.Call (.Attribute o "split" apos) [e] [] pos) (eSplit co ce) := PE.weak (pe_split ho he hs hbase hline) fun σ H Q ⟨G0, H0, S, ρ, G, R, h⟩ => by
  refine tX.bind (Pa := PB X.K cl) pnM R h fun d x S1 G1 H1 R1 s1 p1 h1 => ?_
  cases d <;> simp only [Aft] at h1
  rename_i a
  cases RepT.str p1
  refine ⟨⟨a, rfl⟩, ?_⟩
  refine tX.bind (Pa := PB X.K cl) pnM R1 h1 fun e y S2 G2 H2 R2 s2 p2 h2 => ?_
  cases e <;> simp only [Aft] at h2
  rename_i b
  cases RepT.str p2
  cases q : splitD a b with
  | none => rw [q] at h2; exact h2.elim
  | some ys =>
    rw [q] at h2
    unfold splitD at q
    split at q
    · rename_i hq
      cases q
      refine ⟨a, b, rfl, rfl, hq.1, hq.2, fun l hl => ?_⟩
      obtain ⟨R', s', nn⟩ := R2.newL hl (RepAll.strs (K := X.K) (cl := cl) (Txt.split a b))
      exact h2 _ _ _ R' s' ⟨l, [l], rfl, nn, fun b hb => by simp at hb; subst hb; exact hl⟩
    · cases q
theorem se_repS {a b : Expr} {ca cb : Ex} (ha : SB X cl W a ca) (hb : SB X cl W b cb) : SE X cl W (.BinOp a .Mult b pos) (eBin oRepS ca cb) := sx_bin pfM op_repS2 os_repS ha hb
theorem sss_stuck : SSs X cl W body sStuck := ⟨fun pins s σ H D I ⟨G0, H0, S, ρ, G, R, h⟩ => h.elim⟩
end
end PM
set_option maxHeartbeats 1000000
/-! PM20: a list that a name owns, of lists that it owns too (D.nst). -/
namespace PM
open PySem PySem.Spec PyProof.Rows L2
section
variable {K : PySem.W.Frag} {cl : ClsP} {W : WX} {G0 G G' G'' G1 : Gh} {H0 H H' H'' H1 : Hp} {S S' : Store} {ρ ρ' : Env} {σ : L2.St} {v : V} {d : D} {a b p : Addr} {as bs : List Addr} {i j : Nat} {mu : List Addr} {Z : Hp} {ds es : List D} {vs : List V}
theorem Rep.flat (h : Rep K cl mu Z v (.nst ds)) : Rep K cl mu Z v (.lst ds) := by
  cases h with
  | nst h r => exact .lst h r
theorem OwnAt.nst {l : Lab} (h : OwnAt K cl G H l v (.nst ds)) : ∃ a bs, v = .ref a ∧ H a = some (.lst (bs.map .ref)) ∧ Inn K cl G.mu G.Z H bs ds ∧ (a :: bs).Nodup ∧ ∀ b ∈ a :: bs, G.lab b = some l := by
  obtain ⟨a, as, rfl, c, hl⟩ := h
  cases c with
  | nst h1 r n => exact ⟨a, _, rfl, h1, r, n, hl⟩
/-- what is written at one of its places -/
theorem Rel.writeAt (R : Rel K cl G0 H0 S ρ G σ H) (e : σ[i]? = some (some (.ref a))) (hl : ∀ b ∈ as, G.lab b = some (.slot i)) (hp : p ∈ as) {o' : HO} {d' : D} (c : ContG K cl G (upd H p o') a d' as) : Rel K cl G0 H0 S (ρ.set i (.ow d')) G σ (upd H p o') := by
  have la := hl p hp
  have oth : ∀ b l, G.lab b = some l → l ≠ .slot i → ∀ o, H b = some o → upd H p o' b = some o := fun b l h hne o ho => by
    rw [upd_ne fun q => by subst q; rw [la] at h; cases h; exact hne rfl]
    exact ho
  have zs : Same G.Z (upd H p o') := fun b o h => by
    rw [upd_ne fun q => by subst q; rw [(R.ok.labz _ _ la).1] at h; cases h]
    exact R.ok.zsub b o h
  refine ⟨⟨zs, fun b l h => ?_, fun n c e => (R.ok.st n c e).mono (fun b l h hs o ho => oth b l h (fun q => by subst q; simp [Lab.st] at hs) o ho) (Same.refl _) (fun _ _ e _ => e) ⟨[], by simp⟩, R.ok.stn⟩, by rw [List.length_set]; exact R.len, fun j s h => ?_, ⟨R.stp.z, R.stp.lab, fun b o h hs => ?_, R.stp.labn, R.stp.zn, R.stp.mu, fun b h => ?_⟩, R.s0⟩
  · obtain ⟨h1, o, h2⟩ := R.ok.labz b l h
    refine ⟨h1, ?_⟩
    by_cases q : b = p
    · subst q; exact ⟨_, upd_same⟩
    · exact ⟨o, by rw [upd_ne q]; exact h2⟩
  · by_cases ej : j = i
    · subst ej
      have hlt : j < ρ.length := by rw [R.len]; exact (List.getElem?_eq_some_iff.mp e).1
      rw [List.getElem?_set_self hlt] at h
      cases h
      exact ⟨_, e, _, rfl, a, as, rfl, c, hl⟩
    · rw [List.getElem?_set_ne (Ne.symm ej)] at h
      obtain ⟨o, h1, h2⟩ := R.slot j s h
      exact ⟨o, h1, h2.mono (fun b h o ho => oth b _ h (by intro q; cases q; exact ej rfl) o ho) (Same.refl _) (fun _ e => e) ⟨[], by simp⟩⟩
  · rw [upd_ne fun q => by subst q; rw [R.ownNew la] at h; cases h]
    exact R.stp.keep b o h hs
  · by_cases q : b = p
    · subst q; rw [upd_same] at h; cases h
    · rw [upd_ne q] at h; exact R.stp.dom b h
/-- new things become a slot's -/
theorem Rel.adopt (R : Rel K cl G0 H0 S ρ G σ H) (i : Nat) (q : ∀ b ∈ as, G.lab b = none ∧ G.Z b = none) (hn : ∀ b ∈ as, H0 b = none) (he : ∀ b ∈ as, ∃ o, H b = some o) : Rel K cl G0 H0 S ρ (G.own as (.slot i)) σ H := by
  have lab : ∀ b l, G.lab b = some l → (G.own as (.slot i)).lab b = some l := fun b l e => by
    rw [own_out fun hb => by rw [(q b hb).1] at e; cases e]
    exact e
  have labn : ∀ b l, (G.own as (.slot i)).lab b = some l → G.lab b = some l ∨ b ∈ as := fun b l e => by
    by_cases hb : b ∈ as
    · exact .inr hb
    · rw [own_out hb] at e; exact .inl e
  refine ⟨⟨R.ok.zsub, fun b l e => ?_, fun n c e => (R.ok.st n c e).mono (fun _ _ _ _ _ e => e) (Same.refl _) (fun b l e _ => lab b l e) ⟨[], by simp [Gh.own]⟩, R.ok.stn⟩, R.len,
    fun j s h => ?_, ⟨R.stp.z, fun b l e => lab b l (R.stp.lab b l e), R.stp.keep, fun b l e => ?_, R.stp.zn, R.stp.mu, R.stp.dom⟩, R.s0⟩
  · rcases labn b l e with h | h
    · exact R.ok.labz b l h
    · exact ⟨(q b h).2, he b h⟩
  · obtain ⟨o, h1, h2⟩ := R.slot j s h
    exact ⟨o, h1, h2.mono (fun _ _ _ e => e) (Same.refl _) (fun b e => lab b _ e) ⟨[], by simp [Gh.own]⟩⟩
  · rcases labn b l e with h | h
    · exact R.stp.labn b l h
    · exact .inr (hn b h)
/-- what a name owns is lent for reading, all of it frozen .. -/
theorem Rel.lend (R : Rel K cl G0 H0 S ρ G σ H) (e : ρ[i]? = some (.ow (.nst ds))) : ∃ G', Rel K cl G0 H0 S (ρ.set i (.fr (.lst ds))) G' σ H ∧ Zle G G' ∧ ∀ b l, G'.lab b = some l → G.lab b = some l := by
  obtain ⟨G', R', z, hl⟩ := R.thaw' e
  have hlt : i < ρ.length := (List.getElem?_eq_some_iff.mp e).1
  have e' : (ρ.set i (.fr (.nst ds)))[i]? = some (.fr (.nst ds)) := List.getElem?_set_self hlt
  obtain ⟨o, ho, v, rfl, r⟩ := R'.slot i _ e'
  have R2 := R'.setF i (Rep.flat r)
  rw [List.set_set] at R2
  have es : σ.set i (some v) = σ := List.ext_getElem? fun k => by
    by_cases q : k = i
    · subst q
      rw [List.getElem?_set_self (by rw [← R.len]; exact hlt), ho]
    · rw [List.getElem?_set_ne (Ne.symm q)]
  rw [es] at R2
  exact ⟨G', R2, z, hl⟩
/-- .. and given back: the state as it was, but that there is more -/
theorem Rel.back (R : Rel K cl G0 H0 S ρ G σ H) (hl : ∀ b l, G'.lab b = some l → G.lab b = some l) (hs : S' = []) (k : Stp G' H G'' H'') : Rel K cl G0 H0 S' ρ G σ H'' ∧ Stp G H G H'' := by
  have keep : ∀ a o, H a = some o → (∀ l, G.lab a = some l → l.st = false) → H'' a = some o := fun a o h q => k.keep a o h fun l e => q l (hl a l e)
  have st : Stp G H G H'' := ⟨Same.refl _, fun _ _ e => e, keep, fun _ _ e => .inl e, fun _ _ e => .inl e, ⟨[], by simp⟩, k.dom⟩
  subst hs
  exact ⟨R.step st ⟨fun b o e => keep b o (R.ok.zsub b o e) fun l q => (by rw [(R.ok.labz b l q).1] at e; cases e), fun b l e => (by
    obtain ⟨h1, o, h2⟩ := R.ok.labz b l e
    refine ⟨h1, ?_⟩
    cases q : H'' b with
    | none => rw [k.dom b q] at h2; cases h2
    | some o' => exact ⟨o', rfl⟩), fun n c e => (by simp at e), rfl, R.ok.stn.2⟩, st⟩
def D.scal : D → Bool
  | .non => true
  | .bl _ => true
  | .int _ => true
  | .str _ => true
  | _ => false
theorem Rep.scal {mu' : List Addr} {Z' : Hp} (h : Rep K cl mu Z v d) (e : d.scal = true) : Rep K cl mu' Z' v d := by
  cases d <;> simp only [D.scal, Bool.false_eq_true] at e <;> cases h
  · exact .non
  · exact .bl _
  · exact .int _
  · exact .str _
end

section
variable {X : Cx} {cl : ClsP} {W : WX} {e tg elt iter : Expr} {c ce : Ex} {tc : Tx} {pos : Pos} {es : List Expr}
/-- the names while x is lent -/
def lendE (i : Nat) (ρ : Env) : Option Env := match ρ[i]? with
  | some (.ow (.nst ds)) => some (ρ.set i (.fr (.lst ds)))
  | _ => none
theorem lendE_some {i : Nat} {ρ ρ' : Env} (h : lendE i ρ = some ρ') : ∃ ds, ρ[i]? = some (.ow (.nst ds)) ∧ ρ' = ρ.set i (.fr (.lst ds)) := by
  unfold lendE at h
  split at h
  · rename_i ds q
    cases h
    exact ⟨ds, q, rfl⟩
  · cases h
def eLend (i : Nat) (c : Ex) : Ex := fun ρ S => match lendE i ρ with
  | some ρ' => (c ρ' S).bind fun d S' => if d.scal = true then .ok d S' else .stuck
  | none => .stuck
def tLend (i : Nat) (c : Tx) : Tx := fun ρ S => match lendE i ρ with
  | some ρ' => c ρ' S
  | none => .stuck
theorem se_lend (i : Nat) (h : SE X cl W e c) : SE X cl W e (eLend i c) := PE.weak h fun σ H Q ⟨G0, H0, S, ρ, G, R, q⟩ => by
  unfold eLend at q
  cases ql : lendE i ρ with
  | none => rw [ql] at q; exact q.elim
  | some ρ' =>
    rw [ql] at q
    obtain ⟨ds, hi, rfl⟩ := lendE_some ql
    obtain ⟨G', R', z, hl⟩ := R.lend hi
    refine ⟨G0, H0, S, _, G', R', ?_⟩
    simp only at q
    cases r : c (ρ.set i (.fr (.lst ds))) S with
    | ok d S' =>
      rw [r] at q
      intro v G2 H2 R2 s p
      simp only [Res.bind] at q
      split at q
      · rename_i hs
        obtain ⟨R3, s3⟩ := R.back hl R2.ok.stn.1 s
        exact q v G H2 R3 s3 (Rep.scal p hs)
      · exact q.elim
    | exc n S' =>
      rw [r] at q
      intro G2 H2 R2 s
      obtain ⟨R3, s3⟩ := R.back hl R2.ok.stn.1 s
      exact q G H2 R3 s3
    | stuck => rw [r] at q; exact q
theorem st_lend (i : Nat) (h : STt X cl W e tc) : STt X cl W e (tLend i tc) := PT.weak h fun σ H Q ⟨G0, H0, S, ρ, G, R, q⟩ => by
  unfold tLend at q
  cases ql : lendE i ρ with
  | none => rw [ql] at q; exact q.elim
  | some ρ' =>
    rw [ql] at q
    obtain ⟨ds, hi, rfl⟩ := lendE_some ql
    obtain ⟨G', R', z, hl⟩ := R.lend hi
    refine ⟨G0, H0, S, _, G', R', ?_⟩
    simp only at q
    cases r : tc (ρ.set i (.fr (.lst ds))) S with
    | ok d S' =>
      rw [r] at q
      intro v G2 H2 R2 s p
      obtain ⟨R3, s3⟩ := R.back hl R2.ok.stn.1 s
      exact q v G H2 R3 s3 p
    | exc n S' =>
      rw [r] at q
      intro G2 H2 R2 s
      obtain ⟨R3, s3⟩ := R.back hl R2.ok.stn.1 s
      exact q G H2 R3 s3
    | stuck => rw [r] at q; exact q
/-- a new one, read as a list of lists -/
def dFlat : D → D
  | .nst ds => .lst ds
  | d => d
def eFlat (c : Ex) : Ex := fun ρ S => (c ρ S).bind fun d S => .ok (dFlat d) S
theorem se_flat (h : SE X cl W e c) : SE X cl W e (eFlat c) := PE.weak h fun σ H Q ⟨G0, H0, S, ρ, G, R, q⟩ => by
  refine ⟨G0, H0, S, ρ, G, R, ?_⟩
  unfold eFlat at q
  cases r : c ρ S with
  | ok d S' =>
    rw [r] at q
    refine fun v G' H' R' s p => q v G' H' R' s ?_
    cases d <;> first | exact p | exact Rep.flat p
  | exc n S' => rw [r] at q; exact q
  | stuck => rw [r] at q; exact q
/-- [] -/
def eNst0 : Ex := fun _ S => .ok (.nst []) S
theorem sn_nst0 : SN X cl W (.List [] pos) eNst0 := PE.weak (pe_lst pa_nil) fun σ H Q ⟨G0, H0, S, ρ, G, R, h⟩ => by
  refine ⟨by decide, fun p hp => ?_⟩
  obtain ⟨R', s'⟩ := R.alloc hp (.lst [])
  exact h (.ref p) G _ R' s' ⟨p, [p], rfl, ⟨.nst (bs := []) upd_same .nil (by simp), fun b hb => by simp at hb; subst hb; exact R.nobody hp⟩, fun b hb => by simp at hb; subst hb; exact hp⟩
theorem Inn.snoc {K : PySem.W.Frag} {mu : List Addr} {Z H : Hp} {b : Addr} {vs : List V} {es : List D} (h : H b = some (.lst vs)) (r : RepAll K cl mu Z vs es) : ∀ {bs : List Addr} {ds : List D}, Inn K cl mu Z H bs ds → Inn K cl mu Z H (bs ++ [b]) (ds ++ [.lst es])
  | _, _, .nil => .cons h r .nil
  | _, _, .cons h1 r1 t => .cons h1 r1 (Inn.snoc h r t)
/-- x.append(e), e a new list -/
def sNApp (i : Nat) (c : Ex) : Stm := fun ρ S => match ρ[i]? with
  | some (.ow (.nst ds)) => sEx c (fun d ρ S => match d with
    | .lst es => if ds.length < 1000000 then .nx (ρ.set i (.ow (.nst (ds ++ [.lst es])))) S else .stuck
    | _ => .stuck) ρ S
  | _ => .stuck
theorem ss_napp {i : Nat} {x : Str} {p apos cpos : Pos} (hv : PE X (.Name x p) (tVar i)) (he : SN X cl W e c)
    (hst : starEach [e] X.env = [(false, eval e X.env)] := by rfl)
    (hbase : attributeBase (.Name x p) ("append" : Str) X.env (eval (.Name x p) X.env) = eval (.Name x p) X.env := by rfl)
    (hfew : ((backTo cpos (starEach [e] X.env)).all (fun x => !x.1) && (backToKw cpos (keywordEach [] X.env)).all (fun x => x.1.isSome)
      && decide ([e].length + ([] : List Keyword).length + (if ([] : List Keyword).isEmpty then 0 else 1) < 30)) = true := by rfl)
    (hline : (apos.endLine == cpos.line) = true := by rfl)
    (hsw : swapsWith (.Call (.Attribute (.Name x p) ("append" : Str) apos) [e] [] cpos) none pos.line X.env = pure false := by rfl) :
    SS X cl W (.Expr (.Call (.Attribute (.Name x p) ("append" : Str) apos) [e] [] cpos) pos) (sNApp i c) :=
  PS.weak (ps_expr (pe_bm PySem.F.plainAttrs_list PySem.F.slot_list_append PySem.F.type_list_append mt_append hv (pa_cons he pa_nil hst) hbase hfew hline hst (by rfl)) hsw) fun D σ H ⟨G0, H0, S, ρ, G, R, h⟩ => by
    unfold sNApp at h
    split at h
    · rename_i ds q
      obtain ⟨o, ho, v, rfl, ow⟩ := R.slot i _ q
      obtain ⟨a, bs, rfl, h1, r1, n1, l1⟩ := ow.nst
      refine ⟨_, ho, .inl ⟨rfl, _, .inl (.inl h1)⟩, sEx_at (P := PN X.K cl) R h fun S' d y G' H' R' s p q2 => ?_⟩
      obtain ⟨b, as, rfl, ⟨cb, nb⟩, hn⟩ := p
      cases d <;> first | exact q2.elim | skip
      rename_i es
      by_cases hz : ds.length < 1000000
      · simp only [hz, if_true] at q2
        cases cb with
        | lst hb rb =>
          rename_i ws
          obtain ⟨o', ho', v', rfl, ow'⟩ := R'.slot i _ q
          rw [ho] at ho'
          cases ho'
          obtain ⟨a', bs', e', h1', r1', n1', l1'⟩ := ow'.nst
          cases e'
          have nab : b ∉ a :: bs' := fun hm => by
            have h7 := l1' b hm
            rw [(nb b (by simp)).1] at h7
            cases h7
          have nba : b ≠ a := fun e => nab (by simp [e])
          have R2 := R'.adopt (as := [b]) i (fun x hx => nb x hx) (fun x hx => R.stp.dom x (hn x hx)) (fun x hx => by simp at hx; subst hx; exact ⟨_, hb⟩)
          have hnd : (a :: (bs' ++ [b])).Nodup := by
            rw [← List.cons_append]
            exact List.nodup_append.mpr ⟨n1', by simp, fun x hx y hy e => by simp at hy; subst hy; subst e; exact nab hx⟩
          have lall : ∀ x ∈ a :: (bs' ++ [b]), (G'.own [b] (.slot i)).lab x = some (.slot i) := fun x hx => by
            by_cases hxb : x ∈ [b]
            · exact own_in hxb
            · rw [own_out hxb]
              refine l1' x ?_
              rw [← List.cons_append] at hx
              rcases List.mem_append.mp hx with h | h
              · exact h
              · exact absurd h hxb
          have inn : Inn X.K cl G'.mu G'.Z (upd H' a (.lst (bs'.map V.ref ++ [.ref b]))) (bs' ++ [b]) (ds ++ [.lst es]) := Inn.snoc (by rw [upd_ne nba]; exact hb) rb (r1'.mono (Same.refl _) ⟨[], by simp⟩ fun x hx o ho2 => by
            rw [upd_ne fun e => by subst e; exact (List.nodup_cons.mp n1').1 hx]
            exact ho2)
          refine ⟨a, _, .ref b, rfl, rfl, h1', by rw [List.length_map, r1'.length]; exact lim_lt hz, q2 _ σ _ (R2.writeAt (as := a :: (bs' ++ [b])) (p := a) ho lall (by simp) (.nst (by rw [List.map_append]; exact upd_same) inn hnd)) ⟨Same.refl _, ⟨[], by simp [Gh.own]⟩⟩⟩
      · simp only [hz, if_false] at q2
        exact q2.elim
    · exact h.elim
end
end PM
set_option maxHeartbeats 1000000
/-! PM21: loops over a list of owned lists; comprehensions that make one. -/
namespace PM
open PySem PySem.Spec PyProof.Rows L2
section
variable {K : PySem.W.Frag} {cl : ClsP} {H : Hp} {mu : List Addr} {Z : Hp}
theorem Inn.get : ∀ {bs : List Addr} {ds : List D} {k : Nat} {d : D}, Inn K cl mu Z H bs ds → ds[k]? = some d → ∃ b vs es, bs[k]? = some b ∧ d = .lst es ∧ H b = some (.lst vs) ∧ RepAll K cl mu Z vs es
  | _, _, _, _, .nil, e => by simp at e
  | _, _, 0, _, .cons h r t, e => by
    simp at e
    subst e
    exact ⟨_, _, _, rfl, rfl, h, r⟩
  | _, _, k + 1, d, .cons h r t, e => by
    obtain ⟨b, vs, es, h1, h2⟩ := Inn.get (k := k) (d := d) t (by simpa using e)
    exact ⟨b, vs, es, by simpa using h1, h2⟩
theorem Inn.upd {x : HO} {p : Addr} : ∀ {bs : List Addr} {ds : List D}, Inn K cl mu Z H bs ds → p ∉ bs → Inn K cl mu Z (L2.upd H p x) bs ds
  | _, _, .nil, _ => .nil
  | _, _, .cons h r t, hp => by
    simp only [List.mem_cons, not_or] at hp
    exact .cons (by rw [upd_ne (Ne.symm hp.1)]; exact h) r (Inn.upd t hp.2)
theorem Inn.set {b : Addr} {vs : List V} {es : List D} (r' : RepAll K cl mu Z vs es) : ∀ {bs : List Addr} {ds : List D} {k : Nat}, Inn K cl mu Z H bs ds → bs.Nodup → bs[k]? = some b → Inn K cl mu Z (L2.upd H b (.lst vs)) bs (ds.set k (.lst es))
  | _, _, _, .nil, _, e => by simp at e
  | _, _, 0, .cons h r t, hn, e => by
    simp at e
    subst e
    exact .cons upd_same r' (t.upd (List.nodup_cons.mp hn).1)
  | _, _, k + 1, .cons (b := b0) h r t, hn, e => by
    have e' := (show _ = some b by simpa using e)
    have hm : b ∈ _ := List.mem_of_getElem? e'
    have ne : b0 ≠ b := fun q => (List.nodup_cons.mp hn).1 (by rw [q]; exact hm)
    exact .cons (by rw [upd_ne ne]; exact h) r (Inn.set r' t (List.nodup_cons.mp hn).2 e')
end
section
variable {X : Cx} {cl : ClsP} {W : WX} {e tg elt iter : Expr} {c ce : Ex} {tc : Tx} {pos : Pos} {es : List Expr}
/-- for y in x: y.append(e) -/
def nstA (i : Nat) (ce : Ex) : List D → List D → Stm
  | _, [] => sNx
  | done, .lst es :: ds => sEx ce fun d ρ S => if es.length < 1000000 then nstA i ce (done ++ [.lst (es ++ [d])]) ds (ρ.set i (.ow (.nst (done ++ .lst (es ++ [d]) :: ds)))) S else .stuck
  | _, _ => fun _ _ => .stuck
def sForNA (i j : Nat) (ce : Ex) : Stm := fun ρ S => match ρ[i]?, ρ[j]? with
  | some (.ow (.nst ds)), some _ => nstA i ce [] ds (ρ.set j .un) S
  | _, _ => .stuck
theorem set_mid {α : Type} {x y : α} : ∀ (xs ys : List α), (xs ++ x :: ys).set xs.length y = xs ++ y :: ys
  | [], ys => rfl
  | a :: xs, ys => by simp [set_mid xs ys]
theorem get_mid {α : Type} {x : α} : ∀ (xs ys : List α), (xs ++ x :: ys)[xs.length]? = some x
  | [], ys => rfl
  | a :: xs, ys => by simp
theorem ss_forNA {i j : Nat} {x y : Str} {px py p2 apos cpos epos : Pos} (hp : PassesOwn (model X.prog X.w) X.A X.env X.xe) (hc : X.calm = true) (hij : i ≠ j) (hv : PE X (.Name x px) (tVar i)) (hg : PG X (.Name y py) (gName j)) (hy : PE X (.Name y p2) (tVar j)) (he : SE X cl W e ce)
    (hst : starEach [e] X.env = [(false, eval e X.env)] := by rfl)
    (hbase : attributeBase (.Name y p2) ("append" : Str) X.env (eval (.Name y p2) X.env) = eval (.Name y p2) X.env := by rfl)
    (hfew : ((backTo cpos (starEach [e] X.env)).all (fun x => !x.1) && (backToKw cpos (keywordEach [] X.env)).all (fun x => x.1.isSome)
      && decide ([e].length + ([] : List Keyword).length + (if ([] : List Keyword).isEmpty then 0 else 1) < 30)) = true := by rfl)
    (hline : (apos.endLine == cpos.line) = true := by rfl)
    (hsw : swapsWith (.Call (.Attribute (.Name y p2) ("append" : Str) apos) [e] [] cpos) none epos.line X.env = pure false := by rfl)
    (hs : ∀ z, foldedSetIterable (.Name x px) X.env z = pure z := by intro _; rfl) :
    SS X cl W (.For (.Name y py) (.Name x px) [.Expr (.Call (.Attribute (.Name y p2) ("append" : Str) apos) [e] [] cpos) epos] [] pos) (sForNA i j ce) :=
  PS.weak (ps_for hp hc (pi_list hv) hg (pss_one (ps_expr (pe_bm PySem.F.plainAttrs_list PySem.F.slot_list_append PySem.F.type_list_append mt_append hy (pa_cons he pa_nil hst) hbase hfew hline hst (by rfl)) hsw)) hs) fun D σ H ⟨G0, H0, S, ρ, G, R, h⟩ => by
    unfold sForNA at h
    split at h
    · rename_i ds _ q qj
      obtain ⟨o, ho, v, rfl, ow⟩ := R.slot i _ q
      obtain ⟨a, bs, rfl, h1, r1, n1, l1⟩ := ow.nst
      refine ⟨_, ho, a, rfl, ⟨_, .inl (.inl h1)⟩, ?_⟩
      let Wv : Nat → L2.St → Hp → Prop := fun k σ H => ∃ (S : Store) (ρ : Env) (G : Gh) (done todo : List PM.D), Rel X.K cl G0 H0 S ρ G σ H ∧ σ[i]? = some (some (.ref a)) ∧ ρ[i]? = some (.ow (.nst (done ++ todo))) ∧ ρ.set j .un = ρ ∧ j < ρ.length ∧ done.length = k ∧ k + todo.length = ds.length ∧ AftS X.K cl W G0 H0 G D (nstA i ce done todo ρ S)
      refine ⟨fun k m σ H => m = ds.length - k ∧ Wv k σ H, ⟨_, rfl, S, ρ.set j .un, G, [], ds, R.drop1 j, ho, ?_, List.set_set .., by rw [List.length_set]; exact (List.getElem?_eq_some_iff.mp qj).1, rfl, by simp, h⟩, ?_⟩
      · rw [List.getElem?_set_ne (Ne.symm hij)]; exact q
      · rintro k m σ H ⟨rfl, S, ρ, G, done, todo, R, ho, q, hj, hjl, hk, hl, h⟩
        obtain ⟨o', ho', v', rfl, ow⟩ := R.slot i _ q
        rw [ho] at ho'
        cases ho'
        obtain ⟨a', bs, e', h1, r1, n1, l1⟩ := ow.nst
        cases e'
        cases todo with
        | nil =>
          left
          refine ⟨⟨_, .inl (.inl h1), ?_⟩, h G σ H R (Zle.refl _)⟩
          rw [List.length_map, r1.length, List.append_nil, hk]
          exact Nat.le_refl _
        | cons d todo =>
          right
          subst hk
          obtain ⟨b, vs, es, hb, rfl, hH, rv⟩ := r1.get (get_mid done todo)
          have hbm : b ∈ bs := List.mem_of_getElem? hb
          have hbr : (bs.map V.ref)[done.length]? = some (.ref b) := by rw [List.getElem?_map, hb]; rfl
          refine ⟨⟨_, _, .inl (.inl h1), hbr⟩, fun σ H => Wv (done.length + 1) σ H, fun σ' H' w => ⟨ds.length - (done.length + 1), ?_, rfl, w⟩, fun x H2 yl => ?_⟩
          · simp only [List.length_cons] at hl
            omega
          · obtain ⟨rfl, hx⟩ := yl
            have hx := hx _ (.inl (.inl h1))
            rw [hbr] at hx
            cases hx
            have R1 := R.setU j (some (.ref b))
            rw [hj] at R1
            have ho1 : (σ.set j (some (.ref b)))[i]? = some (some (.ref a)) := by rw [List.getElem?_set_ne (Ne.symm hij)]; exact ho
            unfold nstA at h
            refine ⟨_, List.getElem?_set_self (by rw [← R.len]; exact hjl), .inl ⟨rfl, vs, .inl (.inl hH)⟩, sEx_at (P := PF X.K cl) R1 h fun S' d y G' H' R' s p q2 => ?_⟩
            by_cases hz : es.length < 1000000
            · simp only [hz, if_true] at q2
              obtain ⟨o', ho', v', rfl, ow'⟩ := R'.slot i _ q
              rw [ho1] at ho'
              cases ho'
              obtain ⟨a', bs', e', h1', r1', n1', l1'⟩ := ow'.nst
              cases e'
              have hke := h1'
              rw [show H' a = some (.lst (bs.map V.ref)) from s.keep a _ h1 fun l hl => by rw [l1 a (by simp)] at hl; cases hl; rfl] at hke
              have hbs : bs' = bs := by
                have : bs.map V.ref = bs'.map V.ref := HO.lst.inj (Option.some.inj hke)
                exact ((List.map_inj_right fun x y e => by cases e; rfl).mp this).symm
              subst hbs
              obtain ⟨b', ws, es', hb', he', hH', rv'⟩ := r1'.get (get_mid done todo)
              rw [hb] at hb'
              cases hb'
              cases he'
              refine ⟨b, ws, y, rfl, rfl, hH', by rw [rv'.length]; exact lim_lt hz, S', ρ.set i (.ow (.nst (done ++ .lst (es ++ [d]) :: todo))), G', done ++ [.lst (es ++ [d])], todo, ?_, ho1, ?_, ?_, by rw [List.length_set]; exact hjl, by simp, by simp only [List.length_cons] at hl; omega, q2⟩
              · have inn := r1'.set (rv'.append (.cons p .nil)) (List.nodup_cons.mp n1').2 hb
                rw [set_mid] at inn
                exact R'.writeAt (as := a :: bs') (p := b) ho1 l1' (List.mem_cons_of_mem _ hbm) (.nst (by rw [upd_ne fun e => by subst e; exact (List.nodup_cons.mp n1').1 hbm]; exact h1') inn n1')
              · rw [List.getElem?_set_self (List.getElem?_eq_some_iff.mp q).1, List.append_assoc]; rfl
              · rw [List.set_comm _ _ hij, hj]
            · simp only [hz, if_false] at q2
              exact q2.elim
    · exact h.elim
/-- for y in x: y.clear() -/
def nstC (i : Nat) : List D → List D → Stm
  | _, [] => sNx
  | done, d :: ds => fun ρ S => nstC i (done ++ [.lst []]) ds (ρ.set i (.ow (.nst (done ++ .lst [] :: ds)))) S
def sForNC (i j : Nat) : Stm := fun ρ S => match ρ[i]?, ρ[j]? with
  | some (.ow (.nst ds)), some _ => nstC i [] ds (ρ.set j .un) S
  | _, _ => .stuck
theorem ss_forNC {i j : Nat} {x y : Str} {px py p2 apos cpos epos : Pos} (hp : PassesOwn (model X.prog X.w) X.A X.env X.xe) (hc : X.calm = true) (hij : i ≠ j) (hv : PE X (.Name x px) (tVar i)) (hg : PG X (.Name y py) (gName j)) (hy : PE X (.Name y p2) (tVar j))
    (hbase : attributeBase (.Name y p2) ("clear" : Str) X.env (eval (.Name y p2) X.env) = eval (.Name y p2) X.env := by rfl) (hline : (apos.endLine == cpos.line) = true := by rfl)
    (hsw : swapsWith (.Call (.Attribute (.Name y p2) ("clear" : Str) apos) [] [] cpos) none epos.line X.env = pure false := by rfl)
    (hs : ∀ z, foldedSetIterable (.Name x px) X.env z = pure z := by intro _; rfl) :
    SS X cl W (.For (.Name y py) (.Name x px) [.Expr (.Call (.Attribute (.Name y p2) ("clear" : Str) apos) [] [] cpos) epos] [] pos) (sForNC i j) :=
  PS.weak (ps_for hp hc (pi_list hv) hg (pss_one (ps_expr (pe_bm0 PySem.F.plainAttrs_list PySem.F.slot_list_clear PySem.F.type_list_clear mt_clear hy hbase hline) hsw)) hs) fun D σ H ⟨G0, H0, S, ρ, G, R, h⟩ => by
    unfold sForNC at h
    split at h
    · rename_i ds _ q qj
      obtain ⟨o, ho, v, rfl, ow⟩ := R.slot i _ q
      obtain ⟨a, bs, rfl, h1, r1, n1, l1⟩ := ow.nst
      refine ⟨_, ho, a, rfl, ⟨_, .inl (.inl h1)⟩, ?_⟩
      let Wv : Nat → L2.St → Hp → Prop := fun k σ H => ∃ (S : Store) (ρ : Env) (G : Gh) (done todo : List PM.D), Rel X.K cl G0 H0 S ρ G σ H ∧ σ[i]? = some (some (.ref a)) ∧ ρ[i]? = some (.ow (.nst (done ++ todo))) ∧ ρ.set j .un = ρ ∧ j < ρ.length ∧ done.length = k ∧ k + todo.length = ds.length ∧ AftS X.K cl W G0 H0 G D (nstC i done todo ρ S)
      refine ⟨fun k m σ H => m = ds.length - k ∧ Wv k σ H, ⟨_, rfl, S, ρ.set j .un, G, [], ds, R.drop1 j, ho, ?_, List.set_set .., by rw [List.length_set]; exact (List.getElem?_eq_some_iff.mp qj).1, rfl, by simp, h⟩, ?_⟩
      · rw [List.getElem?_set_ne (Ne.symm hij)]; exact q
      · rintro k m σ H ⟨rfl, S, ρ, G, done, todo, R, ho, q, hj, hjl, hk, hl, h⟩
        obtain ⟨o', ho', v', rfl, ow⟩ := R.slot i _ q
        rw [ho] at ho'
        cases ho'
        obtain ⟨a', bs, e', h1, r1, n1, l1⟩ := ow.nst
        cases e'
        cases todo with
        | nil =>
          left
          refine ⟨⟨_, .inl (.inl h1), ?_⟩, h G σ H R (Zle.refl _)⟩
          rw [List.length_map, r1.length, List.append_nil, hk]
          exact Nat.le_refl _
        | cons d todo =>
          right
          subst hk
          obtain ⟨b, vs, es, hb, rfl, hH, rv⟩ := r1.get (get_mid done todo)
          have hbm : b ∈ bs := List.mem_of_getElem? hb
          have hbr : (bs.map V.ref)[done.length]? = some (.ref b) := by rw [List.getElem?_map, hb]; rfl
          refine ⟨⟨_, _, .inl (.inl h1), hbr⟩, fun σ H => Wv (done.length + 1) σ H, fun σ' H' w => ⟨ds.length - (done.length + 1), ?_, rfl, w⟩, fun x H2 yl => ?_⟩
          · simp only [List.length_cons] at hl
            omega
          · obtain ⟨rfl, hx⟩ := yl
            have hx := hx _ (.inl (.inl h1))
            rw [hbr] at hx
            cases hx
            have R1 := R.setU j (some (.ref b))
            rw [hj] at R1
            have ho1 : (σ.set j (some (.ref b)))[i]? = some (some (.ref a)) := by rw [List.getElem?_set_ne (Ne.symm hij)]; exact ho
            unfold nstC at h
            refine ⟨_, List.getElem?_set_self (by rw [← R.len]; exact hjl), .inl ⟨rfl, vs, .inl (.inl hH)⟩, ?_⟩
            refine ⟨b, vs, rfl, rfl, hH, S, ρ.set i (.ow (.nst (done ++ .lst [] :: todo))), G, done ++ [.lst []], todo, ?_, ho1, ?_, ?_, by rw [List.length_set]; exact hjl, by simp, by simp only [List.length_cons] at hl; omega, h⟩
            · have inn := r1.set (vs := []) (es := []) .nil (List.nodup_cons.mp n1).2 hb
              rw [set_mid] at inn
              exact R1.writeAt (as := a :: bs) (p := b) ho1 l1 (List.mem_cons_of_mem _ hbm) (.nst (by rw [upd_ne fun e => by subst e; exact (List.nodup_cons.mp n1).1 hbm]; exact h1) inn n1)
            · rw [List.getElem?_set_self (List.getElem?_eq_some_iff.mp q).1, List.append_assoc]; rfl
            · rw [List.set_comm _ _ hij, hj]
    · exact h.elim
/-- for y in x: if test: return b -/
def nstK (i j : Nat) (tc : Tx) (bv : Bool) (ds0 : List D) : List D → Stm
  | [] => sNx
  | d :: ds => fun ρ S => match tc ((ρ.set i (.fr (.lst ds0))).set j (.fr d)) S with
    | .ok k S' => if k = true then .rt (.fr (.bl bv)) S' else nstK i j tc bv ds0 ds ρ S'
    | .exc n S' => .exc n ρ S'
    | .stuck => .stuck
def sForNK (i j : Nat) (tc : Tx) (bv : Bool) : Stm := fun ρ S => match ρ[i]?, ρ[j]? with
  | some (.ow (.nst ds)), some _ => nstK i j tc bv ds ds (ρ.set j .un) S
  | _, _ => .stuck
theorem ss_forNK {i j : Nat} {x y : Str} {px py kp rp ip : Pos} {bv : Bool} {kj} {cnd : Expr} (hp : PassesOwn (model X.prog X.w) X.A X.env X.xe) (hc : X.calm = true) (hij : i ≠ j) (hv : PE X (.Name x px) (tVar i)) (hg : PG X (.Name y py) (gName j)) (ht : STt X cl W cnd tc)
    (hs : ∀ z, foldedSetIterable (.Name x px) X.env z = pure z := by intro _; rfl) :
    SS X cl W (.For (.Name y py) (.Name x px) [.If cnd [.Return (some (.Constant (.bool bv) kj kp)) rp] [] ip] [] pos) (sForNK i j tc bv) :=
  PS.weak (ps_for hp hc (pi_list hv) hg (pss_one (ps_if ht (pss_one (ps_ret pe_bl)) pss_nil)) hs) fun D σ H ⟨G0, H0, S, ρ, G, R, h⟩ => by
    unfold sForNK at h
    split at h
    · rename_i ds _ q qj
      obtain ⟨o, ho, v, rfl, ow⟩ := R.slot i _ q
      obtain ⟨a, bs, rfl, h1, r1, n1, l1⟩ := ow.nst
      refine ⟨_, ho, a, rfl, ⟨_, .inl (.inl h1)⟩, ?_⟩
      let Wv : Nat → L2.St → Hp → Prop := fun k σ H => ∃ (S : Store) (ρ : Env) (G : Gh), Rel X.K cl G0 H0 S ρ G σ H ∧ σ[i]? = some (some (.ref a)) ∧ ρ[i]? = some (.ow (.nst ds)) ∧ ρ.set j .un = ρ ∧ j < ρ.length ∧ k ≤ ds.length ∧ AftS X.K cl W G0 H0 G D (nstK i j tc bv ds (ds.drop k) ρ S)
      refine ⟨fun k m σ H => m = ds.length - k ∧ Wv k σ H, ⟨_, rfl, S, ρ.set j .un, G, R.drop1 j, ho, ?_, List.set_set .., by rw [List.length_set]; exact (List.getElem?_eq_some_iff.mp qj).1, Nat.zero_le _, h⟩, ?_⟩
      · rw [List.getElem?_set_ne (Ne.symm hij)]; exact q
      · rintro k m σ H ⟨rfl, S, ρ, G, R, ho, q, hj, hjl, hk, h⟩
        obtain ⟨o', ho', v', rfl, ow⟩ := R.slot i _ q
        rw [ho] at ho'
        cases ho'
        obtain ⟨a', bs, e', h1, r1, n1, l1⟩ := ow.nst
        cases e'
        by_cases hlt : k < ds.length
        · right
          rw [List.drop_eq_getElem_cons hlt] at h
          have hd : ds[k]? = some ds[k] := List.getElem?_eq_getElem hlt
          obtain ⟨b, vs, es, hb, hde, hH, rv⟩ := r1.get hd
          have hbr : (bs.map V.ref)[k]? = some (.ref b) := by rw [List.getElem?_map, hb]; rfl
          refine ⟨⟨_, _, .inl (.inl h1), hbr⟩, fun σ H => Wv (k + 1) σ H, fun σ' H' w => ⟨ds.length - (k + 1), by omega, rfl, w⟩, fun x H2 yl => ?_⟩
          obtain ⟨rfl, hx⟩ := yl
          have hx := hx _ (.inl (.inl h1))
          rw [hbr] at hx
          cases hx
          have R1 := R.setU j (some (.ref b))
          rw [hj] at R1
          have ho1 : (σ.set j (some (.ref b)))[i]? = some (some (.ref a)) := by rw [List.getElem?_set_ne (Ne.symm hij)]; exact ho
          obtain ⟨G', R2, z, hl⟩ := R.lend q
          have hil : i < ρ.length := (List.getElem?_eq_some_iff.mp q).1
          obtain ⟨o2, ho2, v2, rfl, r2⟩ := R2.slot i _ (List.getElem?_set_self hil)
          rw [ho] at ho2
          cases ho2
          have rb : RepG X.K cl G' (.ref b) ds[k] := by
            cases r2 with
            | lst hz ra =>
              have e1 := R2.ok.zsub _ _ hz
              rw [h1] at e1
              have e2 := HO.lst.inj (Option.some.inj e1)
              subst e2
              obtain ⟨v3, h3, r3⟩ := ra.get hd
              rw [hbr] at h3
              cases h3
              exact r3
          have R3 := R2.setF j rb
          refine ⟨G0, H0, S, _, G', R3, ?_⟩
          unfold nstK at h
          cases qt : tc ((ρ.set i (.fr (.lst ds))).set j (.fr ds[k])) S with
          | stuck => simp only [qt] at h; exact h.elim
          | exc n S' =>
            simp only [qt] at h
            intro G2 H2 R4 s
            obtain ⟨R5, s5⟩ := R1.back hl R4.ok.stn.1 s
            exact h G _ _ R5 (Zle.refl _)
          | ok kk S' =>
            simp only [qt] at h
            intro v G2 H2 R4 s pv
            obtain rfl : v = kk := pv
            obtain ⟨R5, s5⟩ := R1.back hl R4.ok.stn.1 s
            cases v with
            | true =>
              rw [if_pos rfl] at h ⊢
              exact h (.bl bv) _ H2 R5.leave.1 out_only R5.leave.2 (.bl bv)
            | false =>
              simp only [Bool.false_eq_true, if_false] at h ⊢
              exact ⟨S', ρ, G, R5, ho1, q, hj, hjl, hlt, h⟩
        · left
          have e : k = ds.length := by omega
          subst e
          rw [List.drop_length] at h
          exact ⟨⟨_, .inl (.inl h1), by rw [List.length_map, r1.length]; exact Nat.le_refl _⟩, h G σ H R (Zle.refl _)⟩
    · exact h.elim
/-! ### [[..] for ..] -/
def lcNS (tg : Tgt) (tt : Tx) (elt : Ex) (ρ : Env) : List D → List D → Store → Res D
  | [], acc, S => .ok (.nst acc) S
  | d :: ds, acc, S => match tg d ρ with
    | none => .stuck
    | some ρ1 => match tt ρ1 S with
      | .ok k S => if k = true then (match elt ρ1 S with
          | .ok (.lst es) S => if acc.length < 1000000 then lcNS tg tt elt ρ ds (acc ++ [.lst es]) S else .stuck
          | _ => .stuck) else lcNS tg tt elt ρ ds acc S
      | _ => .stuck
def eNLc (own : List Nat) (ci : Ix) (tg : Tgt) (tt : Tx) (elt : Ex) : Ex := fun ρ S => (ci ρ S).bind fun ds S => lcNS tg tt elt (wipeE ρ own) ds [] S
theorem nlc_sem {G0 : Gh} {H0 : Hp} {g : TG} {gt : Tgt} {own : List Nat} {tt : Tx} {elt : Ex} {ds : List D} {J : It} {Gs G1 : Gh} {Hs H1 : Hp} {S1 : Store} {ρ : Env} {σ : L2.St} {Q : VK} (R1 : Rel X.K cl G0 H0 S1 ρ G1 σ H1) (s1 : Stp Gs Hs G1 H1) (it : IterOk X.K cl J ds G0 H0 G1)
    (hgs : TgS X cl g gt) (hgo : TgO g own) (h : Aft X.K cl (PN X.K cl) W G0 H0 ρ σ Gs Hs (lcNS gt tt elt (wipeE ρ own) ds [] S1) Q) (L : Addr) (hL : H1 L = none) :
    ∃ Wv : Nat → Nat → Hp → Prop, (∃ m, Wv 0 m (upd H1 L (.lst []))) ∧ ∀ i m H, Wv i m H → (J.stop i H ∧ Q (.ref L) H) ∨ (J.go i H ∧ ∃ Nx : Hp → Prop, (∀ H', Nx H' → ∃ m', m' < m ∧ Wv (i + 1) m' H') ∧ ∀ x H', J.yld i H x H' → g x (L2.wipe σ own) H' fun σ2 H2 => L2.wipe σ2 own = L2.wipe σ own ∧ (tX X.K cl PT1 W0 tt) σ2 H2 fun b H3 =>
      if b = true then (tX X.K cl (PN X.K cl) W0 elt) σ2 H3 fun y H4 => ∃ acc, H4 L = some (.lst acc) ∧ acc.length < sizeLine ∧ Nx (upd H4 L (.lst (acc ++ [y]))) else Nx H3) := by
  have hLs : Hs L = none := s1.dom L hL
  let Wv : Nat → Hp → Prop := fun i H => ∃ (S : Store) (G : Gh) (bs : List Addr) (acc : List D), Rel X.K cl G0 H0 S ρ G σ H ∧ Stp Gs Hs G H ∧ Zle G1 G ∧ H L = some (.lst (bs.map .ref)) ∧ Inn X.K cl G.mu G.Z H bs acc ∧ (L :: bs).Nodup ∧ (∀ b ∈ L :: bs, G.lab b = none ∧ G.Z b = none ∧ Hs b = none) ∧ i ≤ ds.length ∧
    Aft X.K cl (PN X.K cl) W G0 H0 ρ σ Gs Hs (lcNS gt tt elt (wipeE ρ own) (ds.drop i) acc S) Q
  refine ⟨fun i m H => m = ds.length - i ∧ Wv i H, ⟨_, rfl, ?_⟩, ?_⟩
  · obtain ⟨R2, s2, n⟩ := R1.newL hL (vs := []) (ds := []) .nil
    exact ⟨S1, G1, [], [], R2, s1.trans s2, Zle.refl _, upd_same, .nil, by simp, fun b hb => by simp at hb; subst hb; exact ⟨(n.2 b (by simp)).1, (n.2 b (by simp)).2, hLs⟩, Nat.zero_le _, by rw [List.drop_zero]; exact h⟩
  · rintro i m H ⟨rfl, S, G, bs, acc, R, s, z, hv, r, nd, lz, hi, h⟩
    by_cases hlt : i < ds.length
    · right
      have hd : ds[i]? = some ds[i] := List.getElem?_eq_getElem hlt
      obtain ⟨go, yl⟩ := it.go S ρ G σ H i _ R z hd
      rw [List.drop_eq_getElem_cons hlt] at h
      refine ⟨go, fun H' => Wv (i + 1) H', fun H' w => ⟨ds.length - (i + 1), by omega, rfl, w⟩, fun x H2 y => ?_⟩
      obtain ⟨rfl, rx⟩ := yl x H2 y
      unfold lcNS at h
      cases qt : gt ds[i] (wipeE ρ own) with
      | none => simp only [qt, Aft] at h
      | some ρ1 =>
        simp only [qt] at h
        refine hgo _ _ _ _ _ (hgs (Q := fun σ' H' => Rel X.K cl G0 H0 S ρ1 G σ' H2) (R.wipe own) rx qt fun σ2 R2 => R2) fun σ2 H2' R2 eH hw => ⟨hw.trans (wipe_wipe own own σ fun _ h => h), G0, H0, S, ρ1, G, by rw [eH]; exact R2, ?_⟩
        subst eH
        cases qtt : tt ρ1 S with
        | exc n S2 => simp only [qtt, Aft] at h
        | stuck => simp only [qtt, Aft] at h
        | ok k S2 =>
          simp only [qtt] at h
          intro b G2 H3 R3 s3 eb
          obtain rfl : b = k := eb
          have there : ∀ b ∈ L :: bs, ∃ o, H2' b = some o := fun b hb => by
            rcases List.mem_cons.mp hb with rfl | hb
            · exact ⟨_, hv⟩
            · exact r.there b hb
          have kp : ∀ {G' : Gh} {H' : Hp}, Stp G H2' G' H' → ∀ b ∈ L :: bs, ∀ o, H2' b = some o → H' b = some o := fun st b hb o ho => st.keep b o ho fun l e => by rw [(lz b hb).1] at e; cases e
          have out : ∀ {G' : Gh} {H' : Hp}, Stp G H2' G' H' → ∀ b ∈ L :: bs, G'.lab b = none ∧ G'.Z b = none ∧ Hs b = none := fun {G' H'} st b hb => by
            obtain ⟨o, ho⟩ := there b hb
            refine ⟨?_, ?_, (lz b hb).2.2⟩
            · cases e : G'.lab b with
              | none => rfl
              | some l =>
                rcases st.labn b l e with h | h
                · rw [(lz b hb).1] at h; cases h
                · rw [ho] at h; cases h
            · cases e : G'.Z b with
              | none => rfl
              | some o' =>
                rcases st.zn b o' e with h | h
                · rw [(lz b hb).2.1] at h; cases h
                · rw [ho] at h; cases h
          cases b with
          | false =>
            exact ⟨S2, G2, bs, acc, R.step s3 R3.ok, s.trans s3, z.trans s3.zle, kp s3 L (by simp) _ hv, r.mono s3.z s3.mu fun b hb o ho => kp s3 b (List.mem_cons_of_mem _ hb) o ho, nd, out s3, hlt, h⟩
          | true =>
            rw [if_pos rfl]
            refine ⟨G0, H0, S2, ρ1, G2, R3, ?_⟩
            cases qe : elt ρ1 S2 with
            | exc n S3 => simp only [qe, if_true, Aft] at h
            | stuck => simp only [qe, if_true, Aft] at h
            | ok y S3 =>
              simp only [qe, if_true] at h
              intro yv G3 H4 R4 s4 ry
              have s34 := s3.trans s4
              cases y <;> first | exact h.elim | skip
              rename_i es
              obtain ⟨b, as, rfl, ⟨cb, nb⟩, hn⟩ := ry
              by_cases hz : acc.length < 1000000
              · simp only [hz, if_true] at h
                cases cb with
                | lst hb rb =>
                  rename_i ws
                  have hb3 : H3 b = none := hn b (by simp)
                  have nbl : b ∉ L :: bs := fun hm => by
                    obtain ⟨o, ho⟩ := there b hm
                    rw [kp s3 b hm o ho] at hb3
                    cases hb3
                  have nba : b ≠ L := fun e => nbl (by simp [e])
                  have o1 := kp s34 L (by simp) _ hv
                  have ls := out s34 L (by simp)
                  refine ⟨bs.map V.ref, o1, by rw [List.length_map, r.length]; exact lim_lt hz, S3, G3, bs ++ [b], acc ++ [.lst es], (R.step s34 R4.ok).poke ls.1 ls.2.1 (R1.stp.dom L hL) ⟨_, o1⟩ _, (s.trans s34).poke hLs _, z.trans s34.zle, ?_, ?_, ?_, ?_, hlt, h⟩
                  · rw [List.map_append]; exact upd_same
                  · exact Inn.snoc (by rw [upd_ne nba]; exact hb) rb ((r.mono s34.z s34.mu fun b hb o ho => kp s34 b (List.mem_cons_of_mem _ hb) o ho).upd (List.nodup_cons.mp nd).1)
                  · rw [← List.cons_append]
                    exact List.nodup_append.mpr ⟨nd, by simp, fun x hx y hy e => by simp at hy; subst hy; subst e; exact nbl hx⟩
                  · intro x hx
                    rw [← List.cons_append] at hx
                    rcases List.mem_append.mp hx with hx | hx
                    · exact out s34 x hx
                    · simp at hx
                      subst hx
                      exact ⟨(nb x (by simp)).1, (nb x (by simp)).2, (s.trans s3).dom x hb3⟩
              · simp only [hz, if_false] at h
                exact h.elim
    · left
      have e : i = ds.length := by omega
      subst e
      rw [List.drop_length] at h
      exact ⟨it.stop S ρ G σ H R z, h _ G H R s ⟨L, L :: bs, rfl, ⟨.nst hv r nd, fun b hb => ⟨(lz b hb).1, (lz b hb).2.1⟩⟩, fun b hb => (lz b hb).2.2⟩⟩
theorem sn_nlc {ifs : List Expr} {scope : Scope} {own : List (Str × Nat)} {g : TG} {gt : Tgt} {ci : Ix} {tt : Tx} {ce : Ex} (hc : X.calm = true) (hN : X.N.Nodup) (hi : SI X cl W tg iter ci) (ok : BlkOk X.N X.env.scope scope own)
    (hg : ∀ (s : Shared) (H : Hp) (C : Addr) (cs : List (Str × Addr)) (fp : List Addr), PG (X.blk s H scope (compEnvC scope cs C X.env) fp) tg g) (hgs : TgS X cl g gt) (hgo : TgO g (own.map (·.2)))
    (ht : ∀ (s : Shared) (H : Hp) (C : Addr) (cs : List (Str × Addr)) (fp : List Addr), STs (X.blk s H scope (compEnvC scope cs C X.env) fp) cl W0 ifs tt) (he : ∀ (s : Shared) (H : Hp) (C : Addr) (cs : List (Str × Addr)) (fp : List Addr), SN (X.blk s H scope (compEnvC scope cs C X.env) fp) cl W0 elt ce)
    (hs : ∀ x, foldedSetIterable iter X.env x = pure x := by intro _; rfl) : SN X cl W (.ListComp elt [⟨tg, iter, ifs, 0⟩] scope pos) (eNLc (own.map (·.2)) ci gt tt ce) := PE.weak (pe_lc (tt := tX X.K cl PT1 W0 tt) (te := tX X.K cl (PN X.K cl) W0 ce) hc hN hi ok hg ht he hs) fun σ H Q ⟨G0, H0, S, ρ, G, R, h⟩ => by
  refine ⟨G0, H0, S, ρ, G, R, ?_⟩
  unfold eNLc at h
  cases q : ci ρ S with
  | exc n S' => rw [q] at h; exact h
  | stuck => rw [q] at h; exact h
  | ok ds S1 =>
    rw [q] at h
    exact fun J G1 H1 R1 s1 it L hL => nlc_sem R1 s1 it hgs hgo h L hL
end
end PM
set_option maxHeartbeats 1000000
/-! PM22: lists of lists that are borrowed. -/
namespace PM
open PySem PySem.Spec PyProof.Rows L2
section
variable {K : PySem.W.Frag} {cl : ClsP} {W : WX} {G0 G G' G'' G1 : Gh} {H0 H H' H'' H1 : Hp} {S S' : Store} {ρ ρ' : Env} {σ : L2.St} {v : V} {d : D} {a b p : Addr} {as bs : List Addr} {i j : Nat} {ds es : List D}
/-- what a name borrows is lent for reading -/
theorem Rel.lendB (R : Rel K cl G0 H0 S ρ G σ H) (e : ρ[i]? = some (.bo (.nst ds))) : ∃ G0' G', Rel K cl G0' H0 S (ρ.set i (.fr (.lst ds))) G' σ H ∧ ∀ b l, G'.lab b = some l → G.lab b = some l := by
  have hlt : i < ρ.length := (List.getElem?_eq_some_iff.mp e).1
  obtain ⟨o, ho, v, rfl, bor⟩ := R.slot i _ e
  have es : σ.set i (some v) = σ := List.ext_getElem? fun k => by
    by_cases q : k = i
    · subst q
      rw [List.getElem?_set_self (by rw [← R.len]; exact hlt), ho]
    · rw [List.getElem?_set_ne (Ne.symm q)]
  rcases bor with r | ⟨a, as, rfl, c, hl⟩
  · have R2 := R.setF i (Rep.flat r)
    rw [es] at R2
    exact ⟨G0, G, R2, fun _ _ h => h⟩
  · have same : ∀ b ∈ as, ∀ o, H0 b = some o → H b = some o := fun b hb o h => R.stp.keep b o h fun l e => by rw [hl b hb] at e; cases e
    have nl : ∀ b ∈ as, G.lab b = none := fun b hb => by
      cases q : G.lab b with
      | none => rfl
      | some l =>
        obtain ⟨o, h1⟩ := c.there b hb
        rcases R.stp.labn b l q with h | h
        · rw [hl b hb] at h; cases h
        · rw [h1] at h; cases h
    let Zx (Z : Hp) : Hp := fun b => if b ∈ as then H0 b else Z b
    have zx : ∀ {Z : Hp}, (∀ b o, Z b = some o → b ∈ as → H0 b = some o) → Same Z (Zx Z) := fun {Z} h b o e => by
      show (if b ∈ as then H0 b else Z b) = some o
      by_cases hb : b ∈ as
      · rw [if_pos hb]; exact h b o e hb
      · rw [if_neg hb]; exact e
    have zin : ∀ {Z : Hp} {b : Addr} {o : HO}, Zx Z b = some o → (b ∈ as ∧ H0 b = some o) ∨ Z b = some o := fun {Z b o} e => by
      have e' : (if b ∈ as then H0 b else Z b) = some o := e
      by_cases hb : b ∈ as
      · rw [if_pos hb] at e'; exact .inl ⟨hb, e'⟩
      · rw [if_neg hb] at e'; exact .inr e'
    have hG : Same G.Z (Zx G.Z) := zx fun b o e hb => by
      obtain ⟨o', h1⟩ := c.there b hb
      have h2 := R.ok.zsub b o e
      rw [same b hb o' h1] at h2
      rw [h1, h2]
    have hG0 : Same G0.Z (Zx G0.Z) := zx fun b o e hb => by
      obtain ⟨o', h1⟩ := c.there b hb
      have h2 := R.ok.zsub b o (R.stp.z b o e)
      rw [same b hb o' h1] at h2
      rw [h1, h2]
    have h00 : Same (Zx G0.Z) (Zx G.Z) := fun b o e => by
      show (if b ∈ as then H0 b else G.Z b) = some o
      have e' : (if b ∈ as then H0 b else G0.Z b) = some o := e
      by_cases hb : b ∈ as
      · rw [if_pos hb] at e' ⊢; exact e'
      · rw [if_neg hb] at e' ⊢; exact R.stp.z b o e'
    have R1 : Rel K cl { G0 with Z := Zx G0.Z } H0 S ρ { G with Z := Zx G.Z } σ H := by
      refine ⟨⟨fun b o e => ?_, fun b l e => ?_, fun n c e => (R.ok.st n c e).mono (fun _ _ _ _ _ e => e) hG (fun _ _ e _ => e) ⟨[], by simp⟩, R.ok.stn⟩, R.len, fun k s h => ?_, ⟨h00, R.stp.lab, R.stp.keep, R.stp.labn, fun b o e => ?_, R.stp.mu, R.stp.dom⟩, R.s0⟩
      · rcases zin e with ⟨hb, h⟩ | h
        · exact same b hb o h
        · exact R.ok.zsub b o h
      · obtain ⟨h1, h2⟩ := R.ok.labz b l e
        refine ⟨?_, h2⟩
        show (if b ∈ as then H0 b else G.Z b) = none
        rw [if_neg fun hb => by
          have h7 := nl b hb
          rw [show G.lab b = some l from e] at h7
          cases h7]
        exact h1
      · obtain ⟨o, h1, h2⟩ := R.slot k s h
        refine ⟨o, h1, ?_⟩
        cases s with
        | un => trivial
        | fr d => obtain ⟨v, e, r⟩ := h2; exact ⟨v, e, Rep.mono hG ⟨[], by simp⟩ d v r⟩
        | ow d => obtain ⟨v, e, r⟩ := h2; exact ⟨v, e, r.mono (fun _ _ _ e => e) hG (fun _ e => e) ⟨[], by simp⟩⟩
        | bo d =>
          obtain ⟨v, e, r⟩ := h2
          refine ⟨v, e, ?_⟩
          rcases r with r | ⟨a, as', rfl, c, q⟩
          · exact .inl (Rep.mono hG ⟨[], by simp⟩ d _ r)
          · exact .inr ⟨a, as', rfl, c.mono (fun _ _ _ e => e) hG ⟨[], by simp⟩, q⟩
        | me d => obtain ⟨v, e, r, q⟩ := h2; exact ⟨v, e, r.mono (fun _ _ _ e => e) hG (fun _ e => e) ⟨[], by simp⟩, q⟩
      · rcases zin e with ⟨hb, h⟩ | h
        · left
          show (if b ∈ as then H0 b else G0.Z b) = some o
          rw [if_pos hb]; exact h
        · rcases R.stp.zn b o h with h | h
          · left; exact hG0 b o h
          · exact .inr h
    have rp : Rep K cl G.mu (Zx G.Z) (.ref a) (.nst ds) := c.rep (fun b hb o e => by
      show (if b ∈ as then H0 b else G.Z b) = some o
      rw [if_pos hb]; exact e) hG
    have R2 := R1.setF i (Rep.flat rp)
    rw [es] at R2
    exact ⟨_, _, R2, fun _ _ h => h⟩
end
section
variable {X : Cx} {cl : ClsP} {W : WX} {e tg elt iter : Expr} {c ce : Ex} {tc : Tx} {pos : Pos} {es : List Expr}
def lendB (i : Nat) (ρ : Env) : Env := match ρ[i]? with
  | some (.bo (.nst ds)) => ρ.set i (.fr (.lst ds))
  | _ => ρ
def eLendB (i : Nat) (c : Ex) : Ex := fun ρ S => match ρ[i]? with
  | some (.bo (.nst ds)) => (c (ρ.set i (.fr (.lst ds))) S).bind fun d S' => if d.scal = true then .ok d S' else .stuck
  | _ => c ρ S
def tLendB (i : Nat) (c : Tx) : Tx := fun ρ S => match ρ[i]? with
  | some (.bo (.nst ds)) => c (ρ.set i (.fr (.lst ds))) S
  | _ => c ρ S
theorem se_lendB (i : Nat) (h : SE X cl W e c) : SE X cl W e (eLendB i c) := PE.weak h fun σ H Q ⟨G0, H0, S, ρ, G, R, q⟩ => by
  unfold eLendB at q
  split at q
  · rename_i ds hi
    obtain ⟨G0', G', R', hl⟩ := R.lendB hi
    refine ⟨G0', H0, S, _, G', R', ?_⟩
    cases r : c (ρ.set i (.fr (.lst ds))) S with
    | ok d S' =>
      rw [r] at q
      intro v G2 H2 R2 s p
      simp only [Res.bind] at q
      split at q
      · rename_i hs
        obtain ⟨R3, s3⟩ := R.back hl R2.ok.stn.1 s
        exact q v G H2 R3 s3 (Rep.scal p hs)
      · exact q.elim
    | exc n S' =>
      rw [r] at q
      intro G2 H2 R2 s
      obtain ⟨R3, s3⟩ := R.back hl R2.ok.stn.1 s
      exact q G H2 R3 s3
    | stuck => rw [r] at q; exact q
  · exact ⟨G0, H0, S, ρ, G, R, q⟩
theorem st_lendB (i : Nat) (h : STt X cl W e tc) : STt X cl W e (tLendB i tc) := PT.weak h fun σ H Q ⟨G0, H0, S, ρ, G, R, q⟩ => by
  unfold tLendB at q
  split at q
  · rename_i ds hi
    obtain ⟨G0', G', R', hl⟩ := R.lendB hi
    refine ⟨G0', H0, S, _, G', R', ?_⟩
    cases r : tc (ρ.set i (.fr (.lst ds))) S with
    | ok d S' =>
      rw [r] at q
      intro v G2 H2 R2 s p
      obtain ⟨R3, s3⟩ := R.back hl R2.ok.stn.1 s
      exact q v G H2 R3 s3 p
    | exc n S' =>
      rw [r] at q
      intro G2 H2 R2 s
      obtain ⟨R3, s3⟩ := R.back hl R2.ok.stn.1 s
      exact q G H2 R3 s3
    | stuck => rw [r] at q; exact q
  · exact ⟨G0, H0, S, ρ, G, R, q⟩
/-! ### walking what is borrowed -/
theorem Rel.setB {K : PySem.W.Frag} {G0 G : Gh} {H0 H : Hp} {S : Store} {ρ : Env} {σ : L2.St} {v : V} {d : D} (R : Rel K cl G0 H0 S ρ G σ H) (i : Nat) (r : BorAt K cl G G0 H0 v d) : Rel K cl G0 H0 S (ρ.set i (.bo d)) G (σ.set i (some v)) H :=
  ⟨R.ok, by rw [List.length_set, List.length_set]; exact R.len, fun j s h => set_slot (P := fun j s o => SlotOk K cl G0 H0 G H (.slot j) s o) R.len h ⟨v, rfl, r⟩ fun s' _ e => R.slot j s' e, R.stp, R.s0⟩
def gNb (i : Nat) : Tgt := fun d ρ => some (ρ.set i (.bo d))
theorem lcB_sem {G0 : Gh} {H0 : Hp} {j : Nat} {own : List Nat} {tt : Tx} {elt : Ex} {ds : List D} {a : Addr} {vs : List V} {Gs G1 : Gh} {Hs H1 : Hp} {S1 : Store} {ρ : Env} {σ : L2.St} {Q : VK} (R1 : Rel X.K cl G0 H0 S1 ρ G1 σ H1) (s1 : Stp Gs Hs G1 H1)
    (hj : j ∈ own) (ha : ∀ (S : Store) (G : Gh) (σ : L2.St) (H : Hp), Rel X.K cl G0 H0 S ρ G σ H → Zle G1 G → H a = some (.lst vs)) (hlen : vs.length = ds.length) (hb : ∀ (i : Nat) (v : V) (d : D) (G : Gh), Zle G1 G → vs[i]? = some v → ds[i]? = some d → BorAt X.K cl G G0 H0 v d)
    (h : Aft X.K cl (PN X.K cl) W G0 H0 ρ σ Gs Hs (lcS (gNb j) tt elt (wipeE ρ own) ds [] S1) Q) (L : Addr) (hL : H1 L = none) :
    ∃ Wv : Nat → Nat → Hp → Prop, (∃ m, Wv 0 m (upd H1 L (.lst []))) ∧ ∀ i m H, Wv i m H → ((Itl X.K a).stop i H ∧ Q (.ref L) H) ∨ ((Itl X.K a).go i H ∧ ∃ Nx : Hp → Prop, (∀ H', Nx H' → ∃ m', m' < m ∧ Wv (i + 1) m' H') ∧ ∀ x H', (Itl X.K a).yld i H x H' → gName j x (L2.wipe σ own) H' fun σ2 H2 => L2.wipe σ2 own = L2.wipe σ own ∧ (tX X.K cl PT1 W0 tt) σ2 H2 fun b H3 =>
      if b = true then (tX X.K cl (PF X.K cl) W0 elt) σ2 H3 fun y H4 => ∃ acc, H4 L = some (.lst acc) ∧ acc.length < sizeLine ∧ Nx (upd H4 L (.lst (acc ++ [y]))) else Nx H3) := by
  have hLs : Hs L = none := s1.dom L hL
  let Wv : Nat → Hp → Prop := fun i H => ∃ (S : Store) (G : Gh) (vs : List V) (acc : List D), Rel X.K cl G0 H0 S ρ G σ H ∧ Stp Gs Hs G H ∧ Zle G1 G ∧ H L = some (.lst vs) ∧ RepAll X.K cl G.mu G.Z vs acc ∧ G.lab L = none ∧ G.Z L = none ∧ i ≤ ds.length ∧
    Aft X.K cl (PN X.K cl) W G0 H0 ρ σ Gs Hs (lcS (gNb j) tt elt (wipeE ρ own) (ds.drop i) acc S) Q
  refine ⟨fun i m H => m = ds.length - i ∧ Wv i H, ⟨_, rfl, ?_⟩, ?_⟩
  · obtain ⟨R2, s2, n⟩ := R1.newL hL (vs := []) (ds := []) .nil
    exact ⟨S1, G1, [], [], R2, s1.trans s2, Zle.refl _, upd_same, .nil, (n.2 L (by simp)).1, (n.2 L (by simp)).2, Nat.zero_le _, by rw [List.drop_zero]; exact h⟩
  · rintro i m H ⟨rfl, S, G, ws, acc, R, s, z, hv, r, l1, l2, hi, h⟩
    have hA := ha S G σ H R z
    by_cases hlt : i < ds.length
    · right
      have hd : ds[i]? = some ds[i] := List.getElem?_eq_getElem hlt
      have hvi : vs[i]? = some vs[i] := List.getElem?_eq_getElem (by omega)
      rw [List.drop_eq_getElem_cons hlt] at h
      refine ⟨⟨vs, _, .inl (.inl hA), hvi⟩, fun H' => Wv (i + 1) H', fun H' w => ⟨ds.length - (i + 1), by omega, rfl, w⟩, fun x H2 y => ?_⟩
      obtain ⟨rfl, hx⟩ := y
      have hx := hx _ (.inl (.inl hA))
      rw [hvi] at hx
      cases hx
      unfold lcS at h
      simp only [gNb] at h
      have R2 := (R.wipe own).setB j (hb i _ _ G z hvi hd)
      refine ⟨(wipe_set hj).trans (wipe_wipe own own σ fun _ h => h), G0, H0, S, _, G, R2, ?_⟩
      cases qtt : tt ((wipeE ρ own).set j (.bo ds[i])) S with
      | exc n S2 => simp only [qtt, Aft] at h
      | stuck => simp only [qtt, Aft] at h
      | ok k S2 =>
        simp only [qtt] at h
        intro b G2 H3 R3 s3 eb
        obtain rfl : b = k := eb
        have out : ∀ {G' : Gh} {H' : Hp}, Stp G H2 G' H' → H' L = some (.lst ws) ∧ G'.lab L = none ∧ G'.Z L = none := fun {G' H'} st => by
          refine ⟨st.keep L _ hv (fun l e => by rw [l1] at e; cases e), ?_, ?_⟩
          · cases e : G'.lab L with
            | none => rfl
            | some l =>
              rcases st.labn L l e with h | h
              · rw [l1] at h; cases h
              · rw [hv] at h; cases h
          · cases e : G'.Z L with
            | none => rfl
            | some o =>
              rcases st.zn L o e with h | h
              · rw [l2] at h; cases h
              · rw [hv] at h; cases h
        cases b with
        | false =>
          obtain ⟨o1, o2, o3⟩ := out s3
          exact ⟨S2, G2, ws, acc, R.step s3 R3.ok, s.trans s3, z.trans s3.zle, o1, RepAll.mono s3.z s3.mu _ _ r, o2, o3, hlt, h⟩
        | true =>
          rw [if_pos rfl]
          refine ⟨G0, H0, S2, _, G2, R3, ?_⟩
          cases qe : elt ((wipeE ρ own).set j (.bo ds[i])) S2 with
          | exc n S3 => simp only [qe, if_true, Aft] at h
          | stuck => simp only [qe, if_true, Aft] at h
          | ok y S3 =>
            simp only [qe, if_true] at h
            intro yv G3 H4 R4 s4 ry
            have s34 := s3.trans s4
            obtain ⟨o1, o2, o3⟩ := out s34
            split at h
            · rename_i hz
              refine ⟨ws, o1, by rw [r.length]; exact lim_lt hz, S3, G3, ws ++ [yv], acc ++ [y], (R.step s34 R4.ok).poke o2 o3 (R1.stp.dom L hL) ⟨_, o1⟩ _, (s.trans s34).poke hLs _, z.trans s34.zle, upd_same, (RepAll.mono s34.z s34.mu _ _ r).append (.cons ry .nil), o2, o3, hlt, h⟩
            · exact h.elim
    · left
      have e : i = ds.length := by omega
      subst e
      rw [List.drop_length] at h
      exact ⟨⟨vs, .inl (.inl hA), by rw [hlen]; exact Nat.le_refl _⟩, h _ G H R s ⟨L, [L], rfl, ⟨.lst hv r, fun b hb => by simp at hb; subst hb; exact ⟨l1, l2⟩⟩, fun b hb => by simp at hb; subst hb; exact hLs⟩⟩
/-- [.. for y in x], x borrowed -/
def eLcB (own : List Nat) (i j : Nat) (tt : Tx) (elt : Ex) : Ex := fun ρ S => match ρ[i]? with
  | some (.bo (.nst ds)) => lcS (gNb j) tt elt (wipeE ρ own) ds [] S
  | _ => eLc own (iB i) (gN j) tt elt ρ S
theorem sn_lcB {i j : Nat} {x : Str} {px : Pos} {ifs : List Expr} {scope : Scope} {own : List (Str × Nat)} {tt : Tx} {ce : Ex} (hj : j ∈ own.map (·.2)) (hc : X.calm = true) (hN : X.N.Nodup) (hv : PE X (.Name x px) (tVar i)) (ok : BlkOk X.N X.env.scope scope own)
    (hg : ∀ (s : Shared) (H : Hp) (C : Addr) (cs : List (Str × Addr)) (fp : List Addr), PG (X.blk s H scope (compEnvC scope cs C X.env) fp) tg (gName j))
    (ht : ∀ (s : Shared) (H : Hp) (C : Addr) (cs : List (Str × Addr)) (fp : List Addr), STs (X.blk s H scope (compEnvC scope cs C X.env) fp) cl W0 ifs tt) (he : ∀ (s : Shared) (H : Hp) (C : Addr) (cs : List (Str × Addr)) (fp : List Addr), SE (X.blk s H scope (compEnvC scope cs C X.env) fp) cl W0 elt ce)
    (hs : ∀ z, foldedSetIterable (.Name x px) X.env z = pure z := by intro _; rfl) : SN X cl W (.ListComp elt [⟨tg, .Name x px, ifs, 0⟩] scope pos) (eLcB (own.map (·.2)) i j tt ce) :=
  PE.weak (pe_lc (wi := fun σ H R => iList X.K (tVar i) σ H R) (tt := tX X.K cl PT1 W0 tt) (te := tX X.K cl (PF X.K cl) W0 ce) hc hN (pi_list hv) ok hg ht he hs) fun σ H Q ⟨G0, H0, S, ρ, G, R, h⟩ => by
    unfold eLcB at h
    split at h
    · rename_i ds q
      obtain ⟨o, ho, v, rfl, bor⟩ := R.slot i _ q
      rcases bor with r | ⟨a, as, rfl, cc, hl⟩
      · cases r with
        | nst hz ra =>
          rename_i a vs
          exact ⟨_, ho, a, rfl, ⟨vs, .inl (.inl (R.ok.zsub _ _ hz))⟩, fun L hL => lcB_sem (vs := vs) R (Stp.refl _ _) hj (fun S G' σ H' R' z => R'.ok.zsub _ _ (z.z _ _ hz)) ra.length (fun i v d G' z hv hd => by
              obtain ⟨v', h1, h2⟩ := ra.get hd
              rw [hv] at h1
              cases h1
              exact .inl (Rep.mono z.z z.mu _ _ h2)) h L hL⟩
      · cases cc with
        | nst h1 r n =>
          rename_i bs
          have ln : ∀ l, G0.lab a = some l → l.st = false := fun l e => by rw [hl a (by simp)] at e; cases e
          exact ⟨_, ho, a, rfl, ⟨_, .inl (.inl (R.stp.keep _ _ h1 ln))⟩, fun L hL => lcB_sem (vs := bs.map .ref) R (Stp.refl _ _) hj (fun S G' σ H' R' z => R'.stp.keep _ _ h1 ln) (by rw [List.length_map, r.length]) (fun i v d G' z hv hd => by
            obtain ⟨b, ws, es, hb, rfl, hH, rw_⟩ := r.get hd
            rw [List.getElem?_map, hb] at hv
            cases hv
            exact .inr ⟨b, [b], rfl, .lst hH (RepAll.mono z.z z.mu _ _ rw_), fun x hx => by
              simp at hx
              subst hx
              exact hl _ (List.mem_cons_of_mem _ (List.mem_of_getElem? hb))⟩) h L hL⟩
    · have key : tI X.K cl W (iB i) σ H (fun J H1 => ∀ L, H1 L = none → ∃ Wv : Nat → Nat → Hp → Prop, (∃ m, Wv 0 m (upd H1 L (.lst []))) ∧ ∀ i m H, Wv i m H → (J.stop i H ∧ Q (.ref L) H) ∨ (J.go i H ∧ ∃ Nx : Hp → Prop, (∀ H', Nx H' → ∃ m', m' < m ∧ Wv (i + 1) m' H') ∧ ∀ x H', J.yld i H x H' → gName j x (L2.wipe σ (own.map (·.2))) H' fun σ2 H2 => L2.wipe σ2 (own.map (·.2)) = L2.wipe σ (own.map (·.2)) ∧ (tX X.K cl PT1 W0 tt) σ2 H2 fun b H3 =>
        if b = true then (tX X.K cl (PF X.K cl) W0 ce) σ2 H3 fun y H4 => ∃ acc, H4 L = some (.lst acc) ∧ acc.length < sizeLine ∧ Nx (upd H4 L (.lst (acc ++ [y]))) else Nx H3)) := by
        refine ⟨G0, H0, S, ρ, G, R, ?_⟩
        unfold eLc at h
        cases q : iB i ρ S with
        | exc n S' => rw [q] at h; exact h
        | stuck => rw [q] at h; exact h
        | ok ds S1 =>
          rw [q] at h
          exact fun J G1 H1 R1 s1 it L hL => lc_sem R1 s1 it tg_name (tgo_name hj) h L hL
      exact bor_sem key
/-- name = [[..] ..] on one line -/
theorem ss_setNLc {i : Nat} {y : Str} {py spos : Pos} {ifs : List Expr} {scope : Scope} {own : List (Str × Nat)} {g : TG} {gt : Tgt} {ci : Ix} {tt : Tx} {ce : Ex} (hc : X.calm = true) (hN : X.N.Nodup) (hy : X.N[i]? = some y) (hyl : X.env.scope.names.lookup y = some .local)
    (hsw : swapsWith (.ListComp elt [⟨tg, iter, ifs, 0⟩] scope pos) (some (.Name y py)) spos.line X.env = pure true) (hi : SI X cl W tg iter ci) (ok : BlkOk X.N X.env.scope scope own)
    (hg : ∀ (s : Shared) (H : Hp) (C : Addr) (cs : List (Str × Addr)) (fp : List Addr), PG (X.blk s H scope (compEnvC scope cs C X.env) fp) tg g) (hgs : TgS X cl g gt) (hgo : TgO g (own.map (·.2)))
    (ht : ∀ (s : Shared) (H : Hp) (C : Addr) (cs : List (Str × Addr)) (fp : List Addr), STs (X.blk s H scope (compEnvC scope cs C X.env) fp) cl W0 ifs tt) (he : ∀ (s : Shared) (H : Hp) (C : Addr) (cs : List (Str × Addr)) (fp : List Addr), SN (X.blk s H scope (compEnvC scope cs C X.env) fp) cl W0 elt ce)
    (hs : ∀ x, foldedSetIterable iter X.env x = pure x := by intro _; rfl) : SS X cl W (.Assign [.Name y py] (.ListComp elt [⟨tg, iter, ifs, 0⟩] scope pos) spos) (sSetN i (eNLc (own.map (·.2)) ci gt tt ce)) := PS.weak (ps_setLc (tt := tX X.K cl PT1 W0 tt) (te := tX X.K cl (PN X.K cl) W0 ce) hc hN hy hyl hsw hi ok hg ht he hs) fun D σ H ⟨G0, H0, S, ρ, G, R, h⟩ => by
  refine ⟨G0, H0, S, ρ, G, R, ?_⟩
  unfold sSetN sEx eNLc at h
  cases q : ci ρ S with
  | exc n S' => simp only [q, Res.bind] at h; exact fun G' H' R' s => h G' σ H' R' s.zle
  | stuck => simp only [q, Res.bind] at h; exact h
  | ok ds S1 =>
    simp only [q, Res.bind] at h
    intro J G1 H1 R1 s1 it L hL
    refine nlc_sem (W := W) (Q := fun x H1 => gName i x σ H1 D.nx) (tt := tt) (elt := ce) R1 s1 it hgs hgo ?_ L hL
    cases q2 : lcNS gt tt ce (wipeE ρ (own.map (·.2))) ds [] S1 with
    | exc n S2 => simp only [q2] at h; exact fun G' H' R' s => h G' σ H' R' s.zle
    | stuck => simp only [q2] at h; exact h
    | ok d S2 =>
      simp only [q2] at h
      rintro v G' H' R' s ⟨a, as, rfl, n, hn⟩
      exact h _ _ H' (R'.setN i n fun b hb => R.stp.dom b (hn b hb)) ⟨s.z, s.mu⟩
/-- a comprehension within one -/
def relabS (scope sc : Scope) : Scope := { scope with names := scope.names.map fun (n, k) => if (k == .free && sc.kind == .function && sc.names.lookup n == some .cell) then (n, .cell) else (n, k) }
theorem blkOk_in {s : Shared} {H : Hp} {scope scope2 sc : Scope} {C : Addr} {cs : List (Str × Addr)} {fp : List Addr} {N : List Str} {own : List (Str × Nat)} (hN : X.N = N) (hsc : X.env.scope = sc) (h : blkC N (relabS scope sc) scope2 own = true) : BlkOk (X.blk s H scope (compEnvC scope cs C X.env) fp).N (X.blk s H scope (compEnvC scope cs C X.env) fp).env.scope scope2 own := by
  have e1 : (X.blk s H scope (compEnvC scope cs C X.env) fp).N = N := hN
  have e2 : (X.blk s H scope (compEnvC scope cs C X.env) fp).env.scope = relabS scope sc := by
    rw [← hsc]
    rfl
  rw [e1, e2]
  exact blkOk_by h
end
end PM
set_option maxHeartbeats 1000000
/-! PU1: running the worth of a def, rule by rule, on data. -/
namespace PM
open PySem PySem.Spec PyProof.Rows L2

/-! ### places of an environment -/
inductive Nth : Env → Nat → Slot → Prop
  | z {s : Slot} {l : Env} : Nth (s :: l) 0 s
  | s {a s : Slot} {l : Env} {n : Nat} : Nth l n s → Nth (a :: l) (n + 1) s
inductive SetR : Env → Nat → Slot → Env → Prop
  | z {a s : Slot} {l : Env} : SetR (a :: l) 0 s (s :: l)
  | s {a s : Slot} {l l' : Env} {n : Nat} : SetR l n s l' → SetR (a :: l) (n + 1) s (a :: l')
theorem Nth.eq {l : Env} {n : Nat} {s : Slot} (h : Nth l n s) : l[n]? = some s := by
  induction h with
  | z => rfl
  | s _ ih => simpa using ih
theorem SetR.eq {l l' : Env} {n : Nat} {s : Slot} (h : SetR l n s l') : l.set n s = l' := by
  induction h with
  | z => rfl
  | s _ ih => simp [ih]

section
variable {ρ ρ' : Env} {S S1 S2 S3 : Store} {c ca cb cc : Ex} {d e u z : D} {i n : Nat} {ta tb : Tx} {k p q : Bool} {ax : Ax} {ds : List D} {r : Res D}

/-! ### expressions -/
theorem x_C : eC d ρ S = .ok d S := rfl
theorem x_V (h : Nth ρ i (.fr d)) : eV i ρ S = .ok d S := by simp only [eV, h.eq]
theorem x_Bf (h : Nth ρ i (.fr d)) : eB i ρ S = .ok d S := by simp only [eB, h.eq]
theorem x_Bo (h : Nth ρ i (.ow d)) : eB i ρ S = .ok d S := by simp only [eB, h.eq]
theorem x_Bb (h : Nth ρ i (.bo d)) : eB i ρ S = .ok d S := by simp only [eB, h.eq]
theorem x_Bm (h : Nth ρ i (.me d)) : eB i ρ S = .ok d S := by simp only [eB, h.eq]
theorem x_Bin {f : D → D → Option D} (ha : ca ρ S = .ok d S1) (hb : cb ρ S1 = .ok e S2) (h : f d e = some z) : eBin f ca cb ρ S = .ok z S2 := by
  simp only [eBin, ha, hb, Res.bind, h, Res.opt]
theorem x_Un {f : D → Option D} (ha : ca ρ S = .ok d S1) (h : f d = some z) : eUn f ca ρ S = .ok z S1 := by
  simp only [eUn, ha, Res.bind, h, Res.opt]
theorem x_Tr (ha : ca ρ S = .ok d S1) (h : d.truth = some k) : eTr ca ρ S = .ok k S1 := by
  simp only [eTr, ha, Res.bind, h, Res.opt]
theorem x_TrB (ha : ca ρ S = .ok (.bl k) S1) : eTr ca ρ S = .ok k S1 := x_Tr ha rfl
theorem x_tAndF (ha : ta ρ S = .ok k S1) (hk : k = false) : tAndD ta tb ρ S = .ok false S1 := by
  subst hk; simp [tAndD, ha, Res.bind]
theorem x_tAndT (ha : ta ρ S = .ok k S1) (hk : k = true) (hb : tb ρ S1 = .ok q S2) : tAndD ta tb ρ S = .ok q S2 := by
  subst hk; simp [tAndD, ha, Res.bind, hb]
theorem x_tAnd (ha : ta ρ S = .ok p S1) (hb : p = true → tb ρ S1 = .ok q S1) : tAndD ta tb ρ S = .ok (p && q) S1 := by
  cases p with
  | true => simp [tAndD, ha, Res.bind, hb rfl]
  | false => simp [tAndD, ha, Res.bind]
theorem x_tOrT (ha : ta ρ S = .ok k S1) (hk : k = true) : tOrD ta tb ρ S = .ok true S1 := by
  subst hk; simp [tOrD, ha, Res.bind]
theorem x_tOrF (ha : ta ρ S = .ok k S1) (hk : k = false) (hb : tb ρ S1 = .ok q S2) : tOrD ta tb ρ S = .ok q S2 := by
  subst hk; simp [tOrD, ha, Res.bind, hb]
theorem x_tOr (ha : ta ρ S = .ok p S1) (hb : p = false → tb ρ S1 = .ok q S1) : tOrD ta tb ρ S = .ok (p || q) S1 := by
  cases p with
  | true => simp [tOrD, ha, Res.bind]
  | false => simp [tOrD, ha, Res.bind, hb rfl]
def tAndK (k : Bool) (tb : Tx) : Tx := fun ρ S => if k = true then tb ρ S else .ok false S
def tOrK (k : Bool) (tb : Tx) : Tx := fun ρ S => if k = true then .ok true S else tb ρ S
def eAndK (k : Bool) (cb : Ex) : Ex := fun ρ S => if k = true then cb ρ S else .ok (.bl false) S
def eOrK (k : Bool) (cb : Ex) : Ex := fun ρ S => if k = true then .ok (.bl true) S else cb ρ S
def eIfK (k : Bool) (ca cb : Ex) : Ex := fun ρ S => if k = true then ca ρ S else cb ρ S
def sIfK (k : Bool) (a b : Stm) : Stm := fun ρ S => if k = true then a ρ S else b ρ S
section
variable {rb : Res Bool}
theorem k_tAnd (ha : ta ρ S = .ok k S1) (h : tAndK k tb ρ S1 = rb) : tAndD ta tb ρ S = rb := by simp only [tAndD, ha, Res.bind]; exact h
theorem k_tOr (ha : ta ρ S = .ok k S1) (h : tOrK k tb ρ S1 = rb) : tOrD ta tb ρ S = rb := by simp only [tOrD, ha, Res.bind]; exact h
theorem k_And (ha : ca ρ S = .ok (.bl k) S1) (h : eAndK k cb ρ S1 = r) : eAndD ca cb ρ S = r := by
  simp only [eAndD, ha, Res.bind]; cases k <;> exact h
theorem k_Or (ha : ca ρ S = .ok (.bl k) S1) (h : eOrK k cb ρ S1 = r) : eOrD ca cb ρ S = r := by
  simp only [eOrD, ha, Res.bind]; cases k <;> exact h
theorem k_If (ha : ta ρ S = .ok k S1) (h : eIfK k ca cb ρ S1 = r) : eIf ta ca cb ρ S = r := by simp only [eIf, ha, Res.bind]; exact h
theorem k_tAndF (h : k = false) : tAndK k tb ρ S = .ok false S := by subst h; rfl
theorem k_tAndT (h : k = true) (hb : tb ρ S = rb) : tAndK k tb ρ S = rb := by subst h; exact hb
theorem k_tAndS (hb : k = true → tb ρ S = .ok q S) : tAndK k tb ρ S = .ok (k && q) S := by cases k <;> simp [tAndK, hb]
theorem k_tOrT (h : k = true) : tOrK k tb ρ S = .ok true S := by subst h; rfl
theorem k_tOrF (h : k = false) (hb : tb ρ S = rb) : tOrK k tb ρ S = rb := by subst h; exact hb
theorem k_tOrS (hb : k = false → tb ρ S = .ok q S) : tOrK k tb ρ S = .ok (k || q) S := by cases k <;> simp [tOrK, hb]
theorem k_AndF (h : k = false) : eAndK k cb ρ S = .ok (.bl false) S := by subst h; rfl
theorem k_AndT (h : k = true) (hb : cb ρ S = r) : eAndK k cb ρ S = r := by subst h; exact hb
theorem k_AndS (hb : k = true → cb ρ S = .ok (.bl q) S) : eAndK k cb ρ S = .ok (.bl (k && q)) S := by cases k <;> simp [eAndK, hb]
theorem k_OrT (h : k = true) : eOrK k cb ρ S = .ok (.bl true) S := by subst h; rfl
theorem k_OrF (h : k = false) (hb : cb ρ S = r) : eOrK k cb ρ S = r := by subst h; exact hb
theorem k_OrS (hb : k = false → cb ρ S = .ok (.bl q) S) : eOrK k cb ρ S = .ok (.bl (k || q)) S := by cases k <;> simp [eOrK, hb]
theorem k_IfT (h : k = true) (hb : ca ρ S = r) : eIfK k ca cb ρ S = r := by subst h; exact hb
theorem k_IfF (h : k = false) (hb : cb ρ S = r) : eIfK k ca cb ρ S = r := by subst h; exact hb
end
theorem x_tNot (ha : ta ρ S = .ok p S1) : tNotD ta ρ S = .ok (!p) S1 := by simp [tNotD, ha, Res.bind]
theorem x_AndF (ha : ca ρ S = .ok (.bl k) S1) (hk : k = false) : eAndD ca cb ρ S = .ok (.bl false) S1 := by
  subst hk; simp [eAndD, ha, Res.bind]
theorem x_AndT (ha : ca ρ S = .ok (.bl k) S1) (hk : k = true) (hb : cb ρ S1 = .ok z S2) : eAndD ca cb ρ S = .ok z S2 := by
  subst hk; simp [eAndD, ha, Res.bind, hb]
theorem x_And (ha : ca ρ S = .ok (.bl p) S1) (hb : p = true → cb ρ S1 = .ok (.bl q) S1) : eAndD ca cb ρ S = .ok (.bl (p && q)) S1 := by
  cases p with
  | true => simp [eAndD, ha, Res.bind, hb rfl]
  | false => simp [eAndD, ha, Res.bind]
theorem x_OrT (ha : ca ρ S = .ok (.bl k) S1) (hk : k = true) : eOrD ca cb ρ S = .ok (.bl true) S1 := by
  subst hk; simp [eOrD, ha, Res.bind]
theorem x_OrF (ha : ca ρ S = .ok (.bl k) S1) (hk : k = false) (hb : cb ρ S1 = .ok z S2) : eOrD ca cb ρ S = .ok z S2 := by
  subst hk; simp [eOrD, ha, Res.bind, hb]
theorem x_Or (ha : ca ρ S = .ok (.bl p) S1) (hb : p = false → cb ρ S1 = .ok (.bl q) S1) : eOrD ca cb ρ S = .ok (.bl (p || q)) S1 := by
  cases p with
  | true => simp [eOrD, ha, Res.bind]
  | false => simp [eOrD, ha, Res.bind, hb rfl]
theorem x_Not (ha : ca ρ S = .ok (.bl p) S1) : eNotD ca ρ S = .ok (.bl (!p)) S1 := by simp [eNotD, ha, Res.bind]
theorem x_IfT (ha : ta ρ S = .ok k S1) (hk : k = true) (h : ca ρ S1 = r) : eIf ta ca cb ρ S = r := by
  subst hk; simp [eIf, ha, Res.bind, h]
theorem x_IfF (ha : ta ρ S = .ok k S1) (hk : k = false) (h : cb ρ S1 = r) : eIf ta ca cb ρ S = r := by
  subst hk; simp [eIf, ha, Res.bind, h]
theorem x_aNil : aNil ρ S = .ok [] S := rfl
theorem x_aCons (ha : ca ρ S = .ok d S1) (hb : ax ρ S1 = .ok ds S2) : aCons ca ax ρ S = .ok (d :: ds) S2 := by simp [aCons, ha, Res.bind, hb]
theorem x_Lst (ha : ax ρ S = .ok ds S1) (h : ds.length ≤ 1000000) : eLst ax ρ S = .ok (.lst ds) S1 := by simp [eLst, ha, Res.bind, h]
theorem x_Tup (ha : ax ρ S = .ok ds S1) (h : ds.length ≤ 1000000) : eTup ax ρ S = .ok (.tup ds) S1 := by simp [eTup, ha, Res.bind, h]
theorem x_Dic0 : eDic0 ρ S = .ok (.dic []) S := rfl
theorem x_pNo : pNo ρ S = .ok none S := rfl
theorem x_pAt {j : Int} (ha : ca ρ S = .ok (.int j) S1) : pAt ca ρ S = .ok (some j) S1 := by simp [pAt, ha, Res.bind]
theorem x_Cut {f : D → Option Int → Option Int → Option D} {pl ph : Px} {lo hi : Option Int} (ha : ca ρ S = .ok d S1) (hl : pl ρ S1 = .ok lo S2) (hh : ph ρ S2 = .ok hi S3) (h : f d lo hi = some z) : eCut f ca pl ph ρ S = .ok z S3 := by
  simp [eCut, ha, hl, hh, Res.bind, h, Res.opt]
theorem x_Fn {f : List D → Option D} (ha : ax ρ S = .ok ds S1) (h : f ds = some z) : eFn f ax ρ S = .ok z S1 := by
  simp [eFn, ha, Res.bind, h, Res.opt]
theorem x_IsT {T : String} (ha : ca ρ S = .ok d S1) (h : d.isT T = some k) : eIsT T ca ρ S = .ok (.bl k) S1 := by
  simp [eIsT, ha, Res.bind, h, Res.opt]
theorem x_Call {m : Fn} {v : Val} (ha : ax ρ S = .ok ds S1) (h : m ds S1 = .ok v S2) (hr : resF (.ok v S2) = .ok d S3) : eCall m ax ρ S = .ok d S3 := by
  simp [eCall, ha, Res.bind, h, hr]
theorem x_CallN {m : Fn} (ha : ax ρ S = .ok ds S1) (h : m ds S1 = .ok (.ow d) S2) : eCallN m ax ρ S = .ok d S2 := by
  simp [eCallN, ha, Res.bind, h, resN]
theorem x_Meth {mn : Str} {mt : MTab} {cls : Nat} {fs : List (Str × D)} {fn : Fn} {fin : Res Val → Res D} {v : Res Val} (ha : ca ρ S = .ok (.obj cls fs) S1) (hl : fs.lookup mn = none) (hm : mt cls = some fn) (hx : ax ρ S1 = .ok ds S2) (h : fn (.obj cls fs :: ds) S2 = v) (hr : fin v = r) : eMeth mn mt ca ax fin ρ S = r := by
  simp [eMeth, ha, Res.bind, hl, hm, hx, h, hr]
theorem x_MethR {mn : Str} {mt : MTab} {n : Nat} {cell : PM.Cell} {fn : Fn} {fin : Res Val → Res D} {v : Res Val} (ha : ca ρ S = .ok (.rf n) S1) (hc : S1[n]? = some cell) (hl : cell.fs.lookup mn = none) (hm : mt cell.c = some fn) (hx : ax ρ S1 = .ok ds S2) (h : fn (.rf n :: ds) S2 = v) (hr : fin v = r) : eMeth mn mt ca ax fin ρ S = r := by
  simp [eMeth, ha, Res.bind, hc, hl, hm, hx, h, hr]
theorem x_ChT {f f' : D → D → Option D} (ha : ca ρ S = .ok d S1) (hb : cb ρ S1 = .ok e S2) (h : f d e = some (.bl k)) (hk : k = true) (hc : cc ρ S2 = .ok u S3) (h' : f' e u = some z) : eChain f f' ca cb cc ρ S = .ok z S3 := by
  subst hk; simp [eChain, ha, hb, Res.bind, h, hc, h', Res.opt]
theorem x_ChF {f f' : D → D → Option D} (ha : ca ρ S = .ok d S1) (hb : cb ρ S1 = .ok e S2) (h : f d e = some (.bl k)) (hk : k = false) : eChain f f' ca cb cc ρ S = .ok (.bl false) S2 := by
  subst hk; simp [eChain, ha, hb, Res.bind, h]
theorem x_Ch {f f' : D → D → Option D} (ha : ca ρ S = .ok d S1) (hb : cb ρ S1 = .ok e S2) (h : f d e = some (.bl p)) (hc : cc ρ S2 = .ok u S2) (h' : f' e u = some (.bl q)) : eChain f f' ca cb cc ρ S = .ok (.bl (p && q)) S2 := by
  cases p <;> simp [eChain, ha, hb, Res.bind, h, hc, h', Res.opt]

/-! ### what is walked -/
theorem x_iL (ha : ca ρ S = .ok (.lst ds) S1) : iL ca ρ S = .ok ds S1 := by simp [iL, ha, Res.bind]
theorem x_iLs {ns : List Int} (ha : ca ρ S = .ok (.scr ns) S1) : iL ca ρ S = .ok (ns.map .int) S1 := by simp [iL, ha, Res.bind]
theorem x_iBf (h : Nth ρ i (.fr (.lst ds))) : iB i ρ S = .ok ds S := by simp [iB, h.eq]
theorem x_iBb (h : Nth ρ i (.bo (.lst ds))) : iB i ρ S = .ok ds S := by simp [iB, h.eq]
theorem x_iT (ha : ca ρ S = .ok (.tup ds) S1) : iT ca ρ S = .ok ds S1 := by simp [iT, ha, Res.bind]
theorem x_iS {x : Str} (ha : ca ρ S = .ok (.str x) S1) : iS ca ρ S = .ok (x.cps.toList.map fun c => .str ⟨#[c]⟩) S1 := by simp [iS, ha, Res.bind]
theorem x_iFn {f : List D → Option (List D)} {es : List D} (ha : ax ρ S = .ok ds S1) (h : f ds = some es) : iFn f ax ρ S = .ok es S1 := by simp [iFn, ha, Res.bind, h, Res.opt]
theorem fR1_ok {j : Int} (h : -1000000000 ≤ j ∧ j ≤ 1000000000) : fR1 [.int j] = some (rngD 0 j.toNat) := by simp [fR1, h]
theorem fR2_ok {i j : Int} (h : (-1000000000 ≤ i ∧ i ≤ 1000000000) ∧ -1000000000 ≤ j ∧ j ≤ 1000000000) : fR2 [.int i, .int j] = some (rngD i (j - i).toNat) := by simp [fR2, h]

/-! ### statements -/
variable {Q : SR → Prop} {a b : Stm} {tg : Tgt}
structure Run (c : Stm) (ρ : Env) (S : Store) (Q : SR → Prop) : Prop where
  run : Q (c ρ S)
theorem r_of (h : c ρ S = r) : c ρ S = r := h
def seqQ (b : Stm) (Q : SR → Prop) : SR → Prop := fun r => match r with
  | .nx ρ S => Run b ρ S Q
  | r => Q r
theorem r_Seq (h : Run a ρ S (seqQ b Q)) : Run (sSeq a b) ρ S Q := by
  refine ⟨?_⟩
  have h := h.run
  unfold sSeq
  unfold seqQ at h
  cases q : a ρ S <;> simp only [q] at h ⊢
  · exact h.run
  all_goals exact h
theorem r_seqQ (h : Run b ρ S Q) : seqQ b Q (.nx ρ S) := h
theorem r_seqR {v : Val} (h : Q (.rt v S)) : seqQ b Q (.rt v S) := h
theorem r_Nx (h : Q (.nx ρ S)) : Run sNx ρ S Q := ⟨h⟩
theorem r_Pass (h : Q (.nx ρ S)) : Run sPass ρ S Q := ⟨h⟩
theorem r_Brk (h : Q (.bk ρ S)) : Run sBrk ρ S Q := ⟨h⟩
theorem r_Cnt (h : Q (.ct ρ S)) : Run sCnt ρ S Q := ⟨h⟩
theorem r_Ex {α : Type} {c : Env → Store → Res α} {k : α → Stm} {x : α} (h : c ρ S = .ok x S1) (hk : Q (k x ρ S1)) : Run (sEx c k) ρ S Q := by
  refine ⟨?_⟩; unfold sEx; rw [h]; exact hk
theorem r_Drop (h : c ρ S = .ok d S1) (hk : Q (.nx ρ S1)) : Run (sDrop c) ρ S Q := r_Ex h hk
theorem r_Set (h : c ρ S = .ok d S1) (hs : SetR ρ i (.fr d) ρ') (hk : Q (.nx ρ' S1)) : Run (sSet i c) ρ S Q := r_Ex h (by rw [hs.eq]; exact hk)
theorem r_SetN (h : c ρ S = .ok d S1) (hs : SetR ρ i (.ow d) ρ') (hk : Q (.nx ρ' S1)) : Run (sSetN i c) ρ S Q := r_Ex h (by rw [hs.eq]; exact hk)
theorem r_Ret (h : c ρ S = .ok d S1) (hk : Q (.rt (.fr d) S1)) : Run (sRet c) ρ S Q := r_Ex h hk
theorem r_RetN (h : c ρ S = .ok d S1) (hk : Q (.rt (.ow d) S1)) : Run (sRetN c) ρ S Q := r_Ex h hk
theorem r_Ret0 (hk : Q (.rt (.fr .non) S)) : Run sRet0 ρ S Q := ⟨hk⟩
theorem r_RetVo (h : Nth ρ i (.ow d)) (hk : Q (.rt (.ow d) S)) : Run (sRetV i) ρ S Q := by refine ⟨?_⟩; unfold sRetV; rw [h.eq]; exact hk
theorem r_RetVf (h : Nth ρ i (.fr d)) (hk : Q (.rt (.fr d) S)) : Run (sRetV i) ρ S Q := by refine ⟨?_⟩; unfold sRetV; rw [h.eq]; exact hk
theorem r_IfT (h : ta ρ S = .ok k S1) (e : k = true) (hk : Run a ρ S1 Q) : Run (sIf ta a b) ρ S Q := r_Ex h (by rw [if_pos e]; exact hk.run)
theorem r_IfF (h : ta ρ S = .ok k S1) (e : k = false) (hk : Run b ρ S1 Q) : Run (sIf ta a b) ρ S Q := r_Ex h (by rw [if_neg (by simp [e])]; exact hk.run)
theorem r_If (h : ta ρ S = .ok k S1) (ha : k = true → Run a ρ S1 Q) (hb : k = false → Run b ρ S1 Q) : Run (sIf ta a b) ρ S Q := by
  cases k with
  | true => exact r_IfT h rfl (ha rfl)
  | false => exact r_IfF h rfl (hb rfl)
theorem r_IfK (h : ta ρ S = .ok k S1) (hk : Run (sIfK k a b) ρ S1 Q) : Run (sIf ta a b) ρ S Q := r_Ex h hk.run
theorem r_KT (e : k = true) (hk : Run a ρ S Q) : Run (sIfK k a b) ρ S Q := by subst e; exact ⟨hk.run⟩
theorem r_KF (e : k = false) (hk : Run b ρ S Q) : Run (sIfK k a b) ρ S Q := by subst e; exact ⟨hk.run⟩
theorem r_K2 (ha : k = true → Run a ρ S Q) (hb : k = false → Run b ρ S Q) : Run (sIfK k a b) ρ S Q := by
  cases k with
  | true => exact ⟨(ha rfl).run⟩
  | false => exact ⟨(hb rfl).run⟩
theorem r_Fzo (h : Nth ρ i (.ow d)) (hs : SetR ρ i (.fr d) ρ') (hk : Q (.nx ρ' S)) : Run (sFz i) ρ S Q := by refine ⟨?_⟩; unfold sFz; simp only [h.eq, hs.eq]; exact hk
theorem r_Fzf (h : Nth ρ i (.fr d)) (hk : Q (.nx ρ S)) : Run (sFz i) ρ S Q := by refine ⟨?_⟩; unfold sFz; rw [h.eq]; exact hk
theorem r_Aug {f : D → D → Option D} (h : Nth ρ i (.fr d)) (he : c ρ S = .ok e S1) (hf : f d e = some z) (hs : SetR ρ i (.fr z) ρ') (hk : Q (.nx ρ' S1)) : Run (sAug i f c) ρ S Q := by
  refine ⟨?_⟩; unfold sAug; simp only [h.eq, sEx, he, hf, hs.eq]; exact hk
theorem r_Lm {f : List D → List D → Option (List D)} {xs es zs : List D} (h : Nth ρ i (.ow (.lst xs))) (he : ax ρ S = .ok es S1) (hf : f xs es = some zs) (hs : SetR ρ i (.ow (.lst zs)) ρ') (hk : Q (.nx ρ' S1)) : Run (sLm i f ax) ρ S Q := by
  refine ⟨?_⟩; unfold sLm; simp only [h.eq, sEx, he, hf, hs.eq]; exact hk
theorem r_SetIx {ci : Ex} {xs : List D} {j : Int} (h : Nth ρ i (.ow (.lst xs))) (he : c ρ S = .ok d S1) (hi : ci ρ S1 = .ok (.int j) S2) (hn : ixN xs.length j = some n) (hs : SetR ρ i (.ow (.lst (xs.set n d))) ρ') (hk : Q (.nx ρ' S2)) : Run (sSetIx i ci c) ρ S Q := by
  refine ⟨?_⟩; unfold sSetIx; simp only [h.eq, sEx, he, hi, hn, hs.eq]; exact hk
theorem r_Put {ci : Ex} {xs : List (Key × D)} {j : Key} (h : Nth ρ i (.ow (.dic xs))) (he : c ρ S = .ok d S1) (hi : ci ρ S1 = .ok e S2) (hj : e.key = some j) (hl : xs.length < 1000000) (hs : SetR ρ i (.ow (.dic (putD xs j d))) ρ') (hk : Q (.nx ρ' S2)) : Run (sPut i ci c) ρ S Q := by
  refine ⟨?_⟩; unfold sPut; simp only [h.eq, sEx, he, hi, hj, hl, if_true, hs.eq]; exact hk
theorem r_For {ci : Ix} (h : ci ρ S = .ok ds S1) (hk : Run (forS tg a ds) ρ S1 Q) : Run (sFor ci tg a) ρ S Q := r_Ex h hk.run
/-- a loop by what holds ahead of the items left -/
theorem r_forS (I : List D → Env → Store → Prop) (h0 : I ds ρ S)
    (hs : ∀ d ds ρ S, I (d :: ds) ρ S → ∃ ρ1, tg d ρ = some ρ1 ∧ Run a ρ1 S fun r => match r with
      | .nx ρ' S' => I ds ρ' S'
      | .ct ρ' S' => I ds ρ' S'
      | .bk ρ' S' => Q (.nx ρ' S')
      | .rt v S' => Q (.rt v S')
      | .exc n ρ' S' => Q (.exc n ρ' S')
      | .stuck => False)
    (hd : ∀ ρ S, I [] ρ S → Q (.nx ρ S)) : Run (forS tg a ds) ρ S Q := by
  induction ds generalizing ρ S with
  | nil => exact ⟨hd ρ S h0⟩
  | cons d ds ih =>
    obtain ⟨ρ1, h1, h2⟩ := hs d ds ρ S h0
    have h2 := h2.run
    refine ⟨?_⟩
    unfold forS
    rw [h1]
    simp only
    cases q : a ρ1 S <;> simp only [q] at h2 ⊢
    · exact (ih h2).run
    · exact h2
    · exact h2
    · exact (ih h2).run
    · exact h2
theorem r_while (I : Nat → Env → Store → Prop) {m : Nat} (hm : m < FUEL) (h0 : I m ρ S)
    (hs : ∀ m ρ S, I m ρ S → ∃ k S1, ta ρ S = .ok k S1 ∧ (k = true → Run a ρ S1 fun r => match r with
      | .nx ρ' S' => ∃ m', m' < m ∧ I m' ρ' S'
      | .ct ρ' S' => ∃ m', m' < m ∧ I m' ρ' S'
      | .bk ρ' S' => Q (.nx ρ' S')
      | .rt v S' => Q (.rt v S')
      | .exc n ρ' S' => Q (.exc n ρ' S')
      | .stuck => False) ∧ (k = false → Q (.nx ρ S1))) : Run (sWhile ta a) ρ S Q := by
  have go : ∀ (f m : Nat) (ρ : Env) (S : Store), m < f → I m ρ S → Q (whileS ta a f ρ S) := by
    intro f
    induction f with
    | zero => intro m ρ S h; omega
    | succ f ih =>
      intro m ρ S hf hI
      obtain ⟨k, S1, h1, h2, h3⟩ := hs m ρ S hI
      unfold whileS sEx
      rw [h1]
      simp only
      cases k with
      | false => simpa using h3 rfl
      | true =>
        have h2 := (h2 rfl).run
        rw [if_pos rfl]
        cases q : a ρ S1 <;> simp only [q] at h2 ⊢
        · obtain ⟨m', h4, h5⟩ := h2
          exact ih m' _ _ (by omega) h5
        · exact h2
        · exact h2
        · obtain ⟨m', h4, h5⟩ := h2
          exact ih m' _ _ (by omega) h5
        · exact h2
  exact ⟨go FUEL m ρ S hm h0⟩
theorem r_fn {bm : List Bool} {k : Nat} {R : Res Val → Prop} (h : Run a (startE bm ds k) S fun r => R (fin r)) : R (mkFn bm k a ds S) := h.run
/-- a comprehension item by item -/
theorem x_Lc {own : List Nat} {ci : Ix} {tt : Tx} {elt : Ex} {zs : List D} (hi : ci ρ S = .ok ds S1) (h : lcS tg tt elt (wipeE ρ own) ds [] S1 = .ok (.lst zs) S2) : eLc own ci tg tt elt ρ S = .ok (.lst zs) S2 := by
  simp only [eLc, hi, Res.bind, h]
theorem lc_map {α : Type} {tt : Tx} {elt : Ex} (f g : α → D) (ρ : Env) (S : Store) (xs : List α) (h : ∀ x ∈ xs, ∃ ρ1, tg (f x) ρ = some ρ1 ∧ tt ρ1 S = .ok true S ∧ elt ρ1 S = .ok (g x) S) (acc : List D) (hl : acc.length + xs.length ≤ 1000000) : lcS tg tt elt ρ (xs.map f) acc S = .ok (.lst (acc ++ xs.map g)) S := by
  induction xs generalizing acc with
  | nil => simp [lcS]
  | cons x xs ih =>
    obtain ⟨ρ1, h1, h2, h3⟩ := h x (by simp)
    simp only [List.length_cons] at hl
    simp only [List.map_cons, lcS, h1, h2, h3, if_true, show acc.length < 1000000 by omega]
    rw [ih (fun y hy => h y (by simp [hy])) _ (by simp; omega)]
    simp
theorem lc_filter {α : Type} {tt : Tx} {elt : Ex} (f g : α → D) (t : α → Bool) (ρ : Env) (S : Store) (xs : List α) (h : ∀ x ∈ xs, ∃ ρ1, tg (f x) ρ = some ρ1 ∧ tt ρ1 S = .ok (t x) S ∧ (t x = true → elt ρ1 S = .ok (g x) S)) (acc : List D) (hl : acc.length + xs.length ≤ 1000000) : lcS tg tt elt ρ (xs.map f) acc S = .ok (.lst (acc ++ (xs.filter t).map g)) S := by
  induction xs generalizing acc with
  | nil => simp [lcS]
  | cons x xs ih =>
    obtain ⟨ρ1, h1, h2, h3⟩ := h x (by simp)
    simp only [List.length_cons] at hl
    cases q : t x with
    | true =>
      simp only [List.map_cons, lcS, h1, h2, q, h3 q, if_true, show acc.length < 1000000 by omega]
      rw [ih (fun y hy => h y (by simp [hy])) _ (by simp; omega)]
      simp [List.filter_cons, q]
    | false =>
      simp only [List.map_cons, lcS, h1, h2, q]
      rw [if_neg (by simp), ih (fun y hy => h y (by simp [hy])) _ (by omega)]
      simp [List.filter_cons, q]
end
end PM
namespace PM
open PySem PySem.Spec PyProof.Rows L2
section
variable {ρ ρ' : Env} {S S1 : Store} {Q : SR → Prop} {a : Stm} {tg : Tgt} {i : Nat} {d : D} {v : Val}
/-- what follows a turn -/
def LQ (P : Env → Store → Prop) (Q : SR → Prop) : SR → Prop := fun r => match r with
  | .nx ρ' S' => P ρ' S'
  | .ct ρ' S' => P ρ' S'
  | .bk ρ' S' => Q (.nx ρ' S')
  | .rt v S' => Q (.rt v S')
  | .exc n ρ' S' => Q (.exc n ρ' S')
  | .stuck => False
section
variable {P : Env → Store → Prop}
theorem q_nx (h : P ρ S) : LQ P Q (.nx ρ S) := h
theorem q_ct (h : P ρ S) : LQ P Q (.ct ρ S) := h
theorem q_bk (h : Q (.nx ρ S)) : LQ P Q (.bk ρ S) := h
theorem q_rt (h : Q (.rt v S)) : LQ P Q (.rt v S) := h
end
theorem tg_N (h : SetR ρ i (.fr d) ρ') : gN i d ρ = some ρ' := by rw [← h.eq]; rfl
/-- by what holds behind the items gone -/
theorem r_forP {α : Type} {f : α → D} {xs : List α} (I : List α → Env → Store → Prop) (h0 : I [] ρ S)
    (hs : ∀ pre x post ρ S, xs = pre ++ x :: post → I pre ρ S → ∃ ρ1, tg (f x) ρ = some ρ1 ∧ Run a ρ1 S (LQ (I (pre ++ [x])) Q))
    (hd : ∀ ρ S, I xs ρ S → Q (.nx ρ S)) : Run (forS tg a (xs.map f)) ρ S Q := by
  refine r_forS (I := fun ds ρ S => ∃ pre post, xs = pre ++ post ∧ ds = post.map f ∧ I pre ρ S) ⟨[], xs, rfl, rfl, h0⟩ ?_ ?_
  · rintro d ds ρ S ⟨pre, post, e1, e2, hI⟩
    cases post with
    | nil => simp at e2
    | cons x post =>
      simp only [List.map_cons, List.cons.injEq] at e2
      obtain ⟨rfl, rfl⟩ := e2
      obtain ⟨ρ1, h1, h2⟩ := hs pre x post ρ S e1 hI
      refine ⟨ρ1, h1, ?_⟩
      have h2 := h2.run
      unfold LQ at h2
      refine ⟨?_⟩
      cases q : a ρ1 S <;> simp only [q] at h2 ⊢
      · exact ⟨_, post, by rw [e1]; simp, rfl, h2⟩
      · exact h2
      · exact h2
      · exact ⟨_, post, by rw [e1]; simp, rfl, h2⟩
      · exact h2
  · rintro ρ S ⟨pre, post, e1, e2, hI⟩
    have : post = [] := by simpa using e2.symm
    subst this
    rw [List.append_nil] at e1
    subst e1
    exact hd ρ S hI
/-- that goes on as long as p holds -/
theorem r_forAll {α J : Type} {f : α → D} {xs : List α} (p : α → Bool) (E : J → Env) (B : J → α → Env) (ht : ∀ j x, tg (f x) (E j) = some (B j x)) {j0 : J}
    (hb : ∀ j x, x ∈ xs → p x = true → Run a (B j x) S fun r => (∃ j', r = .nx (E j') S) ∨ ∃ j', r = .ct (E j') S)
    (hf : ∀ j x, x ∈ xs → p x = false → Run a (B j x) S fun r => r = .rt v S)
    (h1 : xs.all p = true → ∀ j, Q (.nx (E j) S)) (h2 : xs.all p = false → Q (.rt v S)) : Run (forS tg a (xs.map f)) (E j0) S Q := by
  refine r_forP (I := fun pre ρ S' => S' = S ∧ pre.all p = true ∧ ∃ j, ρ = E j) ⟨rfl, rfl, j0, rfl⟩ ?_ ?_
  · rintro pre x post ρ S' e ⟨rfl, ha, j, rfl⟩
    refine ⟨_, ht j x, ?_⟩
    have hm : x ∈ xs := by rw [e]; simp
    cases hp : p x with
    | true =>
      have := hb j x hm hp
      have this := this.run
      refine ⟨?_⟩
      rcases this with ⟨j', e⟩ | ⟨j', e⟩
      · rw [e]; exact ⟨rfl, by simp only [List.all_append, ha, List.all_cons, hp, List.all_nil, Bool.and_self], j', rfl⟩
      · rw [e]; exact ⟨rfl, by simp only [List.all_append, ha, List.all_cons, hp, List.all_nil, Bool.and_self], j', rfl⟩
    | false =>
      have := hf j x hm hp
      have this := this.run
      refine ⟨?_⟩
      rw [this]
      refine h2 ?_
      rw [e]
      simp [hp]
  · rintro ρ S' ⟨rfl, ha, j, rfl⟩
    exact h1 ha j
end
end PM
namespace PM
theorem tt_nT {b : Bool} (h : b = false) : (!b) = true := by simp [h]
theorem tt_nF {b : Bool} (h : b = true) : (!b) = false := by simp [h]
theorem tt_aT {a b : Bool} (h : a = true) (h2 : b = true) : (a && b) = true := by simp [h, h2]
theorem tt_aF1 {a b : Bool} (h : a = false) : (a && b) = false := by simp [h]
theorem tt_aF2 {a b : Bool} (h : b = false) : (a && b) = false := by simp [h]
theorem tt_oF {a b : Bool} (h : a = false) (h2 : b = false) : (a || b) = false := by simp [h, h2]
theorem tt_oT1 {a b : Bool} (h : a = true) : (a || b) = true := by simp [h]
theorem tt_oT2 {a b : Bool} (h : b = true) : (a || b) = true := by simp [h]
end PM
namespace PM
open PySem PySem.Spec PyProof.Rows L2
inductive UnR : Nat → Env → Prop
  | z : UnR 0 []
  | s {k : Nat} {l : Env} : UnR k l → UnR (k + 1) (.un :: l)
inductive StartR : List Bool → List D → Nat → Env → Prop
  | n {k : Nat} {l : Env} : UnR k l → StartR [] [] k l
  | t {bm : List Bool} {d : D} {ds : List D} {k : Nat} {l : Env} : StartR bm ds k l → StartR (true :: bm) (d :: ds) k (.bo d :: l)
  | f {bm : List Bool} {d : D} {ds : List D} {k : Nat} {l : Env} : StartR bm ds k l → StartR (false :: bm) (d :: ds) k (.fr d :: l)
theorem UnR.eq {k : Nat} {l : Env} (h : UnR k l) : List.replicate k .un = l := by
  induction h with
  | z => rfl
  | s _ ih => rw [List.replicate_succ, ih]
theorem StartR.eq {bm : List Bool} {ds : List D} {k : Nat} {l : Env} (h : StartR bm ds k l) : startE bm ds k = l := by
  unfold startE
  induction h with
  | n h => simpa [parE] using h.eq
  | t _ ih => simp [parE, ih]
  | f _ ih => simp [parE, ih]
theorem r_fnE {m : Fn} {bm : List Bool} {k : Nat} {a : Stm} {ds : List D} {S : Store} {ρ : Env} (hm : m = mkFn bm k a) (R : Res Val → Prop) (hs : StartR bm ds k ρ) (h : Run a ρ S fun r => R (fin r)) : R (m ds S) := by
  subst hm; unfold mkFn; rw [hs.eq]; exact h.run
end PM
namespace PM
open PySem PySem.Spec PyProof.Rows L2
theorem r_forR {ρ : Env} {S : Store} {Q : SR → Prop} {a : Stm} {tg : Tgt} {lo : Int} {n : Nat} (I : Nat → Env → Store → Prop) (h0 : I 0 ρ S)
    (hs : ∀ k ρ S, k < n → I k ρ S → ∃ ρ1, tg (.int (lo + (k : Int))) ρ = some ρ1 ∧ Run a ρ1 S (LQ (I (k + 1)) Q))
    (hd : ∀ ρ S, I n ρ S → Q (.nx ρ S)) : Run (forS tg a (rngD lo n)) ρ S Q := by
  unfold rngD
  refine r_forP (xs := List.range n) (I := fun pre ρ S => I pre.length ρ S) h0 ?_ ?_
  · intro pre x post ρ S e hI
    have hx : pre.length = x ∧ x < n := by
      have h1 := congrArg List.length e
      have h2 : (List.range n)[pre.length]? = some x := by rw [e]; simp
      simp at h1
      rw [List.getElem?_range (by omega)] at h2
      simp at h2
      omega
    obtain ⟨rfl, hn⟩ := hx
    obtain ⟨ρ1, h1, h2⟩ := hs _ ρ S hn hI
    exact ⟨ρ1, h1, by simpa using h2⟩
  · intro ρ S hI
    simp only [List.length_range] at hI
    exact hd ρ S hI
end PM
namespace PM
open PySem PySem.Spec PyProof.Rows L2
theorem tgRun {ρ ρ' : Env} {S : Store} {Q : SR → Prop} {a : Stm} {i : Nat} {d : D} (h : SetR ρ i (.fr d) ρ') (hr : Run a ρ' S Q) : ∃ ρ1, gN i d ρ = some ρ1 ∧ Run a ρ1 S Q := ⟨ρ', tg_N h, hr⟩
end PM
namespace PM
open PySem PySem.Spec PyProof.Rows L2
theorem r_forD {ρ : Env} {S : Store} {Q : SR → Prop} {a : Stm} {tg : Tgt} {xs : List D} (I : List D → Env → Store → Prop) (h0 : I [] ρ S)
    (hs : ∀ pre x post ρ S, xs = pre ++ x :: post → I pre ρ S → ∃ ρ1, tg x ρ = some ρ1 ∧ Run a ρ1 S (LQ (I (pre ++ [x])) Q))
    (hd : ∀ ρ S, I xs ρ S → Q (.nx ρ S)) : Run (forS tg a xs) ρ S Q := by
  have := r_forP (f := fun d : D => d) (xs := xs) (tg := tg) (a := a) I h0 hs hd
  simpa using this
end PM
set_option maxHeartbeats 1000000
/-! PU2: the operators at typed data. -/
namespace PM
open PySem PySem.Spec PyProof.Rows L2
section
variable {i j : Int} {x y : Str} {xs ys : List D} {d e : D}
theorem dv_addI : oAdd (.int i) (.int j) = some (.int (i + j)) := rfl
theorem dv_addS (h : x.length + y.length ≤ 1000000) : oAdd (.str x) (.str y) = some (.str (x ++ y)) := by simp [oAdd, h]
theorem dv_addL (h : xs.length + ys.length ≤ 1000000) : oAdd (.lst xs) (.lst ys) = some (.lst (xs ++ ys)) := by simp [oAdd, h]
theorem dv_addT (h : xs.length + ys.length ≤ 1000000) : oAdd (.tup xs) (.tup ys) = some (.tup (xs ++ ys)) := by simp [oAdd, h]
theorem dv_cat (h : xs.length + ys.length ≤ 1000000) : oCat (.lst xs) (.lst ys) = some (.lst (xs ++ ys)) := by simp [oCat, h]
theorem dv_rep (h : -1000000 ≤ j ∧ j ≤ 1000000 ∧ xs.length * j.toNat ≤ 1000000) : oRep (.lst xs) (.int j) = some (.lst (List.replicate j.toNat xs).flatten) := by simp [oRep, h]
theorem dv_sub : oSub (.int i) (.int j) = some (.int (i - j)) := rfl
theorem dv_mulR (h : -(2 ^ 64) < j ∧ j < 2 ^ 64) : oMulI (.int i) (.int j) = some (.int (i * j)) := by simp only [oI, cMul, decide_eq_true (Or.inr h), if_true]
theorem dv_mulL (h : -(2 ^ 64) < i ∧ i < 2 ^ 64) : oMulI (.int i) (.int j) = some (.int (i * j)) := by simp only [oI, cMul, decide_eq_true (Or.inl h), if_true]
theorem dv_div (h : 0 < j ∧ j < 1073741824) : oDiv (.int i) (.int j) = some (.int (i / j)) := by simp only [oI, cDiv, decide_eq_true h, if_true]
theorem dv_mod (h : 0 < j) : oMod (.int i) (.int j) = some (.int (i % j)) := by simp only [oI, cMod, decide_eq_true h, if_true]
theorem dv_pow_10_20 : oPow (.int 10) (.int 20) = some (.int 100000000000000000000) := by rfl
theorem dv_pow_10_60 : oPow (.int 10) (.int 60) = some (.int 1000000000000000000000000000000000000000000000000000000000000) := by rfl
theorem dv_pow_10_12 : oPow (.int 10) (.int 12) = some (.int 1000000000000) := by rfl
theorem dv_pow_10_15 : oPow (.int 10) (.int 15) = some (.int 1000000000000000) := by rfl
theorem dv_pow_2_61 : oPow (.int 2) (.int 61) = some (.int 2305843009213693952) := by rfl
theorem dv_pow_10_9 : oPow (.int 10) (.int 9) = some (.int 1000000000) := by rfl
theorem dv_pow_10_18 : oPow (.int 10) (.int 18) = some (.int 1000000000000000000) := by rfl
theorem dv_pow_2_64 : oPow (.int 2) (.int 64) = some (.int 18446744073709551616) := by rfl
theorem dv_pow_10_30 : oPow (.int 10) (.int 30) = some (.int 1000000000000000000000000000000) := by rfl
theorem dv_pow_2_20 : oPow (.int 2) (.int 20) = some (.int 1048576) := by rfl
theorem dv_pow_10_50 : oPow (.int 10) (.int 50) = some (.int 100000000000000000000000000000000000000000000000000) := by rfl
theorem dv_pow_10_59 : oPow (.int 10) (.int 59) = some (.int 100000000000000000000000000000000000000000000000000000000000) := by rfl
theorem dv_pow_10_6 : oPow (.int 10) (.int 6) = some (.int 1000000) := by rfl
theorem dv_pow_2_5 : oPow (.int 2) (.int 5) = some (.int 32) := by rfl
theorem dv_pow_2_8 : oPow (.int 2) (.int 8) = some (.int 256) := by rfl
theorem dv_lt : oLt (.int i) (.int j) = some (.bl (decide (i < j))) := rfl
theorem dv_le : oLe (.int i) (.int j) = some (.bl (decide (i ≤ j))) := rfl
theorem dv_gt : oGt (.int i) (.int j) = some (.bl (decide (j < i))) := rfl
theorem dv_ge : oGe (.int i) (.int j) = some (.bl (decide (j ≤ i))) := rfl
theorem dv_neg : oNeg (.int i) = some (.int (-i)) := rfl
theorem dv_eqI : oEq (.int i) (.int j) = some (.bl (decide (i = j))) := by simp [oEq, D.eq?, D.py, PyData.depth, PyData.eqv, BEq.beq]
theorem dv_eqS : oEq (.str x) (.str y) = some (.bl (decide (x = y))) := by
  simp only [oEq, D.eq?, D.py, PyData.depth, PyData.eqv, Option.map_some, Nat.min_self, Nat.zero_le, if_true]
  congr 2
theorem dv_neI : oNe (.int i) (.int j) = some (.bl (!decide (i = j))) := by simp [oNe, D.eq?, D.py, PyData.depth, PyData.eqv, BEq.beq]
theorem dv_neS : oNe (.str x) (.str y) = some (.bl (!decide (x = y))) := by
  simp only [oNe, D.eq?, D.py, PyData.depth, PyData.eqv, Option.map_some, Nat.min_self, Nat.zero_le, if_true]
  congr 2
theorem dv_eqB {p q : Bool} : oEq (.bl p) (.bl q) = some (.bl (p == q)) := by simp [oEq, D.eq?, D.py, PyData.depth, PyData.eqv]
theorem dv_neB {p q : Bool} : oNe (.bl p) (.bl q) = some (.bl (!(p == q))) := by simp [oNe, D.eq?, D.py, PyData.depth, PyData.eqv]
theorem dv_is : oIs d .non = some (.bl d.isNon) := rfl
theorem dv_isN : oIsN d .non = some (.bl (!d.isNon)) := rfl
/-- the same data -/
theorem D.eq_self {p : PyData} (h : d.py = some p) (hd : p.depth ≤ 60) : D.eq? d d = some true := by
  simp only [D.eq?, h, Nat.min_self, hd, if_true, SeqAt.eqv_refl_plain p (D.py_plain d p h)]
theorem dv_ixL {n : Nat} (h : xs[n]? = some d) (hn : i = (n : Int)) : oIx (.lst xs) (.int i) = some d := by
  subst hn
  exact atI_of (j := n) (by simp [ixN]; exact (List.getElem?_eq_some_iff.mp h).1) h
end
end PM
namespace PM
open PySem PySem.Spec PyProof.Rows L2
/-- a text of one sign -/
def S1 (c : Nat) : Str := ⟨#[c]⟩
@[simp] theorem S1_len (c : Nat) : (S1 c).length = 1 := rfl
@[simp] theorem len_add (x y : Str) : (x ++ y).length = x.length + y.length := by
  show (x.cps ++ y.cps).size = _; rw [Array.size_append]; rfl
theorem lit_len (s : String) : (Str.ofString s).length = s.toList.length := by
  rw [Str.ofString_eq_toList]; simp [Str.length]
theorem lit_cps (s : String) : (Str.ofString s).cps.toList = s.toList.map Char.toNat := by
  rw [Str.ofString_eq_toList]
/-- the signs of a text -/
def Sl (x : Str) : List Nat := x.cps.toList
theorem Sl_len (x : Str) : (Sl x).length = x.length := by simp [Sl, Str.length]
theorem Sl_add (x y : Str) : Sl (x ++ y) = Sl x ++ Sl y := by
  show (x.cps ++ y.cps).toList = _; simp [Sl]
theorem Sl_one (c : Nat) : Sl (S1 c) = [c] := rfl
theorem Sl_inj {x y : Str} (h : Sl x = Sl y) : x = y := by
  cases x; cases y; simp only [Sl] at h; congr 1; exact Array.toList_inj.mp h
def mkS (l : List Nat) : Str := ⟨l.toArray⟩
@[simp] theorem Sl_mk (l : List Nat) : Sl (mkS l) = l := rfl
@[simp] theorem mk_Sl (x : Str) : mkS (Sl x) = x := rfl
@[simp] theorem mk_len (l : List Nat) : (mkS l).length = l.length := by simp [mkS, Str.length]
section
variable {i j : Int} {x y : Str} {xs ys : List D} {d e : D}
theorem ixN_of {n k : Nat} (hn : i = (k : Int)) (h : k < n) : ixN n i = some k := by
  subst hn; simp [ixN, h]
theorem dv_ixS (h : 0 ≤ i ∧ i < x.length ∧ x.length ≤ 1000000) : oIx (.str x) (.int i) = some (.str (S1 ((Sl x).getD i.toNat 0))) := by
  have h1 : ixN x.cps.toList.length i = some i.toNat := ixN_of (by omega) (by have := h.2.1; unfold Str.length at this; simp only [Array.length_toList]; omega)
  have h2 : i.toNat < x.cps.toList.length := by have := h.2.1; unfold Str.length at this; simp only [Array.length_toList]; omega
  simp only [oIx, h.2.2, if_true, atI, h1, Option.bind_some, List.getElem?_eq_getElem h2, Option.map_some]
  simp only [S1, Sl, List.getD_eq_getElem?_getD, List.getElem?_eq_getElem h2, Option.getD_some]
theorem dv_ixLd (h : 0 ≤ i ∧ i < xs.length) : oIx (.lst xs) (.int i) = some (xs.getD i.toNat .non) := by
  have h2 : i.toNat < xs.length := by omega
  rw [dv_ixL (n := i.toNat) (d := xs.getD i.toNat .non) (by simp [List.getElem?_eq_getElem h2]) (by omega)]
theorem dv_ixScr {ns : List Int} (h : 0 ≤ i ∧ i < ns.length) : oIx (.scr ns) (.int i) = some (.int (ns.getD i.toNat 0)) := by
  have h2 : i.toNat < ns.length := by omega
  simp only [oIx, atI, ixN_of (i := i) (k := i.toNat) (by omega) h2, Option.bind_some, List.getElem?_eq_getElem h2, Option.map_some]
  simp [List.getElem?_eq_getElem h2]
theorem dv_cutS (h : x.length ≤ 1000000) {lo hi : Option Int} : oCut (.str x) lo hi = some (.str (cutS x lo hi)) := by simp [oCut, h]
theorem fn_lenS (h : x.length ≤ 1000000) : fLen [.str x] = some (.int x.length) := by simp [fLen, h]
theorem fn_lenL : fLen [.lst xs] = some (.int xs.length) := rfl
theorem fn_lenT : fLen [.tup xs] = some (.int xs.length) := rfl
theorem fn_lenScr {ns : List Int} : fLen [.scr ns] = some (.int ns.length) := rfl
theorem dv_inS {c : Nat} : oIn (.str (S1 c)) (.str x) = some (.bl (decide (c ∈ Sl x))) := by
  simp [oIn, D.in?, S1, Sl]
theorem dv_ninS {c : Nat} : oNin (.str (S1 c)) (.str x) = some (.bl (!decide (c ∈ Sl x))) := by
  simp [oNin, D.in?, S1, Sl]
theorem x_iS' {ca : Ex} {ρ : Env} {S S1' : Store} (ha : ca ρ S = .ok (.str x) S1') : iS ca ρ S = .ok ((Sl x).map fun c => .str (S1 c)) S1' := x_iS ha
end
end PM
namespace PM
open PySem PySem.Spec PyProof.Rows L2
section
variable {i j : Int} {x y : Str} {xs ys : List D} {d e : D}
theorem dv_ixSm (h : 0 < x.length ∧ x.length ≤ 1000000) : oIx (.str x) (.int (i % (x.length : Int))) = some (.str (S1 ((Sl x).getD (i % (x.length : Int)).toNat 0))) :=
  dv_ixS ⟨Int.emod_nonneg _ (by omega), Int.emod_lt_of_pos _ (by omega), h.2⟩
theorem dv_ixLm (h : 0 < xs.length) : oIx (.lst xs) (.int (i % (xs.length : Int))) = some (xs.getD (i % (xs.length : Int)).toNat .non) :=
  dv_ixLd ⟨Int.emod_nonneg _ (by omega), Int.emod_lt_of_pos _ (by omega)⟩
theorem dv_ixTd (h : 0 ≤ i ∧ i < xs.length) : oIx (.tup xs) (.int i) = some (xs.getD i.toNat .non) := dv_ixLd h
end
end PM
set_option maxHeartbeats 1000000
/-! PU3: running: instances, methods, comprehensions; lists of typed data. -/
namespace PM
open PySem PySem.Spec PyProof.Rows L2
section
variable {ρ ρ' : Env} {S S1 S2 S3 : Store} {c ca cb cc : Ex} {d e u z : D} {i n k : Nat} {ax : Ax} {ds : List D} {Q : SR → Prop} {fl : FTab} {f : Str} {fs fs' : List (Str × D)}
theorem x_FldO (ha : ca ρ S = .ok (.obj k fs) S1) (hf : fl k f = true) (hl : fs.lookup f = some d) : eFld fl f ca ρ S = .ok d S1 := by
  simp [eFld, ha, Res.bind, hf, hl, Res.opt]
theorem lk0 {l : List (Str × D)} : List.lookup f ((f, d) :: l) = some d := by simp
theorem lk1 {g : Str} {l : List (Str × D)} (h : (f == g) = false) (t : l.lookup f = some d) : List.lookup f ((g, e) :: l) = some d := by rw [List.lookup_cons, h]; exact t
theorem lkn {g : Str} {l : List (Str × D)} (h : (f == g) = false) (t : l.lookup f = none) : List.lookup f ((g, e) :: l) = none := by rw [List.lookup_cons, h]; exact t
theorem lkn0 : List.lookup f ([] : List (Str × D)) = none := rfl
theorem pD0 : pD f d [] = [(f, d)] := rfl
theorem pDh {l : List (Str × D)} : pD f d ((f, e) :: l) = (f, d) :: l := by simp [pD]
theorem pDt {g : Str} {l l' : List (Str × D)} (h : (g == f) = false) (t : pD f d l = l') : pD f d ((g, e) :: l) = (g, e) :: l' := by
  have h : ¬ g = f := by simpa using h
  simp [pD, h, t]
theorem x_Make {m : List D → Store → Res D} (ha : ax ρ S = .ok ds S1) (h : m ds S1 = .ok d S2) : eMake m ax ρ S = .ok d S2 := by
  simp [eMake, ha, Res.bind, h]
theorem r_FldMe (h : c ρ S = .ok d S1) (hn : Nth ρ i (.me (.obj k fs))) (hf : fl k f = true) (hl : fs.length < 1000) (hp : pD f d fs = fs') (hs : SetR ρ i (.me (.obj k fs')) ρ') (hk : Q (.nx ρ' S1)) : Run (sFldMe fl i f c) ρ S Q := r_Ex h (by simp only [hn.eq, hf, hl, hp, hs.eq, and_self, if_true]; exact hk)
theorem r_FldOw (h : c ρ S = .ok d S1) (hn : Nth ρ i (.ow (.obj k fs))) (hf : fl k f = true) (hl : fs.length < 1000) (hp : pD f d fs = fs') (hs : SetR ρ i (.ow (.obj k fs')) ρ') (hk : Q (.nx ρ' S1)) : Run (sFldOw fl i f c) ρ S Q := r_Ex h (by simp only [hn.eq, hf, hl, hp, hs.eq, and_self, if_true]; exact hk)
theorem r_Raise {m : Nat} (hk : Q (.exc m ρ S)) : Run (sRaise m) ρ S Q := ⟨hk⟩
def finI (r : SR) : Res D := match r with
  | .nx ρ S' => (match (ρ[0]? : Option Slot) with
    | some (Slot.me d) => .ok d S'
    | _ => .stuck)
  | .exc n _ S' => .exc n S'
  | _ => .stuck
theorem r_iniE {m : Ini} {bm : List Bool} {k c : Nat} {a : Stm} {ds : List D} {S : Store} {ρ : Env} (hm : m = mkIni bm k a) (R : Res D → Prop) (hs : StartR bm ds k ρ) (h : Run a (.me (.obj c []) :: ρ) S fun r => R (finI r)) : R (m c ds S) := by
  subst hm; unfold mkIni; rw [hs.eq]; exact h.run
theorem x_LstRg1 {j : Int} (ha : ca ρ S = .ok (.int j) S1) (h : -1000000 ≤ j ∧ j ≤ 1000000) : eLstRg1 ca ρ S = .ok (.lst (rngD 0 j.toNat)) S1 := by
  simp [eLstRg1, ha, Res.bind, h]
theorem x_iRv1 {j : Int} (ha : ca ρ S = .ok (.int j) S1) (h : -1000000000 ≤ j ∧ j ≤ 1000000000) : iRv1 ca ρ S = .ok (rngC (j.toNat - 1) (-1) j.toNat) S1 := by
  simp [iRv1, ha, Res.bind, h]
theorem fR3_ok {i j c : Int} (h : ((-1000000000 ≤ i ∧ i ≤ 1000000000) ∧ -1000000000 ≤ j ∧ j ≤ 1000000000) ∧ 0 < c ∧ c ≤ 1000000000) : fR3 [.int i, .int j, .int c] = some (rngC i c (stepN i j c)) := by simp [fR3, h]
theorem fn_min2 {i j : Int} : fMin2 [.int i, .int j] = some (.int (if j < i then j else i)) := rfl
theorem fn_max2 {i j : Int} : fMax2 [.int i, .int j] = some (.int (if j > i then j else i)) := rfl
theorem fn_list {xs : List D} : fList [.lst xs] = some (.lst xs) := rfl
theorem fn_listT {xs : List D} : fList [.tup xs] = some (.lst xs) := rfl
theorem fn_tuple {xs : List D} : fTuple [.lst xs] = some (.tup xs) := rfl
theorem la_ok {xs : List D} (h : xs.length < 1000000) : lAppend xs [d] = some (xs ++ [d]) := by simp [lAppend, h]
/-- a comprehension over a list of typed items -/
theorem x_LcM {own : List Nat} {α : Type} {tg : Tgt} {ci : Ix} {tt : Tx} {elt : Ex} (f g : α → D) {xs : List α} (hi : ci ρ S = .ok (xs.map f) S) (hl : xs.length ≤ 1000000) (h : ∀ x ∈ xs, ∃ ρ1, tg (f x) (wipeE ρ own) = some ρ1 ∧ tt ρ1 S = .ok true S ∧ elt ρ1 S = .ok (g x) S) : eLc own ci tg tt elt ρ S = .ok (.lst (xs.map g)) S := by
  refine x_Lc hi ?_
  have := lc_map (tg := tg) (tt := tt) (elt := elt) f g (wipeE ρ own) S xs h [] (by simpa using hl)
  simpa using this
theorem x_LcF {own : List Nat} {α : Type} {tg : Tgt} {ci : Ix} {tt : Tx} {elt : Ex} (f g : α → D) (t : α → Bool) {xs : List α} (hi : ci ρ S = .ok (xs.map f) S) (hl : xs.length ≤ 1000000) (h : ∀ x ∈ xs, ∃ ρ1, tg (f x) (wipeE ρ own) = some ρ1 ∧ tt ρ1 S = .ok (t x) S ∧ (t x = true → elt ρ1 S = .ok (g x) S)) : eLc own ci tg tt elt ρ S = .ok (.lst ((xs.filter t).map g)) S := by
  refine x_Lc hi ?_
  have := lc_filter (tg := tg) (tt := tt) (elt := elt) f g t (wipeE ρ own) S xs h [] (by simpa using hl)
  simpa using this
theorem x_Yes : tYesD ρ S = .ok true S := rfl
inductive WipeR : Env → List Nat → Env → Prop
  | nil {l : Env} : WipeR l [] l
  | cons {l l1 l2 : Env} {v : Nat} {vs : List Nat} : WipeR l vs l1 → SetR l1 v .un l2 → WipeR l (v :: vs) l2
theorem WipeR.eq {l l' : Env} {vs : List Nat} (h : WipeR l vs l') : wipeE l vs = l' := by
  induction h with
  | nil => rfl
  | cons h1 h2 ih => unfold wipeE; rw [ih, h2.eq]
theorem lcE1 {tt : Tx} {elt : Ex} {ρ1 ρ2 : Env} {own : List Nat} {t : Bool} (hw : WipeR ρ own ρ1) (hs : SetR ρ1 i (.fr d) ρ2) (ht : tt ρ2 S = .ok t S) (he : elt ρ2 S = .ok e S) : ∃ ρ1, gN i d (wipeE ρ own) = some ρ1 ∧ tt ρ1 S = .ok t S ∧ elt ρ1 S = .ok e S := by
  rw [hw.eq]; exact ⟨ρ2, tg_N hs, ht, he⟩
theorem lcE1F {tt : Tx} {elt : Ex} {ρ1 ρ2 : Env} {own : List Nat} {t : Bool} (hw : WipeR ρ own ρ1) (hs : SetR ρ1 i (.fr d) ρ2) (ht : tt ρ2 S = .ok t S) (he : t = true → elt ρ2 S = .ok e S) : ∃ ρ1, gN i d (wipeE ρ own) = some ρ1 ∧ tt ρ1 S = .ok t S ∧ (t = true → elt ρ1 S = .ok e S) := by
  rw [hw.eq]; exact ⟨ρ2, tg_N hs, ht, he⟩
end
/-! ### lists of typed data -/
theorem oIx_map {α : Type} (g : α → D) {xs : List α} {x : α} {j : Nat} {i : Int} (h : xs[j]? = some x) (hi : i = (j : Int)) : oIx (.lst (xs.map g)) (.int i) = some (g x) := by
  refine dv_ixL (n := j) ?_ hi
  rw [List.getElem?_map, h, Option.map_some]
theorem oIx_mapT {α : Type} (g : α → D) {xs : List α} {x : α} {j : Nat} {i : Int} (h : xs[j]? = some x) (hi : i = (j : Int)) : oIx (.tup (xs.map g)) (.int i) = some (g x) := oIx_map g h hi
/-- plain data, at most so deep -/
inductive Pl : Nat → D → Prop
  | non (n : Nat) : Pl n .non
  | bl (n : Nat) (b : Bool) : Pl n (.bl b)
  | int (n : Nat) (b : Int) : Pl n (.int b)
  | str (n : Nat) (b : Str) : Pl n (.str b)
  | lst {n : Nat} {xs : List D} : (∀ x ∈ xs, Pl n x) → Pl (n + 1) (.lst xs)
  | tup {n : Nat} {xs : List D} : (∀ x ∈ xs, Pl n x) → Pl (n + 1) (.tup xs)
theorem pys_of {n : Nat} : ∀ {xs : List D}, (∀ x ∈ xs, ∃ p, x.py = some p ∧ p.depth ≤ n) → ∃ ps, D.pys xs = some ps ∧ PyData.depthAll ps ≤ n
  | [], _ => ⟨[], rfl, by simp [PyData.depthAll]⟩
  | x :: xs, h => by
    obtain ⟨p, h1, h2⟩ := h x (by simp)
    obtain ⟨ps, h3, h4⟩ := pys_of (xs := xs) fun y hy => h y (by simp [hy])
    exact ⟨p :: ps, by simp only [D.pys, h1, h3], by simp only [PyData.depthAll]; omega⟩
theorem Pl.py {n : Nat} {d : D} (h : Pl n d) : ∃ p, d.py = some p ∧ p.depth ≤ n := by
  induction h with
  | non n => exact ⟨_, rfl, Nat.zero_le _⟩
  | bl n b => exact ⟨_, rfl, Nat.zero_le _⟩
  | int n b => exact ⟨_, rfl, Nat.zero_le _⟩
  | str n b => exact ⟨_, rfl, Nat.zero_le _⟩
  | lst h ih =>
    obtain ⟨ps, h1, h2⟩ := pys_of ih
    exact ⟨.list ps, by simp only [D.py, h1, Option.map_some], by simp only [PyData.depth]; omega⟩
  | tup h ih =>
    obtain ⟨ps, h1, h2⟩ := pys_of ih
    exact ⟨.tuple ps, by simp only [D.py, h1, Option.map_some], by simp only [PyData.depth]; omega⟩
theorem dv_eqR {d : D} (h : Pl 60 d) : oEq d d = some (.bl true) := by
  obtain ⟨p, h1, h2⟩ := h.py
  simp only [oEq, D.eq_self h1 h2, Option.map_some]
theorem dv_neR {d : D} (h : Pl 60 d) : oNe d d = some (.bl false) := by
  obtain ⟨p, h1, h2⟩ := h.py
  simp only [oNe, D.eq_self h1 h2, Option.map_some, Bool.not_true]
theorem dv_eqR' {d e : D} (h : Pl 60 d) (he : d = e) : oEq d e = some (.bl true) := by subst he; exact dv_eqR h
theorem dv_neR' {d e : D} (h : Pl 60 d) (he : d = e) : oNe d e = some (.bl false) := by subst he; exact dv_neR h
end PM
namespace PM
open PySem PySem.Spec PyProof.Rows L2
theorem r_forAllD {S : Store} {Q : SR → Prop} {a : Stm} {tg : Tgt} {v : Val} {J : Type} {xs : List D} (p : D → Bool) (E : J → Env) (B : J → D → Env) (ht : ∀ j x, tg x (E j) = some (B j x)) {j0 : J}
    (hb : ∀ j x, x ∈ xs → p x = true → Run a (B j x) S fun r => (∃ j', r = .nx (E j') S) ∨ ∃ j', r = .ct (E j') S)
    (hf : ∀ j x, x ∈ xs → p x = false → Run a (B j x) S fun r => r = .rt v S)
    (h1 : xs.all p = true → ∀ j, Q (.nx (E j) S)) (h2 : xs.all p = false → Q (.rt v S)) : Run (forS tg a xs) (E j0) S Q := by
  have := r_forAll (f := fun d : D => d) (xs := xs) (tg := tg) (a := a) (Q := Q) (v := v) p E B ht (j0 := j0) hb hf h1 h2
  simpa using this
/-- rising places below n -/
def Rising (n : Nat) (ps : List Nat) : Prop := ps.Pairwise (· < ·) ∧ ∀ p ∈ ps, p < n
theorem rising_len {n : Nat} {ps : List Nat} (h : Rising n ps) : ps.length ≤ n := by
  have go : ∀ (ps : List Nat) (lo : Nat), ps.Pairwise (· < ·) → (∀ p ∈ ps, lo ≤ p ∧ p < n) → ps.length ≤ n - lo := by
    intro ps
    induction ps with
    | nil => intro lo _ _; simp
    | cons p ps ih =>
      intro lo h1 h2
      have hp := h2 p (by simp)
      rw [List.pairwise_cons] at h1
      have := ih (p + 1) h1.2 fun q hq => ⟨h1.1 q hq, (h2 q (by simp [hq])).2⟩
      simp only [List.length_cons]
      omega
  have := go ps 0 h.1 fun p hp => ⟨Nat.zero_le _, h.2 p hp⟩
  omega
/-- places as data -/
abbrev dN (p : Nat) : D := .int (p : Int)
def E0 : Str := ⟨#[]⟩
theorem dv_ixN {α : Type} (g : α → D) {xs : List α} {p : Nat} {i : Int} (e0 : α) (h : p < xs.length) (hi : i = (p : Int)) : oIx (.lst (xs.map g)) (.int i) = some (g (xs.getD p e0)) :=
  oIx_map g (by rw [List.getD_eq_getElem?_getD, List.getElem?_eq_getElem h]; rfl) hi
end PM
namespace PM
section
variable {α : Type} {xs : List α} {g : α → D} {a b c : D}
theorem fn_lenM : fLen [.lst (xs.map g)] = some (.int xs.length) := by simp [fLen]
theorem fn_lenMT : fLen [.tup (xs.map g)] = some (.int xs.length) := by simp [fLen]
theorem fn_len0 : fLen [.lst []] = some (.int 0) := rfl
theorem fn_len0T : fLen [.tup []] = some (.int 0) := rfl
theorem fn_len1 : fLen [.lst [a]] = some (.int 1) := rfl
theorem fn_len1T : fLen [.tup [a]] = some (.int 1) := rfl
theorem fn_len2 : fLen [.lst [a, b]] = some (.int 2) := rfl
theorem fn_len2T : fLen [.tup [a, b]] = some (.int 2) := rfl
theorem fn_len3T : fLen [.tup [a, b, c]] = some (.int 3) := rfl
end
end PM
set_option maxHeartbeats 1000000
/-! TY1: defs told as plain functions of typed data: what holds between the two. -/
namespace PM
open PySem PySem.Spec PyProof.Rows L2

abbrev M (α : Type) := Store → Res α
namespace M
variable {α β γ : Type}
def pure (a : α) : M α := fun S => .ok a S
def bind (m : M α) (f : α → M β) : M β := fun S => (m S).bind f
def opt (o : Option α) : M α := fun S => match o with
  | some a => .ok a S
  | none => .stuck
def exc (n : Nat) : M α := fun S => .exc n S
def stuck : M α := fun _ => .stuck
theorem pure_bind (a : α) (f : α → M β) : M.bind (M.pure a) f = f a := id rfl
theorem exc_bind (n : Nat) (f : α → M β) : M.bind (M.exc n) f = M.exc n := id rfl
theorem bind_pure (m : M α) : M.bind m M.pure = m := by
  funext S; unfold M.bind Res.bind; cases m S <;> rfl
theorem bind_assoc (m : M α) (f : α → M β) (g : β → M γ) : M.bind (M.bind m f) g = M.bind m fun a => M.bind (f a) g := by
  funext S; unfold M.bind Res.bind; cases m S <;> rfl
theorem opt_some (a : α) : M.opt (some a) = M.pure a := id rfl
def map (f : α → β) (m : M α) : M β := M.bind m fun a => M.pure (f a)
/-- what a turn of a comprehension raises is not told -/
def noexc (m : M α) : M α := fun S => match m S with
  | .ok a S' => .ok a S'
  | _ => .stuck
theorem noexc_pure (a : α) : M.noexc (M.pure a) = M.pure a := id rfl
end M

/-- how a statement ends -/
inductive O (σ τ β : Type) where
  | nx (s : σ) | bk (t : τ) | ct (t : τ) | rt (b : β)
section
variable {α β γ σ σ' τ τ' : Type}
def bindO (m : M (O σ τ β)) (k : σ → M (O σ' τ β)) : M (O σ' τ β) := M.bind m fun o => match o with
  | .nx s => k s
  | .bk t => M.pure (.bk t)
  | .ct t => M.pure (.ct t)
  | .rt b => M.pure (.rt b)
def runO (d : Option β) (m : M (O Unit Unit β)) : M β := M.bind m fun o => match o with
  | .nx _ => M.opt d
  | .rt b => M.pure b
  | _ => M.stuck
def forO (f : α → τ → M (O τ τ β)) : List α → τ → M (O τ τ' β)
  | [], s => M.pure (.nx s)
  | x :: xs, s => M.bind (f x s) fun o => match o with
    | .nx s' => forO f xs s'
    | .ct s' => forO f xs s'
    | .bk s' => M.pure (.nx s')
    | .rt b => M.pure (.rt b)
def whileO (t : τ → M Bool) (f : τ → M (O τ τ β)) : Nat → τ → M (O τ τ' β)
  | 0, _ => M.stuck
  | n + 1, s => M.bind (t s) fun k => if k = true then (M.bind (f s) fun o => match o with
    | .nx s' => whileO t f n s'
    | .ct s' => whileO t f n s'
    | .bk s' => M.pure (.nx s')
    | .rt b => M.pure (.rt b)) else M.pure (.nx s)
/-- a comprehension -/
def lcO (t : α → M Bool) (e : α → M β) : List α → List β → M (List β)
  | [], acc => M.pure acc
  | x :: xs, acc => M.bind (M.noexc (t x)) fun k => if k = true then (M.bind (M.noexc (e x)) fun y => if acc.length < 1000000 then lcO t e xs (acc ++ [y]) else M.stuck) else lcO t e xs acc
theorem bindO_nx (s : σ) (k : σ → M (O σ' τ β)) : bindO (M.pure (.nx s)) k = k s := id rfl
theorem bindO_rt (b : β) (k : σ → M (O σ' τ β)) : bindO (M.pure (.rt b)) k = M.pure (.rt b) := id rfl
theorem bindO_bk (b : τ) (k : σ → M (O σ' τ β)) : bindO (M.pure (.bk b)) k = M.pure (.bk b) := id rfl
theorem bindO_ct (b : τ) (k : σ → M (O σ' τ β)) : bindO (M.pure (.ct b)) k = M.pure (.ct b) := id rfl
theorem bindO_exc (n : Nat) (k : σ → M (O σ' τ β)) : bindO (M.exc n) k = M.exc n := id rfl
theorem bindO_bind (m : M α) (f : α → M (O σ τ β)) (k : σ → M (O σ' τ β)) : bindO (M.bind m f) k = M.bind m fun a => bindO (f a) k := id (M.bind_assoc m f _)
theorem runO_nx (d : Option β) (s : Unit) : runO d (M.pure (.nx s)) = M.opt d := id rfl
theorem runO_rt (d : Option β) (b : β) : runO d (M.pure (.rt b)) = M.pure b := id rfl
theorem runO_exc (d : Option β) (n : Nat) : runO d (M.exc n) = M.exc n := id rfl
theorem runO_bind (d : Option β) (m : M α) (f : α → M (O Unit Unit β)) : runO d (M.bind m f) = M.bind m fun a => runO d (f a) := id (M.bind_assoc m f _)
end

/-! ### what holds between the worth on data and the typed function -/
section
variable {α β γ δ σ σ' τ τ' : Type}
def RS (e : α → γ) (r : Res γ) (t : Res α) : Prop := match t with
  | .ok a S => r = .ok (e a) S
  | .exc n S => r = .exc n S
  | .stuck => True
/-- an expression, a test, arguments, what is walked: typed, always; typed, perhaps -/
def Pv (e : α → γ) (c : Env → Store → Res γ) (ρ : Env) (a : α) : Prop := ∀ S, c ρ S = .ok (e a) S
def Xv (e : α → γ) (c : Env → Store → Res γ) (ρ : Env) (m : M α) : Prop := ∀ S, RS e (c ρ S) (m S)
variable {e : α → γ} {c : Env → Store → Res γ} {ρ ρ' : Env} {a : α} {m : M α}
theorem Pv.x (h : Pv e c ρ a) : Xv e c ρ (M.pure a) := fun S => h S
theorem RS.bind {f : γ → Store → Res δ} {e' : β → δ} {r : Res γ} {t : Res α} {k : α → M β} (h : RS e r t) (hk : ∀ a S, RS e' (f (e a) S) (k a S)) : RS e' (r.bind f) (t.bind k) := by
  cases t with
  | ok a S => simp only [RS] at h; subst h; exact hk a S
  | exc n S => simp only [RS] at h; subst h; exact rfl
  | stuck => trivial
/-! ### typed data -/
abbrev iN : D → D := id
abbrev iU : Unit → D := fun _ => .non
abbrev eL (f : α → D) : List α → D := fun xs => .lst (xs.map f)
abbrev eTL (f : α → D) : List α → D := fun xs => .tup (xs.map f)
abbrev eP2 (f : α → D) (g : β → D) : α × β → D := fun p => .tup [f p.1, g p.2]
abbrev eP3 {γ : Type} (f : α → D) (g : β → D) (h : γ → D) : α × β × γ → D := fun p => .tup [f p.1, g p.2.1, h p.2.2]
def uI : D → Option Int | .int i => some i | _ => none
def uB : D → Option Bool | .bl i => some i | _ => none
def uS : D → Option Str | .str i => some i | _ => none
def uN : D → Option Unit | .non => some () | _ => none
def uScr : D → Option (List Int) | .scr ns => some ns | _ => none
def uAll (f : D → Option α) : List D → Option (List α)
  | [] => some []
  | d :: ds => match f d, uAll f ds with
    | some a, some as => some (a :: as)
    | _, _ => none
def uL (f : D → Option α) : D → Option (List α) | .lst ds => uAll f ds | _ => none
def uTL (f : D → Option α) : D → Option (List α) | .tup ds => uAll f ds | _ => none
def uP2 (f : D → Option α) (g : D → Option β) : D → Option (α × β)
  | .tup [d, e] => match f d, g e with
    | some a, some b => some (a, b)
    | _, _ => none
  | _ => none
def uP3 {γ : Type} (f : D → Option α) (g : D → Option β) (h : D → Option γ) : D → Option (α × β × γ)
  | .tup [d, e, k] => match f d, g e, h k with
    | some a, some b, some c => some (a, b, c)
    | _, _, _ => none
  | _ => none
/-- u reads back what e told -/
structure Un (e : α → D) (u : D → Option α) : Prop where
  back : ∀ d a, u d = some a → d = e a
  told : ∀ a, u (e a) = some a
theorem unI : Un D.int uI := ⟨fun d a h => by cases d <;> simp [uI] at h; rw [h], fun _ => rfl⟩
theorem unB : Un D.bl uB := ⟨fun d a h => by cases d <;> simp [uB] at h; rw [h], fun _ => rfl⟩
theorem unS : Un D.str uS := ⟨fun d a h => by cases d <;> simp [uS] at h; rw [h], fun _ => rfl⟩
theorem unN : Un iU uN := ⟨fun d a h => by cases d <;> simp [uN] at h; rfl, fun _ => rfl⟩
theorem unScr : Un D.scr uScr := ⟨fun d a h => by cases d <;> simp [uScr] at h; rw [h], fun _ => rfl⟩
theorem unAny : Un iN some := ⟨fun d a h => by cases h; rfl, fun _ => rfl⟩
theorem uAll_back {f : α → D} {u : D → Option α} (h : Un f u) : ∀ (ds : List D) (as : List α), uAll u ds = some as → ds = as.map f
  | [], as, q => by simp [uAll] at q; subst q; rfl
  | d :: ds, as, q => by
    simp only [uAll] at q
    cases q1 : u d with
    | none => rw [q1] at q; cases q
    | some a =>
      cases q2 : uAll u ds with
      | none => rw [q1, q2] at q; cases q
      | some bs =>
        rw [q1, q2] at q
        cases q
        rw [List.map_cons, ← h.back _ _ q1, ← uAll_back h ds bs q2]
theorem uAll_told {f : α → D} {u : D → Option α} (h : Un f u) : ∀ (as : List α), uAll u (as.map f) = some as
  | [] => rfl
  | a :: as => by simp only [List.map_cons, uAll, h.told, uAll_told h as]
theorem unL {f : α → D} {u : D → Option α} (h : Un f u) : Un (eL f) (uL u) := ⟨fun d a q => by
  cases d <;> simp only [uL, reduceCtorEq] at q
  rw [uAll_back h _ _ q], fun as => uAll_told h as⟩
theorem unTL {f : α → D} {u : D → Option α} (h : Un f u) : Un (eTL f) (uTL u) := ⟨fun d a q => by
  cases d <;> simp only [uTL, reduceCtorEq] at q
  rw [uAll_back h _ _ q], fun as => uAll_told h as⟩
theorem unP2 {f : α → D} {u : D → Option α} {g : β → D} {v : D → Option β} (h : Un f u) (k : Un g v) : Un (eP2 f g) (uP2 u v) where
  back := fun d a q => by
    unfold uP2 at q
    split at q
    · rename_i d e
      split at q
      · rename_i x y q1 q2
        cases q
        rw [h.back _ _ q1, k.back _ _ q2]
      · cases q
    · cases q
  told := fun p => by simp only [uP2, h.told, k.told]
theorem unP3 {γ : Type} {f : α → D} {u : D → Option α} {g : β → D} {v : D → Option β} {i : γ → D} {w : D → Option γ} (h : Un f u) (k : Un g v) (l : Un i w) : Un (eP3 f g i) (uP3 u v w) where
  back := fun d a q => by
    unfold uP3 at q
    split at q
    · rename_i d e
      split at q
      · rename_i x y z q1 q2 q3
        cases q
        rw [h.back _ _ q1, k.back _ _ q2, l.back _ _ q3]
      · cases q
    · cases q
  told := fun p => by simp only [uP3, h.told, k.told, l.told]
/-- equality of typed data -/
structure EqT [DecidableEq α] (n : Nat) (e : α → D) : Prop where
  py : ∀ a, ∃ p, (e a).py = some p ∧ p.depth ≤ n
  eqv : ∀ a b p q, (e a).py = some p → (e b).py = some q → PyData.eqv p q = decide (a = b)
end
end PM
set_option maxHeartbeats 1000000
/-! TY2: expressions. -/
namespace PM
open PySem PySem.Spec PyProof.Rows L2
section
variable {α β γ δ ζ : Type} {ρ ρ1 : Env} {ca cb cc : Ex} {ea : α → D} {eb : β → D} {ez : ζ → D} {a : α} {b : β} {z : ζ} {ma : M α} {mb : M β} {i : Nat} {f : D → D → Option D}
theorem p_V {e : α → D} (h : Nth ρ i (.fr (e a))) : Pv e (eV i) ρ a := fun S => by simp only [eV, h.eq]
theorem p_Bf {e : α → D} (h : Nth ρ i (.fr (e a))) : Pv e (eB i) ρ a := fun S => by simp only [eB, h.eq]
theorem p_Bo {e : α → D} (h : Nth ρ i (.ow (e a))) : Pv e (eB i) ρ a := fun S => by simp only [eB, h.eq]
theorem p_Bb {e : α → D} (h : Nth ρ i (.bo (e a))) : Pv e (eB i) ρ a := fun S => by simp only [eB, h.eq]
theorem p_Bm {e : α → D} (h : Nth ρ i (.me (e a))) : Pv e (eB i) ρ a := fun S => by simp only [eB, h.eq]
theorem p_C {e : α → D} : Pv e (eC (e a)) ρ a := fun _ => rfl
theorem p_Cd {e : α → D} {d : D} (h : d = e a) : Pv e (eC d) ρ a := fun _ => by subst h; rfl
/-! more widely typed, more narrowly typed -/
theorem p_up {c : Ex} (h : Pv ea c ρ a) : Pv iN c ρ (ea a) := h
theorem x_up {c : Ex} (h : Xv ea c ρ ma) : Xv iN c ρ (M.bind ma fun a => M.pure (ea a)) := fun S => by
  have h := h S
  unfold M.bind Res.bind
  cases q : ma S <;> simp only [q] at h ⊢ <;> exact h
theorem x_cast {c : Ex} {u : D → Option α} (hu : Un ea u) {d : D} (h : Pv iN c ρ d) : Xv ea c ρ (M.opt (u d)) := fun S => by
  unfold M.opt
  cases q : u d with
  | none => exact trivial
  | some a => rw [h S, show iN d = ea a from hu.back _ _ q]; exact rfl
theorem x_castX {c : Ex} {u : D → Option α} (hu : Un ea u) {m : M D} (h : Xv iN c ρ m) : Xv ea c ρ (M.bind m fun d => M.opt (u d)) := fun S => by
  have h := h S
  unfold M.bind Res.bind
  cases q : m S with
  | ok d S' =>
    simp only [q] at h ⊢
    rw [h]
    unfold M.opt
    cases q2 : u d with
    | none => exact trivial
    | some a => rw [show iN d = ea a from hu.back _ _ q2]; exact rfl
  | exc n S' => simp only [q] at h ⊢; exact h
  | stuck => exact trivial
/-- another encoding of the same -/
theorem p_as {c : Ex} {e' : β → D} {b : β} (h : Pv ea c ρ a) (hb : ea a = e' b) : Pv e' c ρ b := fun S => by rw [h S, hb]
theorem x_as {c : Ex} {e' : β → D} {g : α → β} (h : Xv ea c ρ ma) (hb : ∀ a, ea a = e' (g a)) : Xv e' c ρ (M.bind ma fun a => M.pure (g a)) := fun S => by
  have h := h S
  unfold M.bind Res.bind
  cases q : ma S with
  | ok d S' => simp only [q] at h ⊢; rw [h, hb]; exact rfl
  | exc n S' => simp only [q] at h ⊢; exact h
  | stuck => exact trivial
/-! two-place -/
theorem pp_bin (ha : Pv ea ca ρ a) (hb : Pv eb cb ρ b) (h : f (ea a) (eb b) = some (ez z)) : Pv ez (eBin f ca cb) ρ z := fun S => by simp only [eBin, ha S, hb S, Res.bind, h, Res.opt]
theorem pp_binO {o : Option ζ} (ha : Pv ea ca ρ a) (hb : Pv eb cb ρ b) (h : ∀ z, o = some z → f (ea a) (eb b) = some (ez z)) : Xv ez (eBin f ca cb) ρ (M.opt o) := fun S => by
  unfold M.opt
  cases q : o with
  | none => exact trivial
  | some z => simp only [eBin, ha S, hb S, Res.bind, h z q, Res.opt]; exact rfl
theorem xx_binO {g : α → β → Option ζ} (ha : Xv ea ca ρ ma) (hb : Xv eb cb ρ mb) (h : ∀ a b z, g a b = some z → f (ea a) (eb b) = some (ez z)) : Xv ez (eBin f ca cb) ρ (M.bind ma fun a => M.bind mb fun b => M.opt (g a b)) := fun S => by
  refine RS.bind (ha S) fun a S1 => RS.bind (hb S1) fun b S2 => ?_
  unfold M.opt
  cases q : g a b with
  | none => exact trivial
  | some z => rw [h a b z q]; exact rfl
theorem xp_binO {g : α → Option ζ} (ha : Xv ea ca ρ ma) (hb : Pv eb cb ρ b) (h : ∀ a z, g a = some z → f (ea a) (eb b) = some (ez z)) : Xv ez (eBin f ca cb) ρ (M.bind ma fun a => M.opt (g a)) := fun S => by
  refine RS.bind (ha S) fun a S1 => ?_
  rw [hb S1]
  unfold M.opt
  simp only [Res.bind]
  cases q : g a with
  | none => exact trivial
  | some z => rw [h a z q]; exact rfl
theorem px_binO {g : β → Option ζ} (ha : Pv ea ca ρ a) (hb : Xv eb cb ρ mb) (h : ∀ b z, g b = some z → f (ea a) (eb b) = some (ez z)) : Xv ez (eBin f ca cb) ρ (M.bind mb fun b => M.opt (g b)) := fun S => by
  unfold eBin
  rw [ha S]
  show RS ez ((cb ρ S).bind fun e S => Res.opt (f (ea a) e) S) _
  refine RS.bind (hb S) fun b S1 => ?_
  unfold M.opt
  cases q : g b with
  | none => exact trivial
  | some z => rw [h b z q]; exact rfl
theorem xx_bin {g : α → β → ζ} (ha : Xv ea ca ρ ma) (hb : Xv eb cb ρ mb) (h : ∀ a b, f (ea a) (eb b) = some (ez (g a b))) : Xv ez (eBin f ca cb) ρ (M.bind ma fun a => M.bind mb fun b => M.pure (g a b)) :=
  xx_binO (g := fun a b => some (g a b)) ha hb fun a b z q => by cases q; exact h a b
theorem xp_bin {g : α → ζ} (ha : Xv ea ca ρ ma) (hb : Pv eb cb ρ b) (h : ∀ a, f (ea a) (eb b) = some (ez (g a))) : Xv ez (eBin f ca cb) ρ (M.bind ma fun a => M.pure (g a)) :=
  xp_binO (g := fun a => some (g a)) ha hb fun a z q => by cases q; exact h a
theorem px_bin {g : β → ζ} (ha : Pv ea ca ρ a) (hb : Xv eb cb ρ mb) (h : ∀ b, f (ea a) (eb b) = some (ez (g b))) : Xv ez (eBin f ca cb) ρ (M.bind mb fun b => M.pure (g b)) :=
  px_binO (g := fun b => some (g b)) ha hb fun b z q => by cases q; exact h b
/-! one-place -/
section
variable {g : D → Option D}
theorem p_un (ha : Pv ea ca ρ a) (h : g (ea a) = some (ez z)) : Pv ez (eUn g ca) ρ z := fun S => by simp only [eUn, ha S, Res.bind, h, Res.opt]
theorem x_un {k : α → ζ} (ha : Xv ea ca ρ ma) (h : ∀ a, g (ea a) = some (ez (k a))) : Xv ez (eUn g ca) ρ (M.bind ma fun a => M.pure (k a)) := fun S =>
  RS.bind (ha S) fun a S1 => by rw [h a]; exact rfl
end
/-! tests -/
theorem p_TrB {b : Bool} (h : Pv D.bl ca ρ b) : Pv id (eTr ca) ρ b := fun S => by simp only [eTr, h S, Res.bind, D.truth, Res.opt, id]
theorem x_TrBm {m : M Bool} (h : Xv D.bl ca ρ m) : Xv id (eTr ca) ρ m := fun S => by
  have h := h S
  unfold eTr
  cases q : m S <;> simp only [q, RS] at h ⊢ <;> (try rw [h]) <;> exact rfl
theorem p_Tr {b : Bool} (h : Pv ea ca ρ a) (hb : (ea a).truth = some b) : Pv id (eTr ca) ρ b := fun S => by simp only [eTr, h S, Res.bind, hb, Res.opt, id]
theorem p_TrO {o : Option Bool} (h : Pv ea ca ρ a) (hb : ∀ k, o = some k → (ea a).truth = some k) : Xv id (eTr ca) ρ (M.opt o) := fun S => by
  unfold M.opt
  cases q : o with
  | none => exact trivial
  | some k => simp only [eTr, h S, Res.bind, hb k q, Res.opt]; exact rfl
theorem x_TrO {g : α → Option Bool} (h : Xv ea ca ρ ma) (hb : ∀ a k, g a = some k → (ea a).truth = some k) : Xv id (eTr ca) ρ (M.bind ma fun a => M.opt (g a)) := fun S =>
  RS.bind (h S) fun a S1 => by
    unfold M.opt
    cases q : g a with
    | none => exact trivial
    | some k => rw [hb a k q]; exact rfl
section
variable {ta tb : Tx} {x y : Bool} {mx my : M Bool}
theorem p_tNot (h : Pv id ta ρ x) : Pv id (tNotD ta) ρ (!x) := fun S => by simp only [tNotD, h S, Res.bind, id]
theorem x_tNot' (h : Xv id ta ρ mx) : Xv id (tNotD ta) ρ (M.bind mx fun x => M.pure (!x)) := fun S => RS.bind (h S) fun a S1 => rfl
theorem p_tAnd (h : Pv id ta ρ x) (k : Pv id tb ρ y) : Pv id (tAndD ta tb) ρ (x && y) := fun S => by
  simp only [tAndD, h S, Res.bind, id]; cases x <;> simp [k S]
theorem p_tOr (h : Pv id ta ρ x) (k : Pv id tb ρ y) : Pv id (tOrD ta tb) ρ (x || y) := fun S => by
  simp only [tOrD, h S, Res.bind, id]; cases x <;> simp [k S]
theorem px_tAnd (h : Pv id ta ρ x) (k : Xv id tb ρ my) : Xv id (tAndD ta tb) ρ (if x = true then my else M.pure false) := fun S => by
  simp only [tAndD, h S, Res.bind, id]; cases x <;> simp
  · exact rfl
  · exact k S
theorem px_tOr (h : Pv id ta ρ x) (k : Xv id tb ρ my) : Xv id (tOrD ta tb) ρ (if x = true then M.pure true else my) := fun S => by
  simp only [tOrD, h S, Res.bind, id]; cases x <;> simp
  · exact k S
  · exact rfl
theorem xx_tAnd (h : Xv id ta ρ mx) (k : Xv id tb ρ my) : Xv id (tAndD ta tb) ρ (M.bind mx fun x => if x = true then my else M.pure false) := fun S =>
  RS.bind (h S) fun x S1 => by cases x <;> simp; exact rfl; exact k S1
theorem xx_tOr (h : Xv id ta ρ mx) (k : Xv id tb ρ my) : Xv id (tOrD ta tb) ρ (M.bind mx fun x => if x = true then M.pure true else my) := fun S =>
  RS.bind (h S) fun x S1 => by cases x <;> simp; exact k S1; exact rfl
theorem xp_tAnd (h : Xv id ta ρ mx) (k : Pv id tb ρ y) : Xv id (tAndD ta tb) ρ (M.bind mx fun x => M.pure (x && y)) := fun S =>
  RS.bind (h S) fun x S1 => by cases x <;> simp [k S1, RS, M.pure]
theorem xp_tOr (h : Xv id ta ρ mx) (k : Pv id tb ρ y) : Xv id (tOrD ta tb) ρ (M.bind mx fun x => M.pure (x || y)) := fun S =>
  RS.bind (h S) fun x S1 => by cases x <;> simp [k S1, RS, M.pure]
/-! .. as values -/
theorem p_Not (h : Pv D.bl ca ρ x) : Pv D.bl (eNotD ca) ρ (!x) := fun S => by simp only [eNotD, h S, Res.bind]
theorem x_Not' (h : Xv D.bl ca ρ mx) : Xv D.bl (eNotD ca) ρ (M.bind mx fun x => M.pure (!x)) := fun S => RS.bind (h S) fun a S1 => rfl
theorem p_And (h : Pv D.bl ca ρ x) (k : Pv D.bl cb ρ y) : Pv D.bl (eAndD ca cb) ρ (x && y) := fun S => by
  simp only [eAndD, h S, Res.bind]; cases x <;> simp [k S]
theorem p_Or (h : Pv D.bl ca ρ x) (k : Pv D.bl cb ρ y) : Pv D.bl (eOrD ca cb) ρ (x || y) := fun S => by
  simp only [eOrD, h S, Res.bind]; cases x <;> simp [k S]
theorem px_And (h : Pv D.bl ca ρ x) (k : Xv D.bl cb ρ my) : Xv D.bl (eAndD ca cb) ρ (if x = true then my else M.pure false) := fun S => by
  simp only [eAndD, h S, Res.bind]; cases x <;> simp
  · exact rfl
  · exact k S
theorem px_Or (h : Pv D.bl ca ρ x) (k : Xv D.bl cb ρ my) : Xv D.bl (eOrD ca cb) ρ (if x = true then M.pure true else my) := fun S => by
  simp only [eOrD, h S, Res.bind]; cases x <;> simp
  · exact k S
  · exact rfl
theorem xx_And (h : Xv D.bl ca ρ mx) (k : Xv D.bl cb ρ my) : Xv D.bl (eAndD ca cb) ρ (M.bind mx fun x => if x = true then my else M.pure false) := fun S =>
  RS.bind (h S) fun x S1 => by cases x <;> simp; exact rfl; exact k S1
theorem xx_Or (h : Xv D.bl ca ρ mx) (k : Xv D.bl cb ρ my) : Xv D.bl (eOrD ca cb) ρ (M.bind mx fun x => if x = true then M.pure true else my) := fun S =>
  RS.bind (h S) fun x S1 => by cases x <;> simp; exact k S1; exact rfl
theorem xp_And (h : Xv D.bl ca ρ mx) (k : Pv D.bl cb ρ y) : Xv D.bl (eAndD ca cb) ρ (M.bind mx fun x => M.pure (x && y)) := fun S =>
  RS.bind (h S) fun x S1 => by cases x <;> simp [k S1, RS, M.pure]
theorem xp_Or (h : Xv D.bl ca ρ mx) (k : Pv D.bl cb ρ y) : Xv D.bl (eOrD ca cb) ρ (M.bind mx fun x => M.pure (x || y)) := fun S =>
  RS.bind (h S) fun x S1 => by cases x <;> simp [k S1, RS, M.pure]
end
theorem p_If {tc : Tx} {x : Bool} {ca cb : Ex} {a b : ζ} (h : Pv id tc ρ x) (ha : Pv ez ca ρ a) (hb : Pv ez cb ρ b) : Pv ez (eIf tc ca cb) ρ (if x = true then a else b) := fun S => by
  simp only [eIf, h S, Res.bind, id]; cases x <;> simp [ha S, hb S]
theorem px_If {tc : Tx} {x : Bool} {ca cb : Ex} {a b : M ζ} (h : Pv id tc ρ x) (ha : Xv ez ca ρ a) (hb : Xv ez cb ρ b) : Xv ez (eIf tc ca cb) ρ (if x = true then a else b) := fun S => by
  simp only [eIf, h S, Res.bind, id]; cases x <;> simp
  · exact hb S
  · exact ha S
theorem xx_If {tc : Tx} {x : M Bool} {ca cb : Ex} {a b : M ζ} (h : Xv id tc ρ x) (ha : Xv ez ca ρ a) (hb : Xv ez cb ρ b) : Xv ez (eIf tc ca cb) ρ (M.bind x fun x => if x = true then a else b) := fun S =>
  RS.bind (h S) fun x S1 => by
    cases x <;> simp
    · exact hb S1
    · exact ha S1
/-- a < b < c -/
theorem p_Ch {f f' : D → D → Option D} {ec : γ → D} {c : γ} {x y : Bool} (ha : Pv ea ca ρ a) (hb : Pv eb cb ρ b) (hc : Pv ec cc ρ c) (h : f (ea a) (eb b) = some (.bl x)) (h' : f' (eb b) (ec c) = some (.bl y)) : Pv D.bl (eChain f f' ca cb cc) ρ (x && y) := fun S => by
  cases x <;> simp [eChain, ha S, hb S, Res.bind, h, hc S, h', Res.opt]
theorem pxp_Ch {f f' : D → D → Option D} {ec : γ → D} {c : γ} {x y : β → Bool} (ha : Pv ea ca ρ a) (hb : Xv eb cb ρ mb) (hc : Pv ec cc ρ c) (h : ∀ b, f (ea a) (eb b) = some (.bl (x b))) (h' : ∀ b, f' (eb b) (ec c) = some (.bl (y b))) : Xv D.bl (eChain f f' ca cb cc) ρ (M.bind mb fun b => M.pure (x b && y b)) := fun S => by
  unfold eChain
  rw [ha S]
  show RS D.bl ((cb ρ S).bind fun e S => _) _
  refine RS.bind (hb S) fun b S1 => ?_
  rw [h b]
  cases x b <;> simp [hc S1, h' b, Res.opt, RS, M.pure, Res.bind]
/-! arguments -/
def PvA (c : Ax) (ρ : Env) (ds : List D) : Prop := ∀ S, c ρ S = .ok ds S
def XvA (es : α → List D) (c : Ax) (ρ : Env) (m : M α) : Prop := Xv es c ρ m
variable {cr : Ax} {ds : List D} {es : β → List D}
theorem p_aNil : PvA aNil ρ [] := fun _ => rfl
theorem p_aCons (h : Pv ea ca ρ a) (t : PvA cr ρ ds) : PvA (aCons ca cr) ρ (ea a :: ds) := fun S => by simp only [aCons, h S, t S, Res.bind]
theorem xa_1 (h : Xv ea ca ρ ma) (t : PvA cr ρ ds) : XvA (fun a => ea a :: ds) (aCons ca cr) ρ ma := fun S => by
  have h := h S
  unfold aCons
  cases q : ma S <;> simp only [q, RS] at h ⊢
  · rw [h]; simp only [Res.bind, t _]
  · rw [h]; rfl
theorem xa_P (h : Pv ea ca ρ a) (t : XvA es cr ρ mb) : XvA (fun b => ea a :: es b) (aCons ca cr) ρ mb := fun S => by
  have t := t S
  unfold aCons
  rw [h S]
  cases q : mb S <;> simp only [q, RS] at t ⊢
  · simp only [Res.bind]; rw [t]
  · simp only [Res.bind]; rw [t]
theorem xa_X (h : Xv ea ca ρ ma) (t : XvA es cr ρ mb) : XvA (fun p : α × β => ea p.1 :: es p.2) (aCons ca cr) ρ (M.bind ma fun a => M.bind mb fun b => M.pure (a, b)) := fun S => by
  refine RS.bind (h S) fun a S1 => RS.bind (t S1) fun b S2 => rfl
/-- a function of the arguments -/
theorem p_Fn {g : List D → Option D} (h : PvA cr ρ ds) (hg : g ds = some (ez z)) : Pv ez (eFn g cr) ρ z := fun S => by simp only [eFn, h S, Res.bind, hg, Res.opt]
theorem p_FnO {g : List D → Option D} {o : Option ζ} (h : PvA cr ρ ds) (hg : ∀ z, o = some z → g ds = some (ez z)) : Xv ez (eFn g cr) ρ (M.opt o) := fun S => by
  unfold M.opt
  cases q : o with
  | none => exact trivial
  | some z => simp only [eFn, h S, Res.bind, hg z q, Res.opt]; exact rfl
theorem x_FnT {g : List D → Option D} {k : β → ζ} (h : XvA es cr ρ mb) (hg : ∀ b, g (es b) = some (ez (k b))) : Xv ez (eFn g cr) ρ (M.bind mb fun b => M.pure (k b)) := fun S =>
  RS.bind (h S) fun b S1 => by rw [hg b]; exact rfl
theorem x_FnO {g : List D → Option D} {k : β → Option ζ} (h : XvA es cr ρ mb) (hg : ∀ b z, k b = some z → g (es b) = some (ez z)) : Xv ez (eFn g cr) ρ (M.bind mb fun b => M.opt (k b)) := fun S =>
  RS.bind (h S) fun b S1 => by
    unfold M.opt
    cases q : k b with
    | none => exact trivial
    | some z => rw [hg b z q]; exact rfl
/-- calls -/
def FnT (e : ζ → D) (m : Fn) (ds : List D) (g : M ζ) : Prop := ∀ S, RS e (resF (m ds S)) (g S)
def FnN (e : ζ → D) (m : Fn) (ds : List D) (g : M ζ) : Prop := ∀ S, RS e (resN (m ds S)) (g S)
def FnI (e : ζ → D) (m : List D → Store → Res D) (ds : List D) (g : M ζ) : Prop := ∀ S, RS e (m ds S) (g S)
variable {m : Fn} {mi : List D → Store → Res D} {g : M ζ} {gx : β → M ζ}
theorem FnN.toT (h : FnN ez m ds g) : FnT ez m ds g := fun S => by
  have h := h S
  cases q : g S <;> simp only [q, RS] at h ⊢
  · cases q2 : m ds S with
    | ok v S' => cases v <;> simp only [q2, resN, resF, reduceCtorEq] at h ⊢; exact h
    | exc n S' => simp only [q2, resN, resF, reduceCtorEq] at h
    | stuck => simp only [q2, resN, resF, reduceCtorEq] at h
  · cases q2 : m ds S with
    | ok v S' => cases v <;> simp only [q2, resN, resF, reduceCtorEq] at h ⊢
    | exc n S' => simp only [q2, resN, resF] at h ⊢; exact h
    | stuck => simp only [q2, resN, resF, reduceCtorEq] at h
theorem x_callP (h : PvA cr ρ ds) (hf : FnT ez m ds g) : Xv ez (eCall m cr) ρ g := fun S => by simp only [eCall, h S, Res.bind]; exact hf S
theorem x_callX (h : XvA es cr ρ mb) (hf : ∀ b, FnT ez m (es b) (gx b)) : Xv ez (eCall m cr) ρ (M.bind mb gx) := fun S => RS.bind (h S) fun b S1 => hf b S1
theorem x_callNP (h : PvA cr ρ ds) (hf : FnN ez m ds g) : Xv ez (eCallN m cr) ρ g := fun S => by simp only [eCallN, h S, Res.bind]; exact hf S
theorem x_callNX (h : XvA es cr ρ mb) (hf : ∀ b, FnN ez m (es b) (gx b)) : Xv ez (eCallN m cr) ρ (M.bind mb gx) := fun S => RS.bind (h S) fun b S1 => hf b S1
theorem x_makeP (h : PvA cr ρ ds) (hf : FnI ez mi ds g) : Xv ez (eMake mi cr) ρ g := fun S => by simp only [eMake, h S, Res.bind]; exact hf S
theorem x_makeX (h : XvA es cr ρ mb) (hf : ∀ b, FnI ez mi (es b) (gx b)) : Xv ez (eMake mi cr) ρ (M.bind mb gx) := fun S => RS.bind (h S) fun b S1 => hf b S1
/-- methods, fields: of data -/
def methM (mn : Str) (mt : MTab) (fin : Res Val → Res D) (d : D) (ma : M (List D)) : M D := fun S => match d with
  | .obj c fs => (match fs.lookup mn, mt c with
    | none, some fn => M.bind ma (fun ds S => fin (fn (d :: ds) S)) S
    | _, _ => .stuck)
  | .rf n => (match S[n]? with
    | some cell => (match cell.fs.lookup mn, mt cell.c with
      | none, some fn => M.bind ma (fun ds S => fin (fn (d :: ds) S)) S
      | _, _ => .stuck)
    | none => .stuck)
  | _ => .stuck
theorem RSid {r : Res D} {t : Res D} (h : r = t) : RS iN r t := by subst h; cases r <;> simp only [RS]; exact rfl
theorem RS_bindM {γ : Type} {f : List D → Store → Res D} {e : γ → List D} {r : Res (List D)} {m : M γ} {S : Store} (h : RS e r (m S)) : RS iN (r.bind f) (M.bind (M.bind m fun b => M.pure (e b)) f S) := by
  unfold M.bind Res.bind
  cases q : m S with
  | ok b S' => simp only [q, RS] at h; rw [h]; exact RSid rfl
  | exc n S' => simp only [q, RS] at h; rw [h]; exact rfl
  | stuck => exact trivial
theorem meth_core {mn : Str} {mt : MTab} {fin : Res Val → Res D} {d : D} {S : Store} {γ : Type} {e : γ → List D} {mb : M γ} (ha : ca ρ S = .ok d S) (h : XvA e cr ρ mb) : RS iN (eMeth mn mt ca cr fin ρ S) (methM mn mt fin d (M.bind mb fun b => M.pure (e b)) S) := by
  unfold eMeth
  rw [ha]
  cases d with
  | obj c fs =>
    cases hl : fs.lookup mn with
    | none =>
      cases hm : mt c with
      | none => simp only [methM, hl, hm]; exact trivial
      | some fn => simp only [methM, Res.bind, hl, hm]; exact RS_bindM (f := fun ds S => fin (fn (D.obj c fs :: ds) S)) (h S)
    | some x => simp only [methM, hl]; exact trivial
  | rf n =>
    cases hc : S[n]? with
    | none => simp only [methM, hc]; exact trivial
    | some cell =>
      cases hl : cell.fs.lookup mn with
      | none =>
        cases hm : mt cell.c with
        | none => simp only [methM, hc, hl, hm]; exact trivial
        | some fn => simp only [methM, Res.bind, hc, hl, hm]; exact RS_bindM (f := fun ds S => fin (fn (D.rf n :: ds) S)) (h S)
      | some x => simp only [methM, hc, hl]; exact trivial
  | _ => exact trivial
theorem p_methP {mn : Str} {mt : MTab} {fin : Res Val → Res D} (ha : Pv ea ca ρ a) (h : PvA cr ρ ds) : Xv iN (eMeth mn mt ca cr fin) ρ (methM mn mt fin (ea a) (M.pure ds)) := fun S =>
  meth_core (e := fun _ : Unit => ds) (mb := M.pure ()) (ha S) fun S => h S
theorem p_methX {mn : Str} {mt : MTab} {fin : Res Val → Res D} (ha : Pv ea ca ρ a) (h : XvA es cr ρ mb) : Xv iN (eMeth mn mt ca cr fin) ρ (methM mn mt fin (ea a) (M.bind mb fun b => M.pure (es b))) := fun S => meth_core (ha S) h
theorem x_meth {mn : Str} {mt : MTab} {fin : Res Val → Res D} (ha : Xv ea ca ρ ma) {mds : M (List D)} (h : ∀ a ca', (∀ S, ca' ρ S = .ok (ea a) S) → Xv iN (eMeth mn mt ca' cr fin) ρ (methM mn mt fin (ea a) mds)) : Xv iN (eMeth mn mt ca cr fin) ρ (M.bind ma fun a => methM mn mt fin (ea a) mds) := fun S => by
  have ha := ha S
  unfold M.bind Res.bind
  cases q : ma S with
  | ok a S' =>
    simp only [q, RS] at ha ⊢
    have := h a (fun _ S => .ok (ea a) S) (fun _ => rfl) S'
    unfold eMeth at this ⊢
    rw [ha]
    exact this
  | exc n S' => simp only [q, RS] at ha ⊢; unfold eMeth; rw [ha]; rfl
  | stuck => exact trivial
theorem x_methP {mn : Str} {mt : MTab} {fin : Res Val → Res D} (ha : Xv ea ca ρ ma) (h : PvA cr ρ ds) : Xv iN (eMeth mn mt ca cr fin) ρ (M.bind ma fun a => methM mn mt fin (ea a) (M.pure ds)) := x_meth ha fun a ca' h' => p_methP (ea := ea) h' h
theorem x_methX {mn : Str} {mt : MTab} {fin : Res Val → Res D} (ha : Xv ea ca ρ ma) (h : XvA es cr ρ mb) : Xv iN (eMeth mn mt ca cr fin) ρ (M.bind ma fun a => methM mn mt fin (ea a) (M.bind mb fun b => M.pure (es b))) := x_meth ha fun a ca' h' => p_methX (ea := ea) h' h
def fldM (fl : FTab) (f : Str) (d : D) : M D := fun S => match d with
  | .obj c fs => if fl c f = true then Res.opt (fs.lookup f) S else .stuck
  | .rf n => (match S[n]? with
    | some cell => if fl cell.c f = true then (match cell.fs.lookup f with
      | some (.fr d) => .ok d S
      | _ => .stuck) else .stuck
    | none => .stuck)
  | _ => .stuck
theorem p_fld {fl : FTab} {f : Str} (ha : Pv ea ca ρ a) : Xv iN (eFld fl f ca) ρ (fldM fl f (ea a)) := fun S => by
  unfold eFld; rw [ha S]; exact RSid rfl
theorem x_fld {fl : FTab} {f : Str} (ha : Xv ea ca ρ ma) : Xv iN (eFld fl f ca) ρ (M.bind ma fun a => fldM fl f (ea a)) := fun S => RS.bind (ha S) fun a S1 => RSid rfl
theorem p_isT {T : String} {k : Bool} (ha : Pv ea ca ρ a) (h : (ea a).isT T = some k) : Pv D.bl (eIsT T ca) ρ k := fun S => by simp only [eIsT, ha S, Res.bind, h, Option.map_some, Res.opt]
theorem p_isTO {T : String} {d : D} (ha : Pv iN ca ρ d) : Xv D.bl (eIsT T ca) ρ (M.opt (d.isT T)) := fun S => by
  unfold M.opt
  cases q : d.isT T with
  | none => exact trivial
  | some k => simp only [eIsT, ha S, Res.bind, iN, id, q, Option.map_some, Res.opt]; exact rfl
theorem x_isTO {T : String} {md : M D} (ha : Xv iN ca ρ md) : Xv D.bl (eIsT T ca) ρ (M.bind md fun d => M.opt (d.isT T)) := fun S => RS.bind (ha S) fun d S1 => by
  unfold M.opt
  simp only [iN, id]
  cases q : d.isT T with
  | none => exact trivial
  | some k => exact rfl
def isOM (sub : STab) (t : Nat) (d : D) : M Bool := fun S => match d with
  | .obj c _ => Res.opt (sub c t) S
  | .rf n => (match S[n]? with
    | some cell => Res.opt (sub cell.c t) S
    | none => .stuck)
  | _ => .stuck
theorem isO_core {sub : STab} {t : Nat} {d : D} {S : Store} (ha : ca ρ S = .ok d S) : RS D.bl (eIsO sub t ca ρ S) (isOM sub t d S) := by
  unfold eIsO
  rw [ha]
  cases d with
  | obj c fs =>
    cases hs : sub c t with
    | none => simp only [isOM, hs]; exact trivial
    | some b => simp only [isOM, Res.bind, hs]; exact rfl
  | rf n =>
    cases hc : S[n]? with
    | none => simp only [isOM, hc]; exact trivial
    | some cell =>
      cases hs : sub cell.c t with
      | none => simp only [isOM, hc, hs]; exact trivial
      | some b => simp only [isOM, Res.bind, hc, hs]; exact rfl
  | _ => exact trivial
theorem p_isO {sub : STab} {t : Nat} (ha : Pv ea ca ρ a) : Xv D.bl (eIsO sub t ca) ρ (isOM sub t (ea a)) := fun S => isO_core (ha S)
theorem x_isO {sub : STab} {t : Nat} (ha : Xv ea ca ρ ma) : Xv D.bl (eIsO sub t ca) ρ (M.bind ma fun a => isOM sub t (ea a)) := fun S => by
  have ha := ha S
  unfold M.bind Res.bind
  cases q : ma S with
  | ok a S' =>
    simp only [q, RS] at ha ⊢
    have := isO_core (ca := fun _ S => .ok (ea a) S) (ρ := ρ) (sub := sub) (t := t) (d := ea a) (S := S') rfl
    unfold eIsO at this ⊢
    rw [ha]
    exact this
  | exc n S' => simp only [q, RS] at ha ⊢; unfold eIsO; rw [ha]; rfl
  | stuck => exact trivial
/-! displays -/
theorem p_Lst (h : PvA cr ρ ds) (hl : ds.length ≤ 1000000) (hz : D.lst ds = ez z) : Pv ez (eLst cr) ρ z := fun S => by simp only [eLst, h S, Res.bind, hl, if_true, hz]
theorem p_Tup (h : PvA cr ρ ds) (hl : ds.length ≤ 1000000) (hz : D.tup ds = ez z) : Pv ez (eTup cr) ρ z := fun S => by simp only [eTup, h S, Res.bind, hl, if_true, hz]
theorem x_Lst' {k : β → ζ} (h : XvA es cr ρ mb) (hl : ∀ b, (es b).length ≤ 1000000) (hz : ∀ b, D.lst (es b) = ez (k b)) : Xv ez (eLst cr) ρ (M.bind mb fun b => M.pure (k b)) := fun S =>
  RS.bind (h S) fun b S1 => by rw [if_pos (hl b), hz b]; exact rfl
theorem x_Tup' {k : β → ζ} (h : XvA es cr ρ mb) (hl : ∀ b, (es b).length ≤ 1000000) (hz : ∀ b, D.tup (es b) = ez (k b)) : Xv ez (eTup cr) ρ (M.bind mb fun b => M.pure (k b)) := fun S =>
  RS.bind (h S) fun b S1 => by rw [if_pos (hl b), hz b]; exact rfl
theorem p_Dic0 : Pv (fun k : List (Key × D) => D.dic k) eDic0 ρ [] := fun _ => rfl
/-! slices -/
abbrev iO : Option Int → Option Int := id
theorem p_No : Pv iO pNo ρ none := fun _ => rfl
theorem p_At {j : Int} (h : Pv D.int ca ρ j) : Pv iO (pAt ca) ρ (some j) := fun S => by simp only [pAt, h S, Res.bind]; rfl
theorem x_At {mj : M Int} (h : Xv D.int ca ρ mj) : Xv iO (pAt ca) ρ (M.bind mj fun j => M.pure (some j)) := fun S => RS.bind (h S) fun j S1 => rfl
section
variable {fc : D → Option Int → Option Int → Option D} {pl ph : Px} {lo hi : Option Int} {ml mh : M (Option Int)}
theorem p_Cut (ha : Pv ea ca ρ a) (hl : Pv iO pl ρ lo) (hh : Pv iO ph ρ hi) (h : fc (ea a) lo hi = some (ez z)) : Pv ez (eCut fc ca pl ph) ρ z := fun S => by
  simp only [eCut, ha S, Res.bind, hl S, hh S, iO, id, h, Res.opt]
theorem p_CutO {o : Option ζ} (ha : Pv ea ca ρ a) (hl : Pv iO pl ρ lo) (hh : Pv iO ph ρ hi) (h : ∀ z, o = some z → fc (ea a) lo hi = some (ez z)) : Xv ez (eCut fc ca pl ph) ρ (M.opt o) := fun S => by
  unfold M.opt
  cases q : o with
  | none => exact trivial
  | some z => simp only [eCut, ha S, Res.bind, hl S, hh S, iO, id, h z q, Res.opt]; exact rfl
theorem x_CutO {g : α → Option Int → Option Int → Option ζ} (ha : Xv ea ca ρ ma) (hl : Xv iO pl ρ ml) (hh : Xv iO ph ρ mh) (h : ∀ a lo hi z, g a lo hi = some z → fc (ea a) lo hi = some (ez z)) : Xv ez (eCut fc ca pl ph) ρ (M.bind ma fun a => M.bind ml fun lo => M.bind mh fun hi => M.opt (g a lo hi)) := fun S =>
  RS.bind (ha S) fun a S1 => RS.bind (hl S1) fun lo S2 => RS.bind (hh S2) fun hi S3 => by
    unfold M.opt
    simp only [iO, id]
    cases q : g a lo hi with
    | none => exact trivial
    | some z => rw [h a lo hi z q]; exact rfl
theorem x_Cut' {g : α → Option Int → Option Int → ζ} (ha : Xv ea ca ρ ma) (hl : Xv iO pl ρ ml) (hh : Xv iO ph ρ mh) (h : ∀ a lo hi, fc (ea a) lo hi = some (ez (g a lo hi))) : Xv ez (eCut fc ca pl ph) ρ (M.bind ma fun a => M.bind ml fun lo => M.bind mh fun hi => M.pure (g a lo hi)) :=
  x_CutO (g := fun a lo hi => some (g a lo hi)) ha hl hh fun a lo hi z q => by cases q; exact h a lo hi
end
/-! what is walked -/
theorem p_iL {xs : List α} (h : Pv (eL ea) ca ρ xs) : Pv (List.map ea) (iL ca) ρ xs := fun S => by simp only [iL, h S, Res.bind]
theorem x_iL' {mx : M (List α)} (h : Xv (eL ea) ca ρ mx) : Xv (List.map ea) (iL ca) ρ mx := fun S => by
  have h := h S
  unfold iL
  cases q : mx S <;> simp only [q, RS] at h ⊢ <;> rw [h] <;> rfl
theorem p_iBf {xs : List α} (h : Nth ρ i (.fr (eL ea xs))) : Pv (List.map ea) (iB i) ρ xs := fun S => by simp only [iB, h.eq]
theorem p_iBb {xs : List α} (h : Nth ρ i (.bo (eL ea xs))) : Pv (List.map ea) (iB i) ρ xs := fun S => by simp only [iB, h.eq]
theorem p_iT {xs : List α} (h : Pv (eTL ea) ca ρ xs) : Pv (List.map ea) (iT ca) ρ xs := fun S => by simp only [iT, h S, Res.bind]
theorem x_iT' {mx : M (List α)} (h : Xv (eTL ea) ca ρ mx) : Xv (List.map ea) (iT ca) ρ mx := fun S => by
  have h := h S
  unfold iT
  cases q : mx S <;> simp only [q, RS] at h ⊢ <;> rw [h] <;> rfl
theorem p_iScr {ns : List Int} (h : Pv D.scr ca ρ ns) : Pv (List.map D.int) (iL ca) ρ ns := fun S => by simp only [iL, h S, Res.bind]
abbrev eCh : Nat → D := fun c => .str (S1 c)
theorem p_iS {x : Str} (h : Pv D.str ca ρ x) : Pv (List.map eCh) (iS ca) ρ (Sl x) := fun S => by simp only [iS, h S, Res.bind]; rfl
theorem x_iS1 {mx : M Str} (h : Xv D.str ca ρ mx) : Xv (List.map eCh) (iS ca) ρ (M.bind mx fun x => M.pure (Sl x)) := fun S => RS.bind (h S) fun x S1 => rfl
/-- a whole range -/
def rngI (lo : Int) (n : Nat) : List Int := (List.range n).map fun (k : Nat) => lo + (k : Int)
theorem rngI_map (lo : Int) (n : Nat) : rngD lo n = (rngI lo n).map D.int := by unfold rngD rngI; rw [List.map_map]; rfl
def rngIC (lo c : Int) (n : Nat) : List Int := (List.range n).map fun (k : Nat) => lo + (k : Int) * c
theorem rngIC_map (lo c : Int) (n : Nat) : rngC lo c n = (rngIC lo c n).map D.int := by unfold rngC rngIC; rw [List.map_map]; rfl
def gR1 (j : Int) : Option (List Int) := if -1000000000 ≤ j ∧ j ≤ 1000000000 then some (rngI 0 j.toNat) else none
def gR2 (i j : Int) : Option (List Int) := if (-1000000000 ≤ i ∧ i ≤ 1000000000) ∧ -1000000000 ≤ j ∧ j ≤ 1000000000 then some (rngI i (j - i).toNat) else none
def gR3 (i j c : Int) : Option (List Int) := if ((-1000000000 ≤ i ∧ i ≤ 1000000000) ∧ -1000000000 ≤ j ∧ j ≤ 1000000000) ∧ 0 < c ∧ c ≤ 1000000000 then some (rngIC i c (stepN i j c)) else none
def gRv1 (j : Int) : Option (List Int) := if -1000000000 ≤ j ∧ j ≤ 1000000000 then some (rngIC (j.toNat - 1) (-1) j.toNat) else none
theorem oo_R1 {j : Int} {z : List Int} (h : gR1 j = some z) : fR1 [.int j] = some (z.map D.int) := by
  unfold gR1 at h
  split at h
  · cases h; rename_i h; simp only [fR1, h, and_self, if_true, rngI_map]
  · cases h
theorem oo_R2 {i j : Int} {z : List Int} (h : gR2 i j = some z) : fR2 [.int i, .int j] = some (z.map D.int) := by
  unfold gR2 at h
  split at h
  · cases h; rename_i h; simp only [fR2, h, and_self, if_true, rngI_map]
  · cases h
theorem oo_R3 {i j c : Int} {z : List Int} (h : gR3 i j c = some z) : fR3 [.int i, .int j, .int c] = some (z.map D.int) := by
  unfold gR3 at h
  split at h
  · cases h; rename_i h; simp only [fR3, h, and_self, if_true, rngIC_map]
  · cases h
theorem p_iFn {g : List D → Option (List D)} {o : Option (List ζ)} (h : PvA cr ρ ds) (hg : ∀ z, o = some z → g ds = some (z.map ez)) : Xv (List.map ez) (iFn g cr) ρ (M.opt o) := fun S => by
  unfold M.opt
  cases q : o with
  | none => exact trivial
  | some z => simp only [iFn, h S, Res.bind, hg z q, Res.opt]; exact rfl
theorem x_iFn' {g : List D → Option (List D)} {k : β → Option (List ζ)} (h : XvA es cr ρ mb) (hg : ∀ b z, k b = some z → g (es b) = some (z.map ez)) : Xv (List.map ez) (iFn g cr) ρ (M.bind mb fun b => M.opt (k b)) := fun S =>
  RS.bind (h S) fun b S1 => by
    unfold M.opt
    cases q : k b with
    | none => exact trivial
    | some z => rw [hg b z q]; exact rfl
theorem p_iRv1 {j : Int} (h : Pv D.int ca ρ j) : Xv (List.map D.int) (iRv1 ca) ρ (M.opt (gRv1 j)) := fun S => by
  unfold M.opt gRv1 iRv1
  rw [h S]
  simp only [Res.bind]
  split
  · rw [rngIC_map]; exact rfl
  · exact trivial
theorem x_iRv1' {mj : M Int} (h : Xv D.int ca ρ mj) : Xv (List.map D.int) (iRv1 ca) ρ (M.bind mj fun j => M.opt (gRv1 j)) := fun S => RS.bind (h S) fun j S1 => by
  unfold M.opt gRv1
  simp only []
  split
  · rw [rngIC_map]; exact rfl
  · exact trivial
def gRg (j : Int) : Option (List Int) := if -1000000 ≤ j ∧ j ≤ 1000000 then some (rngI 0 j.toNat) else none
theorem p_LstRg1 {j : Int} (h : Pv D.int ca ρ j) : Xv (eL D.int) (eLstRg1 ca) ρ (M.opt (gRg j)) := fun S => by
  unfold M.opt gRg eLstRg1
  rw [h S]
  simp only [Res.bind]
  split
  · rw [rngI_map]; exact rfl
  · exact trivial
theorem x_LstRg1' {mj : M Int} (h : Xv D.int ca ρ mj) : Xv (eL D.int) (eLstRg1 ca) ρ (M.bind mj fun j => M.opt (gRg j)) := fun S => RS.bind (h S) fun j S1 => by
  unfold M.opt gRg
  simp only []
  split
  · rw [rngI_map]; exact rfl
  · exact trivial
/-- data that is walked -/
def iterM (d : D) : M (List D) := fun S => match d with
  | .lst ds => .ok ds S
  | .scr ns => .ok (ns.map .int) S
  | _ => .stuck
theorem p_iLD {d : D} (h : Pv iN ca ρ d) : Xv (List.map iN) (iL ca) ρ (iterM d) := fun S => by
  unfold iL iterM
  rw [h S]
  simp only [Res.bind, iN, id]
  cases d <;> simp only [] <;> try exact trivial
  all_goals (simp only [RS, iN, List.map_id_fun, id])
theorem x_iLD {md : M D} (h : Xv iN ca ρ md) : Xv (List.map iN) (iL ca) ρ (M.bind md iterM) := fun S => RS.bind (h S) fun d S1 => by
  unfold iterM
  simp only [iN, id]
  cases d <;> simp only [] <;> try exact trivial
  all_goals (simp only [RS, iN, List.map_id_fun, id])
/-! comprehensions -/
theorem lc_core {tg : Tgt} {tt : Tx} {elt : Ex} {ρ : Env} {ei : α → D} {t : α → M Bool} {f : α → M β} {ρ1 : α → Env} (ht : ∀ x, tg (ei x) ρ = some (ρ1 x)) (htt : ∀ x, Xv id tt (ρ1 x) (t x)) (he : ∀ x, Xv eb elt (ρ1 x) (f x)) : ∀ (xs : List α) (acc : List β) (S : Store), RS (eL eb) (lcS tg tt elt ρ (xs.map ei) (acc.map eb) S) (lcO t f xs acc S)
  | [], acc, S => rfl
  | x :: xs, acc, S => by
    simp only [List.map_cons, lcS, ht x]
    unfold lcO M.bind Res.bind M.noexc
    have h1 := htt x S
    cases q1 : t x S with
    | ok k S1 =>
      simp only [q1, RS, id] at h1
      rw [h1]
      simp only []
      cases k with
      | true =>
        simp only [if_true]
        have h2 := he x S1
        cases q2 : f x S1 with
        | ok y S2 =>
          simp only [q2, RS] at h2
          simp only [q2]
          rw [h2]
          simp only [List.length_map]
          split
          · have := lc_core ht htt he xs (acc ++ [y]) S2
            rw [List.map_append] at this
            exact this
          · exact trivial
        | exc n S2 => simp only [q2]; exact trivial
        | stuck => simp only [q2]; exact trivial
      | false => exact lc_core ht htt he xs acc S1
    | exc n S1 => exact trivial
    | stuck => exact trivial
section
variable {own : List Nat} {ci : Ix} {tg : Tgt} {tt : Tx} {elt : Ex} {ei : α → D} {t : α → M Bool} {fe : α → M β} {ρw : Env} {ρx : α → Env}
theorem x_Lc' {mi : M (List α)} (hi : Xv (List.map ei) ci ρ mi) (hw : WipeR ρ own ρw) (ht : ∀ x, tg (ei x) ρw = some (ρx x)) (htt : ∀ x, Xv id tt (ρx x) (t x)) (he : ∀ x, Xv eb elt (ρx x) (fe x)) : Xv (eL eb) (eLc own ci tg tt elt) ρ (M.bind mi fun xs => lcO t fe xs []) := fun S => by
  unfold eLc
  rw [hw.eq]
  exact RS.bind (hi S) fun xs S1 => lc_core ht htt he xs [] S1
theorem p_Lc {xs : List α} (hi : Pv (List.map ei) ci ρ xs) (hw : WipeR ρ own ρw) (ht : ∀ x, tg (ei x) ρw = some (ρx x)) (htt : ∀ x, Xv id tt (ρx x) (t x)) (he : ∀ x, Xv eb elt (ρx x) (fe x)) : Xv (eL eb) (eLc own ci tg tt elt) ρ (lcO t fe xs []) := fun S => by
  unfold eLc
  rw [hw.eq, hi S]
  exact lc_core ht htt he xs [] S
theorem p_Yes : Pv id tYesD ρ true := fun _ => rfl
end
theorem tgN {tρ : Env} {d : D} (h : SetR ρ i (.fr d) tρ) : gN i d ρ = some tρ := tg_N h
theorem tgT2 {j : Nat} {d d' : D} {ρ2 : Env} (h : SetR ρ i (.fr d) ρ1) (h2 : SetR ρ1 j (.fr d') ρ2) : gT [i, j] (.tup [d, d']) ρ = some ρ2 := by
  simp only [gT, gTs, h.eq, h2.eq]
theorem tgT3 {j k : Nat} {d d' d'' : D} {ρ2 ρ3 : Env} (h : SetR ρ i (.fr d) ρ1) (h2 : SetR ρ1 j (.fr d') ρ2) (h3 : SetR ρ2 k (.fr d'') ρ3) : gT [i, j, k] (.tup [d, d', d'']) ρ = some ρ3 := by
  simp only [gT, gTs, h.eq, h2.eq, h3.eq]
end
end PM
set_option maxHeartbeats 1000000
/-! TY3: operators at typed data. -/
namespace PM
open PySem PySem.Spec PyProof.Rows L2
/-! ### equality -/
section
variable {α β γ : Type} [DecidableEq α] [DecidableEq β] [DecidableEq γ]
theorem eqvAll_dec {e : α → D} {n : Nat} (h : EqT n e) : ∀ (as bs : List α) (ps qs : List PyData), D.pys (as.map e) = some ps → D.pys (bs.map e) = some qs → PyData.eqvAll ps qs = decide (as = bs)
  | [], [], ps, qs, h1, h2 => by simp only [List.map_nil, D.pys] at h1 h2; cases h1; cases h2; rfl
  | [], b :: bs, ps, qs, h1, h2 => by
    simp only [List.map_nil, List.map_cons, D.pys] at h1 h2
    cases h1
    split at h2 <;> cases h2
    simp [PyData.eqvAll]
  | a :: as, [], ps, qs, h1, h2 => by
    simp only [List.map_nil, List.map_cons, D.pys] at h1 h2
    cases h2
    split at h1 <;> cases h1
    simp [PyData.eqvAll]
  | a :: as, b :: bs, ps, qs, h1, h2 => by
    simp only [List.map_cons, D.pys] at h1 h2
    cases e1 : (e a).py with
    | none => rw [e1] at h1; cases h1
    | some p =>
      cases e2 : D.pys (as.map e) with
      | none => rw [e1, e2] at h1; cases h1
      | some ps' =>
        cases e3 : (e b).py with
        | none => rw [e3] at h2; cases h2
        | some q =>
          cases e4 : D.pys (bs.map e) with
          | none => rw [e3, e4] at h2; cases h2
          | some qs' =>
            rw [e1, e2] at h1
            rw [e3, e4] at h2
            cases h1; cases h2
            rw [PyData.eqvAll, h.eqv a b p q e1 e3, eqvAll_dec h as bs _ _ e2 e4]
            simp [List.cons.injEq]
theorem pys_py {e : α → D} {n : Nat} (h : EqT n e) : ∀ (as : List α), ∃ ps, D.pys (as.map e) = some ps ∧ PyData.depthAll ps ≤ n
  | [] => ⟨[], rfl, by simp [PyData.depthAll]⟩
  | a :: as => by
    obtain ⟨p, h1, h2⟩ := h.py a
    obtain ⟨ps, h3, h4⟩ := pys_py h as
    exact ⟨p :: ps, by simp only [List.map_cons, D.pys, h1, h3], by simp only [PyData.depthAll]; omega⟩
theorem eqI : EqT 0 D.int := ⟨fun a => ⟨_, rfl, Nat.zero_le _⟩, fun a b p q h1 h2 => by cases h1; cases h2; simp [PyData.eqv, BEq.beq]⟩
theorem eqS : EqT 0 D.str where
  py := fun a => ⟨_, rfl, Nat.zero_le _⟩
  eqv := fun a b p q h1 h2 => by cases h1; cases h2; simp only [PyData.eqv]; congr 1
theorem eqB : EqT 0 D.bl := ⟨fun a => ⟨_, rfl, Nat.zero_le _⟩, fun a b p q h1 h2 => by cases h1; cases h2; cases a <;> cases b <;> rfl⟩
theorem eqN : EqT 0 iU := ⟨fun a => ⟨_, rfl, Nat.zero_le _⟩, fun a b p q h1 h2 => by cases h1; cases h2; rfl⟩
theorem eqCh : EqT 0 eCh where
  py := fun a => ⟨_, rfl, Nat.zero_le _⟩
  eqv := fun a b p q h1 h2 => by
    cases h1; cases h2
    have : (S1 a = S1 b) ↔ a = b := ⟨fun h => by have := congrArg (fun x : Str => x.cps) h; simpa [S1] using this, fun h => by rw [h]⟩
    rw [← decide_eq_decide.mpr this]
    exact eqS.eqv (S1 a) (S1 b) _ _ rfl rfl
theorem eqL {e : α → D} {n : Nat} (h : EqT n e) : EqT (n + 1) (eL e) where
  py := fun as => by
    obtain ⟨ps, h1, h2⟩ := pys_py h as
    exact ⟨.list ps, by simp only [eL, D.py, h1, Option.map_some], by simp only [PyData.depth]; omega⟩
  eqv := fun as bs p q h1 h2 => by
    obtain ⟨ps, h3, h4⟩ := pys_py h as
    obtain ⟨qs, h5, h6⟩ := pys_py h bs
    simp only [eL, D.py, h3, h5, Option.map_some] at h1 h2
    cases h1; cases h2
    rw [PyData.eqv, eqvAll_dec h as bs ps qs h3 h5]
theorem eqTL {e : α → D} {n : Nat} (h : EqT n e) : EqT (n + 1) (eTL e) where
  py := fun as => by
    obtain ⟨ps, h1, h2⟩ := pys_py h as
    exact ⟨.tuple ps, by simp only [eTL, D.py, h1, Option.map_some], by simp only [PyData.depth]; omega⟩
  eqv := fun as bs p q h1 h2 => by
    obtain ⟨ps, h3, h4⟩ := pys_py h as
    obtain ⟨qs, h5, h6⟩ := pys_py h bs
    simp only [eTL, D.py, h3, h5, Option.map_some] at h1 h2
    cases h1; cases h2
    rw [PyData.eqv, eqvAll_dec h as bs ps qs h3 h5]
theorem eqP2 {e : α → D} {f : β → D} {n m : Nat} (h : EqT n e) (k : EqT m f) : EqT (max n m + 1) (eP2 e f) where
  py := fun a => by
    obtain ⟨p, h1, h2⟩ := h.py a.1
    obtain ⟨q, h3, h4⟩ := k.py a.2
    exact ⟨.tuple [p, q], by simp only [eP2, D.py, D.pys, h1, h3, Option.map_some], by simp only [PyData.depth, PyData.depthAll]; omega⟩
  eqv := fun a b p q g1 g2 => by
    obtain ⟨p1, h1, h2⟩ := h.py a.1
    obtain ⟨q1, h3, h4⟩ := k.py a.2
    obtain ⟨p2, h5, h6⟩ := h.py b.1
    obtain ⟨q2, h7, h8⟩ := k.py b.2
    simp only [eP2, D.py, D.pys, h1, h3, h5, h7, Option.map_some] at g1 g2
    cases g1; cases g2
    simp only [PyData.eqv, PyData.eqvAll, h.eqv _ _ _ _ h1 h5, k.eqv _ _ _ _ h3 h7, Bool.and_true]
    obtain ⟨a1, a2⟩ := a
    obtain ⟨b1, b2⟩ := b
    simp only [Prod.mk.injEq, Bool.decide_and]
theorem eqP3 {e : α → D} {f : β → D} {g : γ → D} {n m l : Nat} (h : EqT n e) (k : EqT m f) (i : EqT l g) : EqT (max n (max m l) + 1) (eP3 e f g) where
  py := fun a => by
    obtain ⟨p, h1, h2⟩ := h.py a.1
    obtain ⟨q, h3, h4⟩ := k.py a.2.1
    obtain ⟨r, h5, h6⟩ := i.py a.2.2
    exact ⟨.tuple [p, q, r], by simp only [eP3, D.py, D.pys, h1, h3, h5, Option.map_some], by simp only [PyData.depth, PyData.depthAll]; omega⟩
  eqv := fun a b p q g1 g2 => by
    obtain ⟨p1, h1, h2⟩ := h.py a.1
    obtain ⟨q1, h3, h4⟩ := k.py a.2.1
    obtain ⟨r1, h9, _⟩ := i.py a.2.2
    obtain ⟨p2, h5, h6⟩ := h.py b.1
    obtain ⟨q2, h7, h8⟩ := k.py b.2.1
    obtain ⟨r2, h10, _⟩ := i.py b.2.2
    simp only [eP3, D.py, D.pys, h1, h3, h5, h7, h9, h10, Option.map_some] at g1 g2
    cases g1; cases g2
    simp only [PyData.eqv, PyData.eqvAll, h.eqv _ _ _ _ h1 h5, k.eqv _ _ _ _ h3 h7, i.eqv _ _ _ _ h9 h10, Bool.and_true]
    obtain ⟨a1, a2, a3⟩ := a
    obtain ⟨b1, b2, b3⟩ := b
    simp only [Prod.mk.injEq, Bool.decide_and]
theorem eq?_dec {e : α → D} {n : Nat} (h : EqT n e) (hn : n ≤ 60) (a b : α) : D.eq? (e a) (e b) = some (decide (a = b)) := by
  obtain ⟨p, h1, h2⟩ := h.py a
  obtain ⟨q, h3, h4⟩ := h.py b
  simp only [D.eq?, h1, h3, if_pos (show min p.depth q.depth ≤ 60 by omega), h.eqv a b p q h1 h3]
theorem ot_eq {e : α → D} {n : Nat} (h : EqT n e) {a b : α} (hn : n ≤ 60 := by decide) : oEq (e a) (e b) = some (.bl (decide (a = b))) := by
  simp only [oEq, eq?_dec h hn, Option.map_some]
theorem ot_ne {e : α → D} {n : Nat} (h : EqT n e) {a b : α} (hn : n ≤ 60 := by decide) : oNe (e a) (e b) = some (.bl (!decide (a = b))) := by
  simp only [oNe, eq?_dec h hn, Option.map_some]
theorem any_dec {e : α → D} {n : Nat} (h : EqT n e) {a : α} {p : PyData} (hp : (e a).py = some p) : ∀ (bs : List α) (qs : List PyData), D.pys (bs.map e) = some qs → qs.any (fun z => PyData.eqv z p) = decide (a ∈ bs)
  | [], qs, h1 => by simp only [List.map_nil, D.pys] at h1; cases h1; simp
  | b :: bs, qs, h1 => by
    simp only [List.map_cons, D.pys] at h1
    split at h1 <;> cases h1
    rename_i q qs e1 e2
    rw [List.any_cons, any_dec h hp bs qs e2, h.eqv b a q p e1 hp]
    have : (b = a) ↔ (a = b) := ⟨Eq.symm, Eq.symm⟩
    simp only [List.mem_cons, decide_eq_decide.mpr this, Bool.decide_or]
theorem in?_dec {e : α → D} {n : Nat} (h : EqT n e) (hn : n ≤ 60) (a : α) (bs : List α) : D.in? (e a) (.lst (bs.map e)) = some (decide (a ∈ bs)) := by
  obtain ⟨p, h1, h2⟩ := h.py a
  obtain ⟨qs, h3, h4⟩ := pys_py h bs
  cases he : e a <;> simp only [D.in?, ← he, h1, h3, if_pos (show min (PyData.depthAll qs) p.depth ≤ 60 by omega), any_dec h h1 bs qs h3]
theorem in?_decT {e : α → D} {n : Nat} (h : EqT n e) (hn : n ≤ 60) (a : α) (bs : List α) : D.in? (e a) (.tup (bs.map e)) = some (decide (a ∈ bs)) := by
  obtain ⟨p, h1, h2⟩ := h.py a
  obtain ⟨qs, h3, h4⟩ := pys_py h bs
  cases he : e a <;> simp only [D.in?, ← he, h1, h3, if_pos (show min (PyData.depthAll qs) p.depth ≤ 60 by omega), any_dec h h1 bs qs h3]
theorem ot_in {e : α → D} {n : Nat} (h : EqT n e) {a : α} {bs : List α} (hn : n ≤ 60 := by decide) : oIn (e a) (eL e bs) = some (.bl (decide (a ∈ bs))) := by
  simp only [oIn, eL, in?_dec h hn, Option.map_some]
theorem ot_nin {e : α → D} {n : Nat} (h : EqT n e) {a : α} {bs : List α} (hn : n ≤ 60 := by decide) : oNin (e a) (eL e bs) = some (.bl (!decide (a ∈ bs))) := by
  simp only [oNin, eL, in?_dec h hn, Option.map_some]
theorem ot_inT {e : α → D} {n : Nat} (h : EqT n e) {a : α} {bs : List α} (hn : n ≤ 60 := by decide) : oIn (e a) (eTL e bs) = some (.bl (decide (a ∈ bs))) := by
  simp only [oIn, eTL, in?_decT h hn, Option.map_some]
theorem ot_ninT {e : α → D} {n : Nat} (h : EqT n e) {a : α} {bs : List α} (hn : n ≤ 60 := by decide) : oNin (e a) (eTL e bs) = some (.bl (!decide (a ∈ bs))) := by
  simp only [oNin, eTL, in?_decT h hn, Option.map_some]
end
theorem oo_eqD {d e : D} {z : Bool} (h : D.eq? d e = some z) : oEq d e = some (.bl z) := by simp only [oEq, h, Option.map_some]
def gNeD (d e : D) : Option Bool := (D.eq? d e).map (!·)
theorem oo_neD {d e : D} {z : Bool} (h : gNeD d e = some z) : oNe d e = some (.bl z) := by
  unfold gNeD at h
  cases q : D.eq? d e with
  | none => rw [q] at h; cases h
  | some k => rw [q] at h; cases h; simp only [oNe, q, Option.map_some]
theorem oo_inD {d e : D} {z : Bool} (h : D.in? d e = some z) : oIn d e = some (.bl z) := by simp only [oIn, h, Option.map_some]
def gNinD (d e : D) : Option Bool := (D.in? d e).map (!·)
theorem oo_ninD {d e : D} {z : Bool} (h : gNinD d e = some z) : oNin d e = some (.bl z) := by
  unfold gNinD at h
  cases q : D.in? d e with
  | none => rw [q] at h; cases h
  | some k => rw [q] at h; cases h; simp only [oNin, q, Option.map_some]
section
variable {α β γ : Type} {e : α → D} {f : β → D} {g : γ → D} {i j : Int} {x y : Str} {xs ys : List α} {d : D} {lo hi : Option Int}
/-! ### numbers -/
theorem ot_addI : oAdd (.int i) (.int j) = some (.int (i + j)) := rfl
theorem ot_sub : oSub (.int i) (.int j) = some (.int (i - j)) := rfl
theorem ot_lt : oLt (.int i) (.int j) = some (.bl (decide (i < j))) := rfl
theorem ot_le : oLe (.int i) (.int j) = some (.bl (decide (i ≤ j))) := rfl
theorem ot_gt : oGt (.int i) (.int j) = some (.bl (decide (i > j))) := rfl
theorem ot_ge : oGe (.int i) (.int j) = some (.bl (decide (i ≥ j))) := rfl
theorem ot_neg : oNeg (.int i) = some (.int (-i)) := rfl
theorem ot_mulR (h : -(2 ^ 64) < j ∧ j < 2 ^ 64 := by decide) : oMulI (.int i) (.int j) = some (.int (i * j)) := dv_mulR h
theorem ot_mulL (h : -(2 ^ 64) < i ∧ i < 2 ^ 64 := by decide) : oMulI (.int i) (.int j) = some (.int (i * j)) := dv_mulL h
theorem ot_div (h : 0 < j ∧ j < 1073741824 := by decide) : oDiv (.int i) (.int j) = some (.int (i / j)) := dv_div h
theorem ot_mod (h : 0 < j := by decide) : oMod (.int i) (.int j) = some (.int (i % j)) := dv_mod h
def gMul (i j : Int) : Option Int := if cMul i j = true then some (i * j) else none
def gDiv (i j : Int) : Option Int := if 0 < j ∧ j < 1073741824 then some (i / j) else none
def gMod (i j : Int) : Option Int := if 0 < j then some (i % j) else none
def gShr (i j : Int) : Option Int := if 0 ≤ j then some (i / 2 ^ j.toNat) else none
theorem oo_mul {z : Int} (h : gMul i j = some z) : oMulI (.int i) (.int j) = some (.int z) := by
  unfold gMul at h; split at h <;> cases h; simp only [oI, *, if_true]
theorem oo_div {z : Int} (h : gDiv i j = some z) : oDiv (.int i) (.int j) = some (.int z) := by
  unfold gDiv at h; split at h <;> cases h; rename_i h; exact dv_div h
theorem oo_mod {z : Int} (h : gMod i j = some z) : oMod (.int i) (.int j) = some (.int z) := by
  unfold gMod at h; split at h <;> cases h; rename_i h; exact dv_mod h
theorem oo_shr {z : Int} (h : gShr i j = some z) : oShr (.int i) (.int j) = some (.int z) := by
  unfold gShr at h; split at h <;> cases h; rename_i h; simp only [oI, cShr, decide_eq_true h, if_true]
/-! ### texts and lists -/
def gCatS (x y : Str) : Option Str := if x.length + y.length ≤ 1000000 then some (x ++ y) else none
theorem oo_catS {z : Str} (h : gCatS x y = some z) : oAdd (.str x) (.str y) = some (.str z) := by
  unfold gCatS at h; split at h <;> cases h; rename_i h; exact dv_addS h
def gCatL (xs ys : List α) : Option (List α) := if xs.length + ys.length ≤ 1000000 then some (xs ++ ys) else none
theorem oo_addL {z : List α} (h : gCatL xs ys = some z) : oAdd (eL e xs) (eL e ys) = some (eL e z) := by
  unfold gCatL at h; split at h <;> cases h; rename_i h
  simp only [eL, oAdd, List.length_map, h, if_true, List.map_append]
theorem oo_catL {z : List α} (h : gCatL xs ys = some z) : oCat (eL e xs) (eL e ys) = some (eL e z) := by
  unfold gCatL at h; split at h <;> cases h; rename_i h
  simp only [eL, oCat, List.length_map, h, if_true, List.map_append]
def gRep (xs : List α) (k : Int) : Option (List α) := if -1000000 ≤ k ∧ k ≤ 1000000 ∧ xs.length * k.toNat ≤ 1000000 then some (List.replicate k.toNat xs).flatten else none
theorem oo_rep {z : List α} (h : gRep xs j = some z) : oRep (eL e xs) (.int j) = some (eL e z) := by
  unfold gRep at h; split at h <;> cases h; rename_i h
  simp only [eL, oRep, List.length_map, h, and_self, if_true]
  rw [List.map_flatten, List.map_replicate]
theorem ot_is : oIs d .non = some (.bl d.isNon) := rfl
theorem ot_isN : oIsN d .non = some (.bl (!d.isNon)) := rfl
theorem ot_inS {c : Nat} : oIn (.str (S1 c)) (.str x) = some (.bl (decide (c ∈ Sl x))) := dv_inS
theorem ot_ninS {c : Nat} : oNin (.str (S1 c)) (.str x) = some (.bl (!decide (c ∈ Sl x))) := dv_ninS
theorem ot_dinS {ds : List (Key × D)} : oDin false (.str x) (.dic ds) = some (.bl (hasD ds (.inr x))) := rfl
theorem ot_dninS {ds : List (Key × D)} : oDin true (.str x) (.dic ds) = some (.bl (!hasD ds (.inr x))) := rfl
theorem ot_dinI {ds : List (Key × D)} : oDin false (.int i) (.dic ds) = some (.bl (hasD ds (.inl i))) := rfl
theorem ot_dninI {ds : List (Key × D)} : oDin true (.int i) (.dic ds) = some (.bl (!hasD ds (.inl i))) := rfl
/-! ### subscripts -/
theorem atI_map {α β : Type} (f : α → β) (xs : List α) (i : Int) : L2.atI (xs.map f) i = (L2.atI xs i).map f := by
  unfold L2.atI
  rw [List.length_map]
  cases L2.ixN xs.length i with
  | none => rfl
  | some j => simp only [Option.bind_some, List.getElem?_map]
abbrev gIx {α : Type} (xs : List α) (i : Int) : Option α := L2.atI xs i
theorem oo_ixL {z : α} (h : gIx xs i = some z) : oIx (eL e xs) (.int i) = some (e z) := by
  simp only [eL, oIx, atI_map, h, Option.map_some]
theorem oo_ixTL {z : α} (h : gIx xs i = some z) : oIx (eTL e xs) (.int i) = some (e z) := by
  simp only [eTL, oIx, atI_map, h, Option.map_some]
theorem oo_ixScr {ns : List Int} {z : Int} (h : gIx ns i = some z) : oIx (.scr ns) (.int i) = some (.int z) := by
  simp only [oIx, h, Option.map_some]
def gIxS (x : Str) (i : Int) : Option Nat := if x.length ≤ 1000000 then L2.atI (Sl x) i else none
theorem oo_ixS {z : Nat} (h : gIxS x i = some z) : oIx (.str x) (.int i) = some (eCh z) := by
  unfold gIxS at h; split at h <;> try cases h
  rename_i hl
  simp only [oIx, hl, if_true]
  unfold Sl at h
  rw [h]
  rfl
theorem ot_ixP2a {p : α × β} : oIx (eP2 e f p) (.int 0) = some (e p.1) := rfl
theorem ot_ixP2b {p : α × β} : oIx (eP2 e f p) (.int 1) = some (f p.2) := rfl
theorem ot_ixP3a {p : α × β × γ} : oIx (eP3 e f g p) (.int 0) = some (e p.1) := rfl
theorem ot_ixP3b {p : α × β × γ} : oIx (eP3 e f g p) (.int 1) = some (f p.2.1) := rfl
theorem ot_ixP3c {p : α × β × γ} : oIx (eP3 e f g p) (.int 2) = some (g p.2.2) := rfl
theorem oo_ixD {a b z : D} (h : oIx a b = some z) : oIx a b = some (iN z) := h
theorem oo_dgetS {ds : List (Key × D)} {z : D} (h : valD ds (.inr x) = some z) : oDget (.dic ds) (.str x) = some (iN z) := h
theorem oo_dgetI {ds : List (Key × D)} {z : D} (h : valD ds (.inl i) = some z) : oDget (.dic ds) (.int i) = some (iN z) := h
/-! ### slices -/
theorem cutD_map {α β : Type} (f : α → β) (xs : List α) (lo hi : Option Int) : cutD (xs.map f) lo hi = (cutD xs lo hi).map f := by
  unfold cutD; rw [List.length_map, List.map_take, List.map_drop]
theorem ot_cutL : oCut (eL e xs) lo hi = some (eL e (cutD xs lo hi)) := by simp only [eL, oCut, cutD_map]
theorem ot_cutLN : oCutL (eL e xs) lo hi = some (eL e (cutD xs lo hi)) := by simp only [eL, oCutL, cutD_map]
theorem ot_cutScr {ns : List Int} : oCut (.scr ns) lo hi = some (eL D.int (cutD ns lo hi)) := rfl
theorem ot_cutScrN {ns : List Int} : oCutL (.scr ns) lo hi = some (eL D.int (cutD ns lo hi)) := rfl
theorem ot_cutTL : oCut (eTL e xs) lo hi = some (eTL e (cutD xs lo hi)) := by simp only [eTL, oCut, cutD_map]
def gCutS (x : Str) (lo hi : Option Int) : Option Str := if x.length ≤ 1000000 then some (cutS x lo hi) else none
theorem oo_cutS {z : Str} (h : gCutS x lo hi = some z) : oCut (.str x) lo hi = some (.str z) := by
  unfold gCutS at h; split at h <;> cases h; rename_i h; exact dv_cutS h
theorem oo_cutD {a z : D} (h : oCut a lo hi = some z) : oCut a lo hi = some (iN z) := h
theorem oo_cutDN {a z : D} (h : oCutL a lo hi = some z) : oCutL a lo hi = some (iN z) := h
/-! ### functions -/
theorem ot_lenL : fLen [eL e xs] = some (.int (xs.length : Int)) := by simp only [eL, fLen, List.length_map]
theorem ot_lenTL : fLen [eTL e xs] = some (.int (xs.length : Int)) := by simp only [eTL, fLen, List.length_map]
theorem ot_lenScr {ns : List Int} : fLen [.scr ns] = some (.int (ns.length : Int)) := rfl
def gLenS (x : Str) : Option Int := if x.length ≤ 1000000 then some (x.length : Int) else none
theorem oo_lenS {z : Int} (h : gLenS x = some z) : fLen [.str x] = some (.int z) := by
  unfold gLenS at h; split at h <;> cases h; rename_i h; exact fn_lenS h
def gI (o : Option D) : Option Int := match o with | some (.int i) => some i | _ => none
theorem gI_some {o : Option D} {z : Int} (h : gI o = some z) : o = some (.int z) := by
  unfold gI at h; split at h <;> cases h; rfl
theorem oo_lenD {z : Int} (h : gI (fLen [d]) = some z) : fLen [d] = some (.int z) := gI_some h
theorem ot_listL : fList [eL e xs] = some (eL e xs) := rfl
theorem ot_listTL : fList [eTL e xs] = some (eL e xs) := rfl
theorem ot_listScr {ns : List Int} : fList [.scr ns] = some (eL D.int ns) := rfl
def gLs (o : Option D) : Option (List D) := match o with | some (.lst i) => some i | _ => none
theorem oo_listD {z : List D} (h : gLs (fList [d]) = some z) : fList [d] = some (eL iN z) := by
  unfold gLs at h; split at h <;> cases h; rename_i h; rw [h]; simp only [eL, iN, List.map_id_fun, id]
theorem ot_tupL : fTuple [eL e xs] = some (eTL e xs) := rfl
theorem ot_tupTL : fTuple [eTL e xs] = some (eTL e xs) := rfl
def gTpl (o : Option D) : Option (List D) := match o with | some (.tup i) => some i | _ => none
theorem oo_tupD {z : List D} (h : gTpl (fTuple [d]) = some z) : fTuple [d] = some (eTL iN z) := by
  unfold gTpl at h; split at h <;> cases h; rename_i h; rw [h]; simp only [eTL, iN, List.map_id_fun, id]
def b2I (b : Bool) : Int := if b = true then 1 else 0
theorem ot_intB {b : Bool} : fInt [.bl b] = some (.int (b2I b)) := by cases b <;> rfl
theorem ot_intI : fInt [.int i] = some (.int i) := rfl
def gIntS (x : Str) : Option Int := if x.length ≤ 640 then PySem.intText? x else none
theorem oo_intS {z : Int} (h : gIntS x = some z) : fInt [.str x] = some (.int z) := by
  unfold gIntS at h; split at h <;> try cases h
  rename_i hl; simp only [fInt, hl, if_true, h, Option.map_some]
theorem oo_intD {z : Int} (h : gI (fInt [d]) = some z) : fInt [d] = some (.int z) := gI_some h
def gSt (o : Option D) : Option Str := match o with | some (.str i) => some i | _ => none
theorem oo_strI {z : Str} (h : gSt (fStr [.int i]) = some z) : fStr [.int i] = some (.str z) := by
  unfold gSt at h; split at h <;> cases h; assumption
def min2 (i j : Int) : Int := if j < i then j else i
def max2 (i j : Int) : Int := if j > i then j else i
theorem ot_min2 : fMin2 [.int i, .int j] = some (.int (min2 i j)) := rfl
theorem ot_max2 : fMax2 [.int i, .int j] = some (.int (max2 i j)) := rfl
theorem ints_map (ns : List Int) : D.ints (ns.map D.int) = some ns := by
  induction ns with
  | nil => rfl
  | cons n ns ih => simp only [List.map_cons, D.ints, ih, Option.map_some]
theorem bls_map (ns : List Bool) : D.bls (ns.map D.bl) = some ns := by
  induction ns with
  | nil => rfl
  | cons n ns ih => simp only [List.map_cons, D.bls, ih, Option.map_some]
theorem ot_sum {ns : List Int} : fSum [eL D.int ns] = some (.int ns.sum) := by simp only [eL, fSum, ints_map, Option.map_some]
theorem ot_all {ns : List Bool} : fAll [eL D.bl ns] = some (.bl (ns.all id)) := by simp only [eL, fAll, bls_map, Option.map_some]
theorem ot_any {ns : List Bool} : fAny [eL D.bl ns] = some (.bl (ns.any id)) := by simp only [eL, fAny, bls_map, Option.map_some]
/-! ### truth -/
theorem tr_int : (D.int i).truth = some (i != 0) := rfl
theorem tr_L : (eL e xs).truth = some (!xs.isEmpty) := by cases xs <;> rfl
theorem tr_TL : (eTL e xs).truth = some (!xs.isEmpty) := by cases xs <;> rfl
def gTrS (x : Str) : Option Bool := (D.str x).truth
end
end PM
set_option maxHeartbeats 1000000
/-! TY4: statements. -/
namespace PM
open PySem PySem.Spec PyProof.Rows L2
section
variable {α β γ σ σ' τ τ' : Type}
def SR1 (E : σ → Env) (L : τ → Env) (ER : β → Val → Prop) (X : Env → Prop) (r : SR) (t : Res (O σ τ β)) : Prop := match t with
  | .ok (.nx s) S => r = .nx (E s) S
  | .ok (.bk s) S => r = .bk (L s) S
  | .ok (.ct s) S => r = .ct (L s) S
  | .ok (.rt b) S => ∃ v, r = .rt v S ∧ ER b v
  | .exc n S => ∃ ρ, r = .exc n ρ S ∧ X ρ
  | .stuck => True
structure Sm (E : σ → Env) (L : τ → Env) (ER : β → Val → Prop) (X : Env → Prop) (c : Stm) (ρ : Env) (m : M (O σ τ β)) : Prop where
  run : ∀ S, SR1 E L ER X (c ρ S) (m S)
/-- what is told back: at any rate; new -/
def RF (e : β → D) : β → Val → Prop := fun b v => v = .fr (e b) ∨ v = .ow (e b)
def RN (e : β → D) : β → Val → Prop := fun b v => v = .ow (e b)
variable {E : σ → Env} {E' : σ' → Env} {L : τ → Env} {L' : τ' → Env} {ER : β → Val → Prop} {X : Env → Prop} {ρ ρ1 : Env} {rest a b c : Stm} {i : Nat}
theorem t_nil {s : σ} (h : ρ = E s := by rfl) : Sm E L ER X sNx ρ (M.pure (.nx s)) := ⟨fun S => by subst h; exact rfl⟩
theorem t_wipe {is : List Nat} {m : M (O σ τ β)} (h : WipeR ρ is ρ1) (k : Sm E L ER X rest ρ1 m) : Sm E L ER X (sSeq (sWipe is) rest) ρ m := ⟨fun S => by
  have := k.run S
  simp only [sSeq, sWipe, h.eq]
  exact this⟩
theorem t_fzo {d : D} {m : M (O σ τ β)} (h : Nth ρ i (.ow d)) (hs : SetR ρ i (.fr d) ρ1) (k : Sm E L ER X rest ρ1 m) : Sm E L ER X (sSeq (sFz i) rest) ρ m := ⟨fun S => by
  have := k.run S
  simp only [sSeq, sFz, h.eq, hs.eq]
  exact this⟩
theorem t_fzf {d : D} {m : M (O σ τ β)} (h : Nth ρ i (.fr d)) (k : Sm E L ER X rest ρ m) : Sm E L ER X (sSeq (sFz i) rest) ρ m := ⟨fun S => by
  have := k.run S
  simp only [sSeq, sFz, h.eq]
  exact this⟩
theorem t_pass {m : M (O σ τ β)} (k : Sm E L ER X rest ρ m) : Sm E L ER X (sSeq sPass rest) ρ m := ⟨fun S => k.run S⟩
theorem t_nxl {m : M (O σ τ β)} (k : Sm E L ER X rest ρ m) : Sm E L ER X (sSeq sNx rest) ρ m := ⟨fun S => k.run S⟩
theorem sSeq_assoc : sSeq (sSeq a b) c = sSeq a (sSeq b c) := by
  funext ρ S
  unfold sSeq
  cases a ρ S <;> rfl
theorem t_assoc {m : M (O σ τ β)} (k : Sm E L ER X (sSeq a (sSeq b c)) ρ m) : Sm E L ER X (sSeq (sSeq a b) c) ρ m := by rw [sSeq_assoc]; exact k
/-- an expression, then what it is used for -/
theorem t_ex {α' : Type} {en : α → α'} {ce : Env → Store → Res α'} {f : α' → Stm} {m : M α} {k : α → M (O σ τ β)} (hc : Xv en ce ρ m) (hX : X ρ) (hk : ∀ a S, SR1 E L ER X (sSeq (f (en a)) rest ρ S) (k a S)) : Sm E L ER X (sSeq (sEx ce f) rest) ρ (M.bind m k) := ⟨fun S => by
  have h := hc S
  unfold M.bind Res.bind
  cases q : m S with
  | ok a S' =>
    simp only [q, RS] at h ⊢
    have := hk a S'
    simp only [sSeq, sEx, h] at this ⊢
    exact this
  | exc n S' =>
    simp only [q, RS] at h ⊢
    refine ⟨ρ, ?_, hX⟩
    simp only [sSeq, sEx, h]
  | stuck => exact trivial⟩
section
variable {en : α → D} {ce : Ex} {m : M α} {k : α → M (O σ τ β)}
theorem t_set {ρ2 : α → Env} (hc : Xv en ce ρ m) (hX : X ρ) (hs : ∀ a, SetR ρ i (.fr (en a)) (ρ2 a)) (hk : ∀ a, Sm E L ER X rest (ρ2 a) (k a)) : Sm E L ER X (sSeq (sSet i ce) rest) ρ (M.bind m k) :=
  t_ex hc hX fun a S => by
    have := (hk a).run S
    simp only [sSeq, (hs a).eq]
    exact this
theorem t_setN {ρ2 : α → Env} (hc : Xv en ce ρ m) (hX : X ρ) (hs : ∀ a, SetR ρ i (.ow (en a)) (ρ2 a)) (hk : ∀ a, Sm E L ER X rest (ρ2 a) (k a)) : Sm E L ER X (sSeq (sSetN i ce) rest) ρ (M.bind m k) :=
  t_ex hc hX fun a S => by
    have := (hk a).run S
    simp only [sSeq, (hs a).eq]
    exact this
theorem t_drop (hc : Xv en ce ρ m) (hX : X ρ) (hk : ∀ a, Sm E L ER X rest ρ (k a)) : Sm E L ER X (sSeq (sDrop ce) rest) ρ (M.bind m k) :=
  t_ex hc hX fun a S => (hk a).run S
theorem t_ret {eb : β → D} {m : M β} (hc : Xv eb ce ρ m) (hX : X ρ) (hR : ∀ b, ER b (.fr (eb b))) : Sm E L ER X (sSeq (sRet ce) rest) ρ (M.bind m fun b => M.pure (.rt b)) :=
  t_ex hc hX fun a S => ⟨_, rfl, hR a⟩
theorem t_retN {eb : β → D} {m : M β} (hc : Xv eb ce ρ m) (hX : X ρ) (hR : ∀ b, ER b (.ow (eb b))) : Sm E L ER X (sSeq (sRetN ce) rest) ρ (M.bind m fun b => M.pure (.rt b)) :=
  t_ex hc hX fun a S => ⟨_, rfl, hR a⟩
theorem t_retVo {eb : β → D} {x : β} (h : Nth ρ i (.ow (eb x))) (hR : ER x (.ow (eb x))) : Sm E L ER X (sSeq (sRetV i) rest) ρ (M.pure (.rt x)) := ⟨fun S => by
  refine ⟨.ow (eb x), ?_, hR⟩
  simp only [sSeq, sRetV, h.eq]⟩
theorem t_retVf {eb : β → D} {x : β} (h : Nth ρ i (.fr (eb x))) (hR : ER x (.fr (eb x))) : Sm E L ER X (sSeq (sRetV i) rest) ρ (M.pure (.rt x)) := ⟨fun S => by
  refine ⟨.fr (eb x), ?_, hR⟩
  simp only [sSeq, sRetV, h.eq]⟩
theorem t_ret0 {x : β} (hR : ER x (.fr .non)) : Sm E L ER X (sSeq sRet0 rest) ρ (M.pure (.rt x)) := ⟨fun S => ⟨_, rfl, hR⟩⟩
theorem t_brk {t : τ} (h : ρ = L t := by rfl) : Sm E L ER X (sSeq sBrk rest) ρ (M.pure (.bk t)) := ⟨fun S => by subst h; exact rfl⟩
theorem t_cnt {t : τ} (h : ρ = L t := by rfl) : Sm E L ER X (sSeq sCnt rest) ρ (M.pure (.ct t)) := ⟨fun S => by subst h; exact rfl⟩
theorem t_raise {n : Nat} (hX : X ρ) : Sm E L ER X (sSeq (sRaise n) rest) ρ (M.exc n) := ⟨fun S => ⟨ρ, rfl, hX⟩⟩
end
section
variable {tc : Tx} {x : Bool} {mx : M Bool} {ma mb : M (O σ τ β)} {na nb : M (O σ' τ β)}
theorem t_if (hc : Xv id tc ρ mx) (hX : X ρ) (ha : Sm E L ER X (sSeq a rest) ρ ma) (hb : Sm E L ER X (sSeq b rest) ρ mb) : Sm E L ER X (sSeq (sIf tc a b) rest) ρ (M.bind mx fun x => if x = true then ma else mb) :=
  t_ex hc hX fun x S => by
    cases x
    · exact hb.run S
    · exact ha.run S
theorem t_ifP (hc : Pv id tc ρ x) (ha : Sm E L ER X (sSeq a rest) ρ ma) (hb : Sm E L ER X (sSeq b rest) ρ mb) : Sm E L ER X (sSeq (sIf tc a b) rest) ρ (if x = true then ma else mb) := ⟨fun S => by
  have h := hc S
  have : sSeq (sIf tc a b) rest ρ S = sSeq (if x = true then a else b) rest ρ S := by
    simp only [sSeq, sIf, sEx, h, id]; cases x <;> rfl
  rw [this]
  cases x
  · exact hb.run S
  · exact ha.run S⟩
/-- one after another, told of what both leave -/
theorem t_seq (ha : Sm E' L ER X a ρ na) {k : σ' → M (O σ τ β)} (hk : ∀ s, Sm E L ER X rest (E' s) (k s)) : Sm E L ER X (sSeq a rest) ρ (bindO na k) := ⟨fun S => by
  have h := ha.run S
  unfold bindO M.bind Res.bind
  cases q : na S with
  | ok o S' =>
    cases o with
    | nx s =>
      simp only [q, SR1] at h ⊢
      have := (hk s).run S'
      simp only [sSeq, h]
      exact this
    | bk s => simp only [q, SR1] at h ⊢; simp only [sSeq, h]; exact rfl
    | ct s => simp only [q, SR1] at h ⊢; simp only [sSeq, h]; exact rfl
    | rt b =>
      simp only [q, SR1] at h ⊢
      obtain ⟨v, h1, h2⟩ := h
      exact ⟨v, by simp only [sSeq, h1], h2⟩
  | exc n S' =>
    simp only [q, SR1] at h ⊢
    obtain ⟨ρ', h1, h2⟩ := h
    exact ⟨ρ', by simp only [sSeq, h1], h2⟩
  | stuck => exact trivial⟩
theorem t_if1 (hc : Xv id tc ρ mx) (hX : X ρ) (ha : Sm E L ER X a ρ ma) (hb : Sm E L ER X b ρ mb) : Sm E L ER X (sIf tc a b) ρ (M.bind mx fun x => if x = true then ma else mb) := ⟨fun S => by
  have h := hc S
  unfold M.bind Res.bind
  cases q : mx S with
  | ok k S' =>
    simp only [q, RS, id] at h ⊢
    unfold sIf sEx
    rw [h]
    cases k
    · exact hb.run S'
    · exact ha.run S'
  | exc n S' =>
    simp only [q, RS] at h ⊢
    refine ⟨ρ, ?_, hX⟩
    simp only [sIf, sEx, h]
  | stuck => exact trivial⟩
theorem t_ifP1 (hc : Pv id tc ρ x) (ha : Sm E L ER X a ρ ma) (hb : Sm E L ER X b ρ mb) : Sm E L ER X (sIf tc a b) ρ (if x = true then ma else mb) := ⟨fun S => by
  have h := hc S
  unfold sIf sEx
  rw [h]
  simp only [id]
  cases x
  · exact hb.run S
  · exact ha.run S⟩
end
/-! changes in place -/
section
variable {en : α → D} {eb' : γ → D} {ce ci : Ex}
theorem t_aug {f : D → D → Option D} {xv : α} {g : γ → α} {m : M γ} {k : α → M (O σ τ β)} {ρ2 : α → Env} (h : Nth ρ i (.fr (en xv))) (hc : Xv eb' ce ρ m) (hX : X ρ) (hf : ∀ z, f (en xv) (eb' z) = some (en (g z))) (hs : ∀ a, SetR ρ i (.fr (en a)) (ρ2 a)) (hk : ∀ a, Sm E L ER X rest (ρ2 a) (k a)) : Sm E L ER X (sSeq (sAug i f ce) rest) ρ (M.bind m fun z => M.bind (M.pure (g z)) k) := ⟨fun S => by
  have q := hc S
  unfold M.bind Res.bind M.pure
  cases e : m S with
  | ok z S' =>
    simp only [e, RS] at q ⊢
    have := (hk (g z)).run S'
    simp only [sSeq, sAug, h.eq, sEx, q, hf, (hs (g z)).eq]
    exact this
  | exc n S' =>
    simp only [e, RS] at q ⊢
    exact ⟨ρ, by simp only [sSeq, sAug, h.eq, sEx, q], hX⟩
  | stuck => exact trivial⟩
def gApp (xs : List α) (x : α) : Option (List α) := if xs.length < 1000000 then some (xs ++ [x]) else none
theorem t_app {xs : List α} {m : M α} {k : List α → M (O σ τ β)} {ρ2 : List α → Env} (h : Nth ρ i (.ow (eL en xs))) (hc : Xv en ce ρ m) (hX : X ρ) (hs : ∀ a, SetR ρ i (.ow (eL en a)) (ρ2 a)) (hk : ∀ a, Sm E L ER X rest (ρ2 a) (k a)) : Sm E L ER X (sSeq (sLm i lAppend (aCons ce aNil)) rest) ρ (M.bind m fun x => M.bind (M.opt (gApp xs x)) k) := ⟨fun S => by
  have q := hc S
  unfold M.bind Res.bind
  cases e : m S with
  | ok z S' =>
    simp only [e, RS] at q ⊢
    unfold M.opt gApp
    by_cases hl : xs.length < 1000000
    · have := (hk (xs ++ [z])).run S'
      simp only [hl, if_true]
      have hs' := (hs (xs ++ [z])).eq
      simp only [eL, List.map_append, List.map_cons, List.map_nil] at hs'
      simp only [sSeq, sLm, h.eq, eL, sEx, aCons, aNil, q, Res.bind, lAppend, List.length_map, hl, if_true, hs']
      exact this
    · simp only [hl, if_false]; exact trivial
  | exc n S' =>
    simp only [e, RS] at q ⊢
    exact ⟨ρ, by simp only [sSeq, sLm, h.eq, eL, sEx, aCons, q, Res.bind], hX⟩
  | stuck => exact trivial⟩
def gSetIx (xs : List α) (j : Int) (x : α) : Option (List α) := (L2.ixN xs.length j).map fun n => xs.set n x
theorem t_setIx {xs : List α} {m : M α} {mj : M Int} {k : List α → M (O σ τ β)} {ρ2 : List α → Env} (h : Nth ρ i (.ow (eL en xs))) (hc : Xv en ce ρ m) (hi : Xv D.int ci ρ mj) (hX : X ρ) (hs : ∀ a, SetR ρ i (.ow (eL en a)) (ρ2 a)) (hk : ∀ a, Sm E L ER X rest (ρ2 a) (k a)) : Sm E L ER X (sSeq (sSetIx i ci ce) rest) ρ (M.bind m fun x => M.bind mj fun j => M.bind (M.opt (gSetIx xs j x)) k) := ⟨fun S => by
  have q := hc S
  unfold M.bind Res.bind
  cases e : m S with
  | ok z S' =>
    simp only [e, RS] at q ⊢
    have q2 := hi S'
    cases e2 : mj S' with
    | ok j S2 =>
      simp only [e2, RS] at q2 ⊢
      unfold M.opt gSetIx
      cases e3 : L2.ixN xs.length j with
      | none => exact trivial
      | some n =>
        have := (hk (xs.set n z)).run S2
        simp only [Option.map_some]
        have hs' := (hs (xs.set n z)).eq
        simp only [eL, List.map_set] at hs'
        simp only [sSeq, sSetIx, h.eq, eL, sEx, q, q2, List.length_map, e3, hs']
        exact this
    | exc n S2 =>
      simp only [e2, RS] at q2 ⊢
      exact ⟨ρ, by simp only [sSeq, sSetIx, h.eq, eL, sEx, q, q2], hX⟩
    | stuck => exact trivial
  | exc n S' =>
    simp only [e, RS] at q ⊢
    exact ⟨ρ, by simp only [sSeq, sSetIx, h.eq, eL, sEx, q], hX⟩
  | stuck => exact trivial⟩
/-- a dict of data -/
abbrev eDic : List (Key × D) → D := D.dic
def gPut (xs : List (Key × D)) (j : D) (x : D) : Option (List (Key × D)) := if xs.length < 1000000 then j.key.map fun k => putD xs k x else none
theorem t_put {xs : List (Key × D)} {ek : γ → D} {m : M α} {mj : M γ} {k : List (Key × D) → M (O σ τ β)} {ρ2 : List (Key × D) → Env} (h : Nth ρ i (.ow (eDic xs))) (hc : Xv en ce ρ m) (hi : Xv ek ci ρ mj) (hX : X ρ) (hs : ∀ a, SetR ρ i (.ow (eDic a)) (ρ2 a)) (hk : ∀ a, Sm E L ER X rest (ρ2 a) (k a)) : Sm E L ER X (sSeq (sPut i ci ce) rest) ρ (M.bind m fun x => M.bind mj fun j => M.bind (M.opt (gPut xs (ek j) (en x))) k) := ⟨fun S => by
  have q := hc S
  unfold M.bind Res.bind
  cases e : m S with
  | ok z S' =>
    simp only [e, RS] at q ⊢
    have q2 := hi S'
    cases e2 : mj S' with
    | ok j S2 =>
      simp only [e2, RS] at q2 ⊢
      unfold M.opt gPut
      by_cases hl : xs.length < 1000000
      · simp only [hl, if_true]
        cases e3 : (ek j).key with
        | none => exact trivial
        | some n =>
          have := (hk (putD xs n (en z))).run S2
          simp only [Option.map_some]
          simp only [sSeq, sPut, h.eq, sEx, q, q2, e3, hl, if_true, (hs (putD xs n (en z))).eq]
          exact this
      · simp only [hl, if_false]; exact trivial
    | exc n S2 =>
      simp only [e2, RS] at q2 ⊢
      exact ⟨ρ, by simp only [sSeq, sPut, h.eq, sEx, q, q2], hX⟩
    | stuck => exact trivial
  | exc n S' =>
    simp only [e, RS] at q ⊢
    exact ⟨ρ, by simp only [sSeq, sPut, h.eq, sEx, q], hX⟩
  | stuck => exact trivial⟩
/-- a field of the new instance, of an owned one -/
def gFld (fl : FTab) (f : Str) (me x : D) : Option D := match me with
  | .obj c fs => if fl c f = true ∧ fs.length < 1000 then some (.obj c (pD f x fs)) else none
  | _ => none
theorem t_fldMe {fl : FTab} {f : Str} {me : D} {m : M α} {k : D → M (O σ τ β)} {ρ2 : D → Env} (h : Nth ρ i (.me (iN me))) (hc : Xv en ce ρ m) (hX : X ρ) (hs : ∀ a, SetR ρ i (.me (iN a)) (ρ2 a)) (hk : ∀ a, Sm E L ER X rest (ρ2 a) (k a)) : Sm E L ER X (sSeq (sFldMe fl i f ce) rest) ρ (M.bind m fun x => M.bind (M.opt (gFld fl f me (en x))) k) :=
  t_ex hc hX fun x S => by
    unfold M.bind Res.bind M.opt gFld
    cases me with
    | obj cx fs =>
      by_cases hg : fl cx f = true ∧ fs.length < 1000
      · simp only [hg, and_self, if_true]
        have := (hk (.obj cx (pD f (en x) fs))).run S
        have hs' := (hs (.obj cx (pD f (en x) fs))).eq
        simp only [iN, id] at hs'
        simp only [sSeq, h.eq, iN, id, hg, and_self, if_true, hs']
        exact this
      · simp only [hg, if_false]; exact trivial
    | _ => exact trivial
theorem t_fldOw {fl : FTab} {f : Str} {me : D} {m : M α} {k : D → M (O σ τ β)} {ρ2 : D → Env} (h : Nth ρ i (.ow (iN me))) (hc : Xv en ce ρ m) (hX : X ρ) (hs : ∀ a, SetR ρ i (.ow (iN a)) (ρ2 a)) (hk : ∀ a, Sm E L ER X rest (ρ2 a) (k a)) : Sm E L ER X (sSeq (sFldOw fl i f ce) rest) ρ (M.bind m fun x => M.bind (M.opt (gFld fl f me (en x))) k) :=
  t_ex hc hX fun x S => by
    unfold M.bind Res.bind M.opt gFld
    cases me with
    | obj cx fs =>
      by_cases hg : fl cx f = true ∧ fs.length < 1000
      · simp only [hg, and_self, if_true]
        have := (hk (.obj cx (pD f (en x) fs))).run S
        have hs' := (hs (.obj cx (pD f (en x) fs))).eq
        simp only [iN, id] at hs'
        simp only [sSeq, h.eq, iN, id, hg, and_self, if_true, hs']
        exact this
      · simp only [hg, if_false]; exact trivial
    | _ => exact trivial
end
/-! loops -/
theorem for_core {ei : α → D} {tg : Tgt} {body : Stm} {f : α → τ' → M (O τ' τ' β)} {B : α → τ' → Env} (ht : ∀ x s, tg (ei x) (L' s) = some (B x s)) (hb : ∀ x s, Sm L' L' ER X body (B x s) (f x s)) : ∀ (xs : List α) (s : τ') (S : Store), SR1 L' L ER X (forS tg body (xs.map ei) (L' s) S) (forO (τ' := τ) f xs s S)
  | [], s, S => rfl
  | x :: xs, s, S => by
    simp only [List.map_cons, forS, ht x s]
    unfold forO M.bind Res.bind
    have h := (hb x s).run S
    cases q : f x s S with
    | ok o S' =>
      cases o <;> simp only [q, SR1] at h ⊢
      · rw [h]; exact for_core ht hb xs _ S'
      · rw [h]; exact rfl
      · rw [h]; exact for_core ht hb xs _ S'
      · obtain ⟨v, h1, h2⟩ := h
        rw [h1]
        exact ⟨v, rfl, h2⟩
    | exc n S' =>
      simp only [q, SR1] at h ⊢
      obtain ⟨ρ', h1, h2⟩ := h
      rw [h1]
      exact ⟨ρ', rfl, h2⟩
    | stuck => exact trivial
theorem seq_of {r : SR} {t : Res (O σ' τ β)} {k : σ' → M (O σ τ β)} (h : SR1 E' L ER X r t) (hk : ∀ s, Sm E L ER X rest (E' s) (k s)) : SR1 E L ER X (sSeq (fun _ _ => r) rest [] []) (t.bind fun o => match o with
  | .nx s => k s
  | .bk t => M.pure (.bk t)
  | .ct t => M.pure (.ct t)
  | .rt b => M.pure (.rt b)) := by
  cases t with
  | ok o S' =>
    cases o with
    | nx s => simp only [SR1] at h; subst h; exact (hk s).run S'
    | bk s => simp only [SR1] at h; subst h; exact rfl
    | ct s => simp only [SR1] at h; subst h; exact rfl
    | rt b =>
      simp only [SR1] at h
      obtain ⟨v, rfl, h2⟩ := h
      exact ⟨v, rfl, h2⟩
  | exc n S' =>
    simp only [SR1] at h
    obtain ⟨ρ', rfl, h2⟩ := h
    exact ⟨ρ', rfl, h2⟩
  | stuck => exact trivial
theorem t_for {ei : α → D} {ci : Ix} {tg : Tgt} {body : Stm} {f : α → τ' → M (O τ' τ' β)} {B : α → τ' → Env} {mi : M (List α)} {s0 : τ'} {k : τ' → M (O σ τ β)} (hi : Xv (List.map ei) ci ρ mi) (hX : X ρ) (h0 : ρ = L' s0) (ht : ∀ x s, tg (ei x) (L' s) = some (B x s)) (hb : ∀ x s, Sm L' L' ER X body (B x s) (f x s)) (hk : ∀ s, Sm E L ER X rest (L' s) (k s)) : Sm E L ER X (sSeq (sFor ci tg body) rest) ρ (M.bind mi fun xs => bindO (forO f xs s0) k) :=
  t_ex hi hX fun xs S => by
    subst h0
    exact seq_of (for_core ht hb xs s0 S) hk
theorem while_core {tc : Tx} {body : Stm} {t : τ' → M Bool} {f : τ' → M (O τ' τ' β)} (ht : ∀ s, Xv id tc (L' s) (t s)) (hX : ∀ s, X (L' s)) (hb : ∀ s, Sm L' L' ER X body (L' s) (f s)) : ∀ (n : Nat) (s : τ') (S : Store), SR1 L' L ER X (whileS tc body n (L' s) S) (whileO (τ' := τ) t f n s S)
  | 0, s, S => trivial
  | n + 1, s, S => by
    unfold whileS whileO sEx M.bind Res.bind
    have h := ht s S
    cases q : t s S with
    | ok k S1 =>
      simp only [q, RS, id] at h ⊢
      rw [h]
      cases k with
      | false => exact rfl
      | true =>
        simp only [if_true]
        have h := (hb s).run S1
        cases q : f s S1 with
        | ok o S' =>
          cases o <;> simp only [q, SR1] at h ⊢
          · rw [h]; exact while_core ht hX hb n _ S'
          · rw [h]; exact rfl
          · rw [h]; exact while_core ht hX hb n _ S'
          · obtain ⟨v, h1, h2⟩ := h
            rw [h1]
            exact ⟨v, rfl, h2⟩
        | exc n S' =>
          simp only [q, SR1] at h ⊢
          obtain ⟨ρ', h1, h2⟩ := h
          rw [h1]
          exact ⟨ρ', rfl, h2⟩
        | stuck => exact trivial
    | exc n S1 =>
      simp only [q, RS] at h ⊢
      rw [h]
      exact ⟨_, rfl, hX s⟩
    | stuck => exact trivial
theorem t_while {tc : Tx} {body : Stm} {t : τ' → M Bool} {f : τ' → M (O τ' τ' β)} {s0 : τ'} {k : τ' → M (O σ τ β)} (h0 : ρ = L' s0) (hX : ∀ s, X (L' s)) (ht : ∀ s, Xv id tc (L' s) (t s)) (hb : ∀ s, Sm L' L' ER X body (L' s) (f s)) (hk : ∀ s, Sm E L ER X rest (L' s) (k s)) : Sm E L ER X (sSeq (sWhile tc body) rest) ρ (bindO (whileO t f FUEL s0) k) := ⟨fun S => by
  subst h0
  exact seq_of (while_core ht hX hb FUEL s0 S) hk⟩
/-! the def -/
abbrev XT : Env → Prop := fun _ => True
theorem t_fn {eb : β → D} {m : Fn} {bm : List Bool} {n : Nat} {ds : List D} {mo : M (O Unit Unit β)} {dv : Option β} {Ef : Unit → Env} {Lf : Unit → Env} (hm : m = mkFn bm n c) (hs : StartR bm ds n ρ) (hd : ∀ d, dv = some d → eb d = .non) (h : Sm Ef Lf (RF eb) XT c ρ mo) : FnT eb m ds (runO dv mo) := fun S => by
  subst hm
  have h := h.run S
  unfold mkFn runO M.bind Res.bind
  rw [hs.eq]
  cases q : mo S with
  | ok o S' =>
    cases o <;> simp only [q, SR1] at h ⊢
    · rw [h]
      unfold M.opt
      cases e : dv with
      | none => exact trivial
      | some d => simp only [RS, fin, resF, hd d e]
    · exact trivial
    · exact trivial
    · obtain ⟨v, h1, h2⟩ := h
      rw [h1]
      rcases h2 with rfl | rfl <;> exact rfl
  | exc n S' =>
    simp only [q, SR1] at h ⊢
    obtain ⟨ρ', h1, h2⟩ := h
    rw [h1]
    exact rfl
  | stuck => exact trivial
theorem t_fnN {eb : β → D} {m : Fn} {bm : List Bool} {n : Nat} {ds : List D} {mo : M (O Unit Unit β)} {Ef : Unit → Env} {Lf : Unit → Env} (hm : m = mkFn bm n c) (hs : StartR bm ds n ρ) (h : Sm Ef Lf (RN eb) XT c ρ mo) : FnN eb m ds (runO none mo) := fun S => by
  subst hm
  have h := h.run S
  unfold mkFn runO M.bind Res.bind
  rw [hs.eq]
  cases q : mo S with
  | ok o S' =>
    cases o <;> simp only [q, SR1] at h ⊢
    · exact trivial
    · exact trivial
    · exact trivial
    · obtain ⟨v, h1, h2⟩ := h
      rw [h1, h2]
      exact rfl
  | exc n S' =>
    simp only [q, SR1] at h ⊢
    obtain ⟨ρ', h1, h2⟩ := h
    rw [h1]
    exact rfl
  | stuck => exact trivial
def runI (m : M (O D Unit Unit)) : M D := M.bind m fun o => match o with
  | .nx s => M.pure s
  | _ => M.stuck
theorem t_ini {m : Ini} {bm : List Bool} {n k : Nat} {ds : List D} {mo : M (O D Unit Unit)} {Ef : D → Env} {Lf : Unit → Env} (hm : m = mkIni bm n c) (hs : StartR bm ds n ρ) (hE : ∀ d, Nth (Ef d) 0 (.me (iN d))) (h : Sm Ef Lf (RF iU) XT c (.me (iN (.obj k [])) :: ρ) mo) : FnI iN (m k) ds (runI mo) := fun S => by
  subst hm
  have h := h.run S
  unfold mkIni runI M.bind Res.bind
  rw [hs.eq]
  simp only [iN, id] at h
  cases q : mo S with
  | ok o S' =>
    cases o <;> simp only [q, SR1] at h ⊢
    · rename_i d
      rw [h]
      simp only [(hE d).eq, iN, id]
      exact rfl
    · exact trivial
    · exact trivial
    · exact trivial
  | exc n S' =>
    simp only [q, SR1] at h ⊢
    obtain ⟨ρ', h1, h2⟩ := h
    rw [h1]
    exact rfl
  | stuck => exact trivial
end
theorem t_let {α β σ τ : Type} {E : σ → Env} {L : τ → Env} {ER : β → Val → Prop} {X : Env → Prop} {c : Stm} {a : α} {k : α → M (O σ τ β)} {ρ2 : α → Env} (h : ∀ x, Sm E L ER X c (ρ2 x) (k x)) : Sm E L ER X c (ρ2 a) (M.bind (M.pure a) k) := h a
theorem rf_fr {β : Type} {e : β → D} (b : β) : RF e b (.fr (e b)) := .inl rfl
theorem rf_ow {β : Type} {e : β → D} (b : β) : RF e b (.ow (e b)) := .inr rfl
theorem rn_ow {β : Type} {e : β → D} (b : β) : RN e b (.ow (e b)) := rfl
end PM
set_option maxHeartbeats 1000000
/-! TY5: more. -/
namespace PM
open PySem PySem.Spec PyProof.Rows L2
section
variable {α β : Type} {e : α → D} {xs : List α} {ρ : Env} {i : Nat} {ea : α → D} {d : D}
theorem up_L : eL e xs = eL iN (xs.map e) := by simp [eL, iN]
theorem up_TL : eTL e xs = eTL iN (xs.map e) := by simp [eTL, iN]
theorem x_iBcastb {u : D → Option (List α)} (hu : Un (eL ea) u) (h : Nth ρ i (.bo (iN d))) : Xv (List.map ea) (iB i) ρ (M.opt (u d)) := fun S => by
  unfold M.opt
  cases q : u d with
  | none => exact trivial
  | some xs =>
    have := hu.back _ _ q
    subst this
    simp only [iB, h.eq, iN, id, eL]
    exact rfl
theorem x_iBcastf {u : D → Option (List α)} (hu : Un (eL ea) u) (h : Nth ρ i (.fr (iN d))) : Xv (List.map ea) (iB i) ρ (M.opt (u d)) := fun S => by
  unfold M.opt
  cases q : u d with
  | none => exact trivial
  | some xs =>
    have := hu.back _ _ q
    subst this
    simp only [iB, h.eq, iN, id, eL]
    exact rfl
end
end PM
namespace PM
open PySem PySem.Spec PyProof.Rows L2
theorem law_by {m : Fn} {ns : List Int} {g : M Bool} (h : FnT D.bl m [.scr ns] g) (hg : ∃ S, g [] = .ok true S) : ∃ S, resF (m [.scr ns] []) = .ok (.bl true) S := by
  obtain ⟨S, e⟩ := hg
  have := h []
  rw [e] at this
  exact ⟨S, this⟩
end PM
set_option maxHeartbeats 1000000
/-! TY6: proving about typed functions. -/
namespace PM
open PySem PySem.Spec PyProof.Rows L2
section
variable {α β γ δ σ σ' τ τ' : Type}
/-- it gives a thing so, and touches nothing -/
def Ret (m : M α) (P : α → Prop) : Prop := ∃ a, m = M.pure a ∧ P a
theorem Ret.pure {a : α} {P : α → Prop} (h : P a) : Ret (M.pure a) P := ⟨a, rfl, h⟩
theorem Ret.bind {m : M α} {k : α → M β} {P : α → Prop} {Q : β → Prop} (h : Ret m P) (hk : ∀ a, P a → Ret (k a) Q) : Ret (M.bind m k) Q := by
  obtain ⟨a, rfl, ha⟩ := h
  exact hk a ha
theorem Ret.mono {m : M α} {P Q : α → Prop} (h : Ret m P) (hq : ∀ a, P a → Q a) : Ret m Q := by
  obtain ⟨a, rfl, ha⟩ := h
  exact ⟨a, rfl, hq a ha⟩
theorem Ret.eq {m : M α} {a : α} (h : Ret m fun b => b = a) : m = M.pure a := by
  obtain ⟨b, rfl, rfl⟩ := h
  rfl
theorem Ret.of {m : M α} {a : α} {P : α → Prop} (h : m = M.pure a) (hp : P a) : Ret m P := ⟨a, h, hp⟩
theorem Ret.opt {o : Option α} {a : α} {P : α → Prop} (h : o = some a) (hp : P a) : Ret (M.opt o) P := by subst h; exact ⟨a, rfl, hp⟩
theorem Ret.ite {c : Prop} [Decidable c] {a b : M α} {P : α → Prop} (ha : c → Ret a P) (hb : ¬ c → Ret b P) : Ret (if c then a else b) P := by
  split
  · exact ha ‹_›
  · exact hb ‹_›
theorem Ret.bindO {m : M (O σ τ β)} {k : σ → M (O σ' τ β)} {P : σ → Prop} {Q : O σ' τ β → Prop} (h : Ret m fun o => ∃ s, o = .nx s ∧ P s) (hk : ∀ s, P s → Ret (k s) Q) : Ret (PM.bindO m k) Q := by
  obtain ⟨o, rfl, s, rfl, hs⟩ := h
  exact hk s hs
theorem Ret.bindOr {m : M (O σ τ β)} {k : σ → M (O σ' τ β)} {P : σ → Prop} {R : β → Prop} {Q : O σ' τ β → Prop} (h : Ret m fun o => (∃ s, o = .nx s ∧ P s) ∨ ∃ b, o = .rt b ∧ R b) (hk : ∀ s, P s → Ret (k s) Q) (hr : ∀ b, R b → Q (.rt b)) : Ret (PM.bindO m k) Q := by
  obtain ⟨o, rfl, ⟨s, rfl, hs⟩ | ⟨b, rfl, hb⟩⟩ := h
  · exact hk s hs
  · exact ⟨_, rfl, hr b hb⟩
theorem Ret.runO {d : Option β} {m : M (O Unit Unit β)} {P : β → Prop} (h : Ret m fun o => ∃ b, o = .rt b ∧ P b) : Ret (PM.runO d m) P := by
  obtain ⟨o, rfl, b, rfl, hb⟩ := h
  exact ⟨b, rfl, hb⟩
theorem Ret.runOn {d : β} {m : M (O Unit Unit β)} {P : β → Prop} (h : Ret m fun o => (o = .nx () ∧ P d) ∨ ∃ b, o = .rt b ∧ P b) : Ret (PM.runO (some d) m) P := by
  obtain ⟨o, rfl, ⟨rfl, h⟩ | ⟨b, rfl, hb⟩⟩ := h
  · exact ⟨d, rfl, h⟩
  · exact ⟨b, rfl, hb⟩
/-- a loop that always goes on -/
theorem Ret.for {f : α → τ → M (O τ τ β)} {xs : List α} {s0 : τ} {Q : O τ τ' β → Prop} (I : List α → τ → Prop) (h0 : I [] s0)
    (hs : ∀ pre x post s, xs = pre ++ x :: post → I pre s → Ret (f x s) fun o => (∃ s', (o = .nx s' ∨ o = .ct s') ∧ I (pre ++ [x]) s') ∨ (∃ s', o = .bk s' ∧ Q (.nx s')) ∨ ∃ b, o = .rt b ∧ Q (.rt b))
    (hd : ∀ s, I xs s → Q (.nx s)) : Ret (forO f xs s0) Q := by
  have go : ∀ (post pre : List α) (s : τ), xs = pre ++ post → I pre s → Ret (forO (τ' := τ') f post s) Q := by
    intro post
    induction post with
    | nil =>
      intro pre s e hI
      rw [List.append_nil] at e
      subst e
      exact ⟨_, rfl, hd s hI⟩
    | cons x post ih =>
      intro pre s e hI
      obtain ⟨o, ho, h⟩ := hs pre x post s e hI
      unfold forO
      rw [ho]
      rcases h with ⟨s', rfl | rfl, h⟩ | ⟨s', rfl, h⟩ | ⟨b, rfl, h⟩
      · exact ih (pre ++ [x]) s' (by simp [e]) h
      · exact ih (pre ++ [x]) s' (by simp [e]) h
      · exact ⟨_, rfl, h⟩
      · exact ⟨_, rfl, h⟩
  exact go xs [] s0 rfl h0
theorem Ret.for1 {f : α → τ → M (O τ τ β)} {xs : List α} {s0 : τ} {P : τ → Prop} (I : List α → τ → Prop) (h0 : I [] s0)
    (hs : ∀ pre x post s, xs = pre ++ x :: post → I pre s → Ret (f x s) fun o => ∃ s', o = .nx s' ∧ I (pre ++ [x]) s')
    (hd : ∀ s, I xs s → P s) : Ret (forO (τ' := τ') f xs s0) fun o => ∃ s, o = .nx s ∧ P s :=
  Ret.for I h0 (fun pre x post s e h => (hs pre x post s e h).mono fun o ⟨s', e', h'⟩ => .inl ⟨s', .inl e', h'⟩) fun s h => ⟨s, rfl, hd s h⟩
/-- a loop over a whole range -/
theorem Ret.forR {f : Int → τ → M (O τ τ β)} {lo : Int} {n : Nat} {s0 : τ} {P : τ → Prop} (I : Nat → τ → Prop) (h0 : I 0 s0)
    (hs : ∀ k s, k < n → I k s → Ret (f (lo + (k : Int)) s) fun o => ∃ s', o = .nx s' ∧ I (k + 1) s')
    (hd : ∀ s, I n s → P s) : Ret (forO (τ' := τ') f (rngI lo n) s0) fun o => ∃ s, o = .nx s ∧ P s := by
  refine Ret.for1 (fun pre s => I pre.length s) h0 ?_ ?_
  · intro pre x post s e hI
    have hl := congrArg List.length e
    simp only [rngI, List.length_map, List.length_range, List.length_append, List.length_cons] at hl
    have hx : (rngI lo n)[pre.length]? = some x := by rw [e]; simp
    simp only [rngI, List.getElem?_map, List.getElem?_range (show pre.length < n by omega), Option.map_some, Option.some.injEq] at hx
    subst hx
    refine (hs _ s (by omega) hI).mono fun o ⟨s', e', h'⟩ => ⟨s', e', by simpa using h'⟩
  · intro s h
    simp only [rngI, List.length_map, List.length_range] at h
    exact hd s h
/-- .. over a list by its length alone -/
theorem Ret.forN {f : α → τ → M (O τ τ β)} {xs : List α} {s0 : τ} {P : τ → Prop} (I : Nat → τ → Prop) (h0 : I 0 s0)
    (hs : ∀ k x s, xs[k]? = some x → I k s → Ret (f x s) fun o => ∃ s', o = .nx s' ∧ I (k + 1) s')
    (hd : ∀ s, I xs.length s → P s) : Ret (forO (τ' := τ') f xs s0) fun o => ∃ s, o = .nx s ∧ P s := by
  refine Ret.for1 (fun pre s => I pre.length s) h0 ?_ hd
  intro pre x post s e hI
  refine (hs pre.length x s (by rw [e]; simp) hI).mono fun o ⟨s', e', h'⟩ => ⟨s', e', by simpa using h'⟩
/-- that looks whether all are so -/
theorem for_all {f : α → Unit → M (O Unit Unit β)} {p : α → Bool} {b : β} : ∀ {xs : List α}, (∀ x ∈ xs, f x () = M.pure (if p x = true then .nx () else .rt b)) → forO (τ' := τ') f xs () = M.pure (if xs.all p = true then .nx () else .rt b)
  | [], _ => rfl
  | x :: xs, h => by
    have ih := @for_all f p b xs fun y hy => h y (List.mem_cons_of_mem _ hy)
    unfold forO
    rw [h x (by simp), List.all_cons]
    cases p x with
    | true => rw [Bool.true_and]; exact ih
    | false => rfl
/-- that goes on by a plain step -/
theorem for_fold {f : α → τ → M (O τ τ β)} (g : α → τ → τ) : ∀ {xs : List α} {s : τ}, (∀ x s, f x s = M.pure (.nx (g x s))) → forO (τ' := τ') f xs s = M.pure (.nx (xs.foldl (fun s x => g x s) s))
  | [], s, _ => rfl
  | x :: xs, s, h => by
    unfold forO
    rw [h x s]
    exact for_fold g h
/-- while, by a measure -/
theorem Ret.while {t : τ → M Bool} {f : τ → M (O τ τ β)} {s0 : τ} {Q : O τ τ' β → Prop} (I : Nat → τ → Prop) {m : Nat} (hm : m < FUEL) (h0 : I m s0)
    (hs : ∀ m s, I m s → ∃ k, t s = M.pure k ∧ (k = false → Q (.nx s)) ∧ (k = true → Ret (f s) fun o => (∃ s' m', (o = .nx s' ∨ o = .ct s') ∧ m' < m ∧ I m' s') ∨ (∃ s', o = .bk s' ∧ Q (.nx s')) ∨ ∃ b, o = .rt b ∧ Q (.rt b))) : Ret (whileO t f FUEL s0) Q := by
  have go : ∀ (n m : Nat) (s : τ), m < n → I m s → Ret (whileO (τ' := τ') t f n s) Q := by
    intro n
    induction n with
    | zero => intro m s h; omega
    | succ n ih =>
      intro m s hmn hI
      obtain ⟨k, hk, h1, h2⟩ := hs m s hI
      unfold whileO
      rw [hk, M.pure_bind]
      cases k with
      | false => exact ⟨_, rfl, h1 rfl⟩
      | true =>
        simp only [if_true]
        obtain ⟨o, ho, h⟩ := h2 rfl
        rw [ho]
        rcases h with ⟨s', m', rfl | rfl, h, h'⟩ | ⟨s', rfl, h⟩ | ⟨b, rfl, h⟩
        · exact ih m' s' (by omega) h'
        · exact ih m' s' (by omega) h'
        · exact ⟨_, rfl, h⟩
        · exact ⟨_, rfl, h⟩
  exact go FUEL m s0 hm h0
/-- comprehensions -/
theorem lc_go {t : α → M Bool} {e : α → M β} {p : α → Bool} {g : α → β} : ∀ {xs : List α} {acc : List β}, (∀ x ∈ xs, t x = M.pure (p x) ∧ (p x = true → e x = M.pure (g x))) → acc.length + xs.length ≤ 1000000 → lcO t e xs acc = M.pure (acc ++ (xs.filter p).map g)
  | [], acc, _, _ => by unfold lcO; simp
  | x :: xs, acc, h, hl => by
    simp only [List.length_cons] at hl
    obtain ⟨h1, h2⟩ := h x (by simp)
    unfold lcO
    rw [h1, M.noexc_pure, M.pure_bind]
    cases q : p x with
    | true =>
      rw [if_pos rfl, h2 q, M.noexc_pure, M.pure_bind, if_pos (by omega), lc_go (fun y hy => h y (by simp [hy])) (by simp; omega)]
      simp [List.filter_cons, q]
    | false =>
      rw [if_neg (by simp), lc_go (fun y hy => h y (by simp [hy])) (by omega)]
      simp [List.filter_cons, q]
theorem lc_filt {t : α → M Bool} {e : α → M β} (p : α → Bool) (g : α → β) {xs : List α} (h : ∀ x ∈ xs, t x = M.pure (p x) ∧ (p x = true → e x = M.pure (g x))) (hl : xs.length ≤ 1000000) : lcO t e xs [] = M.pure ((xs.filter p).map g) := by
  rw [lc_go h (by simpa using hl)]; rfl
theorem lc_map' {e : α → M β} (g : α → β) {xs : List α} (h : ∀ x ∈ xs, e x = M.pure (g x)) (hl : xs.length ≤ 1000000) : lcO (fun _ => M.pure true) e xs [] = M.pure (xs.map g) := by
  rw [lc_filt (fun _ => true) g (fun x hx => ⟨rfl, fun _ => h x hx⟩) hl, List.filter_eq_self.mpr (by simp)]
theorem Ret.lc {e : α → M β} {P : β → Prop} {xs : List α} (h : ∀ x ∈ xs, Ret (e x) P) (hl : xs.length ≤ 1000000) : Ret (lcO (fun _ => M.pure true) e xs []) fun ys => ys.length = xs.length ∧ ∀ y ∈ ys, P y := by
  have go : ∀ (xs : List α) (acc : List β), (∀ x ∈ xs, Ret (e x) P) → acc.length + xs.length ≤ 1000000 → (∀ y ∈ acc, P y) → Ret (lcO (fun _ => M.pure true) e xs acc) fun ys => ys.length = acc.length + xs.length ∧ ∀ y ∈ ys, P y := by
    intro xs
    induction xs with
    | nil => intro acc _ _ ha; exact ⟨acc, rfl, by simp, ha⟩
    | cons x xs ih =>
      intro acc h hl ha
      simp only [List.length_cons] at hl
      obtain ⟨y, hy, hp⟩ := h x (by simp)
      unfold lcO
      rw [M.noexc_pure, M.pure_bind, if_pos rfl, hy, M.noexc_pure, M.pure_bind, if_pos (by omega)]
      refine (ih (acc ++ [y]) (fun z hz => h z (by simp [hz])) (by simp; omega) ?_).mono fun ys ⟨h1, h2⟩ => ⟨by simp at h1 ⊢; omega, h2⟩
      intro z hz
      rcases List.mem_append.mp hz with hz | hz
      · exact ha z hz
      · simp at hz; subst hz; exact hp
  exact (go xs [] h (by simpa using hl) (by simp)).mono fun ys ⟨h1, h2⟩ => ⟨by simpa using h1, h2⟩
/-! ### partial operators -/
theorem gR1_ok {j : Int} (h : -1000000000 ≤ j ∧ j ≤ 1000000000) : gR1 j = some (rngI 0 j.toNat) := by simp [gR1, h]
theorem gR2_ok {i j : Int} (h : (-1000000000 ≤ i ∧ i ≤ 1000000000) ∧ -1000000000 ≤ j ∧ j ≤ 1000000000) : gR2 i j = some (rngI i (j - i).toNat) := by simp [gR2, h]
theorem gR3_ok {i j c : Int} (h : ((-1000000000 ≤ i ∧ i ≤ 1000000000) ∧ -1000000000 ≤ j ∧ j ≤ 1000000000) ∧ 0 < c ∧ c ≤ 1000000000) : gR3 i j c = some (rngIC i c (stepN i j c)) := by simp [gR3, h]
theorem gRv1_ok {j : Int} (h : -1000000000 ≤ j ∧ j ≤ 1000000000) : gRv1 j = some (rngIC (j.toNat - 1) (-1) j.toNat) := by simp [gRv1, h]
theorem gRg_ok {j : Int} (h : -1000000 ≤ j ∧ j ≤ 1000000) : gRg j = some (rngI 0 j.toNat) := by simp [gRg, h]
theorem gMod_ok {i j : Int} (h : 0 < j) : gMod i j = some (i % j) := by simp [gMod, h]
theorem gDiv_ok {i j : Int} (h : 0 < j ∧ j < 1073741824) : gDiv i j = some (i / j) := by simp [gDiv, h]
theorem gMul_okR {i j : Int} (h : -(2 ^ 64) < j ∧ j < 2 ^ 64) : gMul i j = some (i * j) := by
  unfold gMul cMul; rw [if_pos (decide_eq_true (.inr h))]
theorem gMul_okL {i j : Int} (h : -(2 ^ 64) < i ∧ i < 2 ^ 64) : gMul i j = some (i * j) := by
  unfold gMul cMul; rw [if_pos (decide_eq_true (.inl h))]
theorem gShr_ok {i j : Int} (h : 0 ≤ j) : gShr i j = some (i / 2 ^ j.toNat) := by simp [gShr, h]
theorem gCatS_ok {x y : Str} (h : x.length + y.length ≤ 1000000) : gCatS x y = some (x ++ y) := by simp [gCatS, h]
theorem gCatL_ok {x y : List α} (h : x.length + y.length ≤ 1000000) : gCatL x y = some (x ++ y) := by simp [gCatL, h]
theorem gLenS_ok {x : Str} (h : x.length ≤ 1000000) : gLenS x = some (x.length : Int) := by simp [gLenS, h]
theorem gCutS_ok {x : Str} {lo hi : Option Int} (h : x.length ≤ 1000000) : gCutS x lo hi = some (cutS x lo hi) := by simp [gCutS, h]
theorem gApp_ok {xs : List α} {x : α} (h : xs.length < 1000000) : gApp xs x = some (xs ++ [x]) := by simp [gApp, h]
theorem gRep_ok {xs : List α} {j : Int} (h : -1000000 ≤ j ∧ j ≤ 1000000 ∧ xs.length * j.toNat ≤ 1000000) : gRep xs j = some (List.replicate j.toNat xs).flatten := by simp [gRep, h]
theorem gIx_ok {xs : List α} {i : Int} {n : Nat} (hi : i = (n : Int)) (h : n < xs.length) : gIx xs i = some xs[n] := by
  unfold gIx L2.atI
  rw [ixN_of hi h, Option.bind_some, List.getElem?_eq_getElem h]
theorem gIx_getD {xs : List α} {i : Int} (d : α) (h : 0 ≤ i ∧ i < xs.length) : gIx xs i = some (xs.getD i.toNat d) := by
  have h2 : i.toNat < xs.length := by omega
  rw [gIx_ok (n := i.toNat) (by omega) h2, List.getD_eq_getElem?_getD, List.getElem?_eq_getElem h2]; rfl
theorem gIx_some {xs : List α} {i : Int} {n : Nat} {x : α} (hi : i = (n : Int)) (h : xs[n]? = some x) : gIx xs i = some x := by
  have h2 := (List.getElem?_eq_some_iff.mp h).1
  rw [gIx_ok hi h2]
  rw [List.getElem?_eq_getElem h2] at h
  exact h
theorem gIxS_ok {x : Str} {i : Int} (h : 0 ≤ i ∧ i < x.length ∧ x.length ≤ 1000000) : gIxS x i = some ((Sl x).getD i.toNat 0) := by
  unfold gIxS
  rw [if_pos h.2.2]
  exact gIx_getD 0 ⟨h.1, by rw [Sl_len]; exact h.2.1⟩
theorem gSetIx_ok {xs : List α} {i : Int} {n : Nat} {x : α} (hi : i = (n : Int)) (h : n < xs.length) : gSetIx xs i x = some (xs.set n x) := by
  unfold gSetIx; rw [ixN_of hi h]; rfl
theorem told {e : α → D} {u : D → Option α} (h : Un e u) {a : α} : u (e a) = some a := h.told a
@[simp] theorem uI_told {i : Int} : uI (.int i) = some i := rfl
@[simp] theorem uS_told {i : Str} : uS (.str i) = some i := rfl
@[simp] theorem uB_told {i : Bool} : uB (.bl i) = some i := rfl
@[simp] theorem uN_told : uN .non = some () := rfl
@[simp] theorem uLS_told {xs : List Str} : uL uS (.lst (xs.map .str)) = some xs := (unL unS).told xs
@[simp] theorem uLI_told {xs : List Int} : uL uI (.lst (xs.map .int)) = some xs := (unL unI).told xs
@[simp] theorem uLSI_told {xs : List (Str × Int)} : uL (uP2 uS uI) (.lst (xs.map (eP2 .str .int))) = some xs := (unL (unP2 unS unI)).told xs
@[simp] theorem uLL_told {xs : List (List Str)} : uL (uL uS) (.lst (xs.map (eL .str))) = some xs := (unL (unL unS)).told xs
@[simp] theorem uAny_told {xs : List D} : uL some (.lst xs) = some xs := by
  have := (unL unAny).told xs
  simpa [eL, iN] using this
@[simp] theorem uTAny_told {xs : List D} : uTL some (.tup xs) = some xs := by
  have := (unTL unAny).told xs
  simpa [eTL, iN] using this
end
/-! ### with the store -/
section
variable {α β γ σ σ' τ τ' : Type}
def WP (m : M α) (S : Store) (Q : α → Store → Prop) (E : Nat → Store → Prop) : Prop := match m S with
  | .ok a S' => Q a S'
  | .exc n S' => E n S'
  | .stuck => False
theorem WP.pure {a : α} {S : Store} {Q : α → Store → Prop} {E : Nat → Store → Prop} (h : Q a S) : WP (M.pure a) S Q E := h
theorem WP.exc {n : Nat} {S : Store} {Q : α → Store → Prop} {E : Nat → Store → Prop} (h : E n S) : WP (M.exc n : M α) S Q E := h
theorem WP.bind {m : M α} {k : α → M β} {S : Store} {Q : β → Store → Prop} {E : Nat → Store → Prop} (h : WP m S (fun a S' => WP (k a) S' Q E) E) : WP (M.bind m k) S Q E := by
  unfold WP M.bind Res.bind at *
  cases q : m S <;> simp only [q] at h ⊢ <;> exact h
theorem WP.ret {m : M α} {P : α → Prop} {S : Store} {Q : α → Store → Prop} {E : Nat → Store → Prop} (h : Ret m P) (hq : ∀ a, P a → Q a S) : WP m S Q E := by
  obtain ⟨a, rfl, ha⟩ := h
  exact hq a ha
theorem WP.end {m : M Bool} (h : WP m [] (fun b _ => b = true) (fun _ _ => False)) : ∃ S, m [] = .ok true S := by
  unfold WP at h
  cases q : m [] <;> simp only [q] at h
  subst h
  exact ⟨_, rfl⟩
theorem Ret.end {m : M Bool} (h : Ret m fun b => b = true) : ∃ S, m [] = .ok true S := by
  obtain ⟨b, rfl, rfl⟩ := h
  exact ⟨[], rfl⟩
end
end PM
set_option maxHeartbeats 1000000
/-! TY7: try, caught exceptions, typed. -/
namespace PM
open PySem PySem.Spec PyProof.Rows L2
section
variable {α β γ δ ζ σ σ' τ τ' : Type} {ρ ρ1 : Env} {ca : Ex} {ea : α → D} {ez : ζ → D} {a : α} {ma : M α} {i : Nat} {cr : Ax} {ds : List D} {es : β → List D} {m : Fn} {g : M ζ} {gx : β → M ζ} {mb : M β}
def isXM (f : HTab) (d : D) : M Bool := match d with
  | .exn n => M.opt (f n)
  | _ => M.stuck
theorem isX_core {f : HTab} {d : D} {S : Store} (ha : ca ρ S = .ok d S) : RS D.bl (eIsX f ca ρ S) (isXM f d S) := by
  unfold eIsX
  rw [ha]
  cases d with
  | exn n =>
    cases q : f n with
    | none => simp only [isXM, q, M.opt]; exact trivial
    | some b => simp only [isXM, q, M.opt, Res.bind]; exact rfl
  | _ => exact trivial
theorem p_isX {f : HTab} {d : D} (ha : Pv iN ca ρ d) : Xv D.bl (eIsX f ca) ρ (isXM f d) := fun S => isX_core (ha S)
theorem RSq {r : Res Val} {S : Store} (h : RS ez (resF r) (g S)) : RS ez (resQ r) (M.noexc g S) := by
  unfold M.noexc
  cases e : g S with
  | ok a S =>
    simp only [e, RS] at h ⊢
    cases r with
    | ok v S' => cases v <;> exact h
    | exc n S' => simp only [resF, reduceCtorEq] at h
    | stuck => simp only [resF, reduceCtorEq] at h
  | exc n S => exact trivial
  | stuck => exact trivial
theorem x_callQP (h : PvA cr ρ ds) (hf : FnT ez m ds g) : Xv ez (eCallQ m cr) ρ (M.noexc g) := fun S => by simp only [eCallQ, h S, Res.bind]; exact RSq (hf S)
theorem x_callQX (h : XvA es cr ρ mb) (hf : ∀ b, FnT ez m (es b) (gx b)) : Xv ez (eCallQ m cr) ρ (M.bind mb fun b => M.noexc (gx b)) := fun S => RS.bind (h S) fun b S1 => RSq (hf b S1)
end
section
variable {α β γ σ σ' τ τ' : Type}
def tryO (hit : HTab) (m : M (O σ τ β)) (h : Nat → M (O σ τ β)) : M (O σ τ β) := fun S => match m S with
  | .exc n S' => (match hit n with
    | some true => (match h n S' with
      | .exc _ _ => .stuck
      | r => r)
    | some false => .exc n S'
    | none => .stuck)
  | r => r
def handsM (n : Nat) (S : Store) : List (HTab × M (O σ τ β)) → Res (O σ τ β)
  | [] => .exc n S
  | (hit, h) :: r => match hit n with
    | some true => (match h S with
      | .exc _ _ => .stuck
      | q => q)
    | some false => handsM n S r
    | none => .stuck
def tryOs (l : List (HTab × M (O σ τ β))) (m : M (O σ τ β)) : M (O σ τ β) := fun S => match m S with
  | .exc n S' => handsM n S' l
  | r => r
theorem tryO_pure (hit : HTab) (o : O σ τ β) (h : Nat → M (O σ τ β)) : tryO hit (M.pure o) h = M.pure o := id rfl
theorem tryO_exc (hit : HTab) (n : Nat) (h : Nat → M (O σ τ β)) (e : hit n = some true) : tryO hit (M.exc n) h = M.noexc (h n) := by
  funext S
  simp only [tryO, M.exc, e, M.noexc]
  cases h n S <;> rfl
theorem tryO_pass (hit : HTab) (n : Nat) (h : Nat → M (O σ τ β)) (e : hit n = some false) : tryO hit (M.exc n) h = M.exc n := by
  funext S
  simp only [tryO, M.exc, e]
theorem tryOs_pure (l : List (HTab × M (O σ τ β))) (o : O σ τ β) : tryOs l (M.pure o) = M.pure o := id rfl
variable {E : σ → Env} {L : τ → Env} {ER : β → Val → Prop} {X : Env → Prop} {ρ ρ1 : Env} {rest a b c body suite : Stm} {i : Nat} {m : M (O σ τ β)} {h : Nat → M (O σ τ β)}
theorem t_tryT {hit : HTab} {ρ2 : Nat → Env} (hb : Sm E L ER (fun r => r = ρ) body ρ m) (hX : X ρ) (hs : ∀ n, SetR ρ i (.fr (iN (.exn n))) (ρ2 n)) (hh : ∀ n, Sm E L ER XT suite (ρ2 n) (h n)) (hE : ∀ s, (E s).set i .un = E s) (hL : ∀ t, (L t).set i .un = L t) :
    Sm E L ER X (sTryT i hit body suite) ρ (tryO hit m h) := ⟨fun S => by
  have q := hb.run S
  unfold sTryT tryO
  cases e : m S with
  | ok o S' =>
    cases o with
    | nx s => simp only [e, SR1] at q ⊢; rw [q]
    | bk s => simp only [e, SR1] at q ⊢; rw [q]
    | ct s => simp only [e, SR1] at q ⊢; rw [q]
    | rt v =>
      simp only [e, SR1] at q ⊢
      obtain ⟨w, h1, h2⟩ := q
      exact ⟨w, by rw [h1], h2⟩
  | exc n S' =>
    simp only [e, SR1] at q ⊢
    obtain ⟨ρ', h1, h2⟩ := q
    subst h2
    rw [h1]
    simp only []
    cases e2 : hit n with
    | none => exact trivial
    | some k =>
      cases k with
      | false => exact ⟨ρ', rfl, hX⟩
      | true =>
        have q2 := (hh n).run S'
        have hs' := (hs n).eq
        simp only [iN, id] at hs'
        simp only [hs']
        cases e3 : h n S' with
        | ok o S2 =>
          cases o with
          | nx s => simp only [e3, SR1] at q2 ⊢; rw [q2]; simp only [hE]
          | bk s => simp only [e3, SR1] at q2 ⊢; rw [q2]; simp only [hL]
          | ct s => simp only [e3, SR1] at q2 ⊢; rw [q2]; simp only [hL]
          | rt v =>
            simp only [e3, SR1] at q2 ⊢
            obtain ⟨w, h1, h2⟩ := q2
            exact ⟨w, by rw [h1], h2⟩
        | exc n S2 => exact trivial
        | stuck => exact trivial
  | stuck => exact trivial⟩
inductive HdsT (E : σ → Env) (L : τ → Env) (ER : β → Val → Prop) (ρ : Env) : List (HTab × Stm) → List (HTab × M (O σ τ β)) → Prop
  | nil : HdsT E L ER ρ [] []
  | cons {hit : HTab} {s : Stm} {h : M (O σ τ β)} {l : List (HTab × Stm)} {l' : List (HTab × M (O σ τ β))} (hh : Sm E L ER XT s ρ h) (r : HdsT E L ER ρ l l') : HdsT E L ER ρ ((hit, s) :: l) ((hit, h) :: l')
theorem HdsT.run {n : Nat} {S : Store} (hX : X ρ) {l : List (HTab × Stm)} {l' : List (HTab × M (O σ τ β))} (h : HdsT E L ER ρ l l') : SR1 E L ER X (hands n ρ S l) (handsM n S l') := by
  induction h with
  | nil => exact ⟨ρ, rfl, hX⟩
  | @cons hit s h l l' hh r ih =>
    unfold hands handsM
    cases e : hit n with
    | none => exact trivial
    | some b =>
      cases b with
      | false => exact ih
      | true =>
        have q := hh.run S
        simp only []
        cases e2 : h S with
        | ok o S' =>
          cases o with
          | nx s => simp only [e2, SR1] at q ⊢; rw [q]
          | bk s => simp only [e2, SR1] at q ⊢; rw [q]
          | ct s => simp only [e2, SR1] at q ⊢; rw [q]
          | rt v =>
            simp only [e2, SR1] at q ⊢
            obtain ⟨w, h1, h2⟩ := q
            exact ⟨w, by rw [h1], h2⟩
        | exc n S' => exact trivial
        | stuck => exact trivial
theorem t_tryO {l : List (HTab × Stm)} {l' : List (HTab × M (O σ τ β))} (hb : Sm E L ER (fun r => r = ρ) body ρ m) (hX : X ρ) (hh : HdsT E L ER ρ l l') : Sm E L ER X (sTryO l body) ρ (tryOs l' m) := ⟨fun S => by
  have q := hb.run S
  unfold sTryO tryOs
  cases e : m S with
  | ok o S' =>
    cases o with
    | nx s => simp only [e, SR1] at q ⊢; rw [q]
    | bk s => simp only [e, SR1] at q ⊢; rw [q]
    | ct s => simp only [e, SR1] at q ⊢; rw [q]
    | rt v =>
      simp only [e, SR1] at q ⊢
      obtain ⟨w, h1, h2⟩ := q
      exact ⟨w, by rw [h1], h2⟩
  | exc n S' =>
    simp only [e, SR1] at q ⊢
    obtain ⟨ρ', h1, h2⟩ := q
    subst h2
    rw [h1]
    exact hh.run hX
  | stuck => exact trivial⟩
theorem t_stuck {ρ : Env} {s : Stm} : Sm E L ER X s ρ (M.stuck) := ⟨fun S => trivial⟩
end
theorem roomQ {k : Nat} {A : Around} {v : Option Value} (r : Room k A) : L2H.RoomH k (A.mark v) := ⟨r.dp, r.un⟩
/-! more changes in place -/
section
variable {α β γ σ σ' τ τ' : Type}
variable {E : σ → Env} {L : τ → Env} {ER : β → Val → Prop} {X : Env → Prop} {ρ ρ1 : Env} {rest : Stm} {i : Nat} {en : α → D} {ce ci : Ex}
def gIns (xs : List α) (j : Int) (x : α) : Option (List α) := if xs.length < 1000000 ∧ 0 ≤ j ∧ j < 1000000 then some (xs.take j.toNat ++ [x] ++ xs.drop j.toNat) else none
def gPop (xs : List α) : Option (List α) := if xs.length = 0 then none else some xs.dropLast
theorem t_ins {xs : List α} {m : M α} {mj : M Int} {k : List α → M (O σ τ β)} {ρ2 : List α → Env} (h : Nth ρ i (.ow (eL en xs))) (hi : Xv D.int ci ρ mj) (hc : Xv en ce ρ m) (hX : X ρ) (hs : ∀ a, SetR ρ i (.ow (eL en a)) (ρ2 a)) (hk : ∀ a, Sm E L ER X rest (ρ2 a) (k a)) : Sm E L ER X (sSeq (sLm i lInsert (aCons ci (aCons ce aNil))) rest) ρ (M.bind mj fun j => M.bind m fun x => M.bind (M.opt (gIns xs j x)) k) := ⟨fun S => by
  have q1 := hi S
  unfold M.bind Res.bind
  cases e1 : mj S with
  | ok j S1 =>
    simp only [e1, RS] at q1 ⊢
    have q := hc S1
    cases e : m S1 with
    | ok z S' =>
      simp only [e, RS] at q ⊢
      unfold M.opt gIns
      by_cases hl : xs.length < 1000000 ∧ 0 ≤ j ∧ j < 1000000
      · have := (hk (xs.take j.toNat ++ [z] ++ xs.drop j.toNat)).run S'
        simp only [hl, and_self, if_true]
        have hs' := (hs (xs.take j.toNat ++ [z] ++ xs.drop j.toNat)).eq
        simp only [eL, List.map_append, List.map_cons, List.map_nil, List.map_take, List.map_drop] at hs'
        simp only [sSeq, sLm, h.eq, eL, sEx, aCons, aNil, q1, q, Res.bind, lInsert, List.length_map, hl, and_self, if_true, hs']
        exact this
      · simp only [hl, if_false]; exact trivial
    | exc n S' =>
      simp only [e, RS] at q ⊢
      exact ⟨ρ, by simp only [sSeq, sLm, h.eq, eL, sEx, aCons, q1, q, Res.bind], hX⟩
    | stuck => exact trivial
  | exc n S' =>
    simp only [e1, RS] at q1 ⊢
    exact ⟨ρ, by simp only [sSeq, sLm, h.eq, eL, sEx, aCons, q1, Res.bind], hX⟩
  | stuck => exact trivial⟩
theorem t_ext {xs : List α} {m : M (List α)} {k : List α → M (O σ τ β)} {ρ2 : List α → Env} (h : Nth ρ i (.ow (eL en xs))) (hc : Xv (eL en) ce ρ m) (hX : X ρ) (hs : ∀ a, SetR ρ i (.ow (eL en a)) (ρ2 a)) (hk : ∀ a, Sm E L ER X rest (ρ2 a) (k a)) : Sm E L ER X (sSeq (sLm i lExtend (aCons ce aNil)) rest) ρ (M.bind m fun x => M.bind (M.opt (gCatL xs x)) k) := ⟨fun S => by
  have q := hc S
  unfold M.bind Res.bind
  cases e : m S with
  | ok z S' =>
    simp only [e, RS] at q ⊢
    unfold M.opt gCatL
    by_cases hl : xs.length + z.length ≤ 1000000
    · have := (hk (xs ++ z)).run S'
      simp only [hl, if_true]
      have hs' := (hs (xs ++ z)).eq
      simp only [eL, List.map_append] at hs'
      simp only [eL] at q
      simp only [sSeq, sLm, h.eq, eL, sEx, aCons, aNil, q, Res.bind, lExtend, List.length_map, hl, if_true, hs']
      exact this
    · simp only [hl, if_false]; exact trivial
  | exc n S' =>
    simp only [e, RS] at q ⊢
    exact ⟨ρ, by simp only [sSeq, sLm, h.eq, eL, sEx, aCons, q, Res.bind], hX⟩
  | stuck => exact trivial⟩
theorem t_reverse {xs : List α} {k : List α → M (O σ τ β)} {ρ2 : List α → Env} (h : Nth ρ i (.ow (eL en xs))) (hs : ∀ a, SetR ρ i (.ow (eL en a)) (ρ2 a)) (hk : ∀ a, Sm E L ER X rest (ρ2 a) (k a)) : Sm E L ER X (sSeq (sLm i lReverse aNil) rest) ρ (M.bind (M.pure (List.reverse xs)) k) := ⟨fun S => by
  have := (hk xs.reverse).run S
  have hs' := (hs xs.reverse).eq
  simp only [eL, List.map_reverse] at hs'
  simp only [M.bind, M.pure, Res.bind, sSeq, sLm, h.eq, eL, sEx, aNil, lReverse, hs']
  exact this⟩
theorem t_clear {xs : List α} {k : List α → M (O σ τ β)} {ρ2 : List α → Env} (h : Nth ρ i (.ow (eL en xs))) (hs : ∀ a, SetR ρ i (.ow (eL en a)) (ρ2 a)) (hk : ∀ a, Sm E L ER X rest (ρ2 a) (k a)) : Sm E L ER X (sSeq (sLm i lClear aNil) rest) ρ (M.bind (M.pure ([] : List α)) k) := ⟨fun S => by
  have := (hk []).run S
  have hs' := (hs []).eq
  simp only [eL, List.map_nil] at hs'
  simp only [M.bind, M.pure, Res.bind, sSeq, sLm, h.eq, eL, sEx, aNil, lClear, hs']
  exact this⟩
theorem t_pop {xs : List α} {k : List α → M (O σ τ β)} {ρ2 : List α → Env} (h : Nth ρ i (.ow (eL en xs))) (hs : ∀ a, SetR ρ i (.ow (eL en a)) (ρ2 a)) (hk : ∀ a, Sm E L ER X rest (ρ2 a) (k a)) : Sm E L ER X (sSeq (sLm i lPop aNil) rest) ρ (M.bind (M.opt (gPop xs)) k) := ⟨fun S => by
  unfold M.opt gPop M.bind Res.bind
  by_cases hl : xs.length = 0
  · simp only [hl, if_true]; exact trivial
  · have := (hk xs.dropLast).run S
    have hs' := (hs xs.dropLast).eq
    simp only [eL, List.map_dropLast] at hs'
    simp only [hl, if_false, sSeq, sLm, h.eq, eL, sEx, aNil, lPop, List.length_map, hs']
    exact this⟩
theorem t_appN {y : α} {m : M (List α)} {k : List α → M (O σ τ β)} (hc : Xv (eL en) ce ρ m) (hX : X ρ) (hk : ∀ a, Sm E L ER X rest ρ (k a)) : Sm E L ER X (sSeq (sAppN ce) rest) ρ (M.bind m fun x => M.bind (M.opt (gApp x y)) k) := ⟨fun S => by
  have q := hc S
  unfold M.bind Res.bind
  cases e : m S with
  | ok z S' =>
    simp only [e, RS] at q ⊢
    unfold M.opt gApp
    by_cases hl : z.length < 1000000
    · have := (hk (z ++ [y])).run S'
      simp only [hl, if_true]
      simp only [eL] at q
      simp only [sSeq, sAppN, sEx, q, List.length_map, hl, if_true]
      exact this
    · simp only [hl, if_false]; exact trivial
  | exc n S' =>
    simp only [e, RS] at q ⊢
    exact ⟨ρ, by simp only [sSeq, sAppN, sEx, q], hX⟩
  | stuck => exact trivial⟩
theorem gIns_ok {xs : List α} {j : Int} {x : α} (h : xs.length < 1000000) (h0 : 0 ≤ j) (h1 : j < 1000000) : gIns xs j x = some (xs.take j.toNat ++ [x] ++ xs.drop j.toNat) := by simp [gIns, h, h0, h1]
end
end PM
set_option maxHeartbeats 1000000
/-! TY8: dicts with nested keys, typed. -/
namespace PM
open PySem PySem.Spec PyProof.Rows L2
abbrev NMap (β : Type) := List (NestedKey × β)
section
variable {α β γ κ : Type} {ρ : Env} {ca cb cc : Ex} {ek : κ → D} {ev : β → D}
abbrev eDit (ev : β → D) (kvs : NMap β) : D := .dit (kvs.map fun p => (p.1, ev p.2))
def nVal (kvs : NMap β) (k : NestedKey) : Option β := (kvs.find? fun p => decide (p.1 = k)).map (·.2)
def nHas (kvs : NMap β) (k : NestedKey) : Bool := kvs.any fun p => decide (p.1 = k)
def nPut (kvs : NMap β) (k : NestedKey) (v : β) : NMap β := if nHas kvs k = true then kvs.map (fun p => if p.1 = k then (p.1, v) else p) else kvs ++ [(k, v)]
def nPutL (kvs : NMap β) (k : NestedKey) (v : β) : Option (NMap β) := if kvs.length < 1000000 then some (nPut kvs k v) else none
theorem valN_e (kvs : NMap β) (k : NestedKey) : valN (kvs.map fun p => (p.1, ev p.2)) k = (nVal kvs k).map ev := by
  unfold valN nVal
  induction kvs with
  | nil => rfl
  | cons p r ih =>
    rw [List.map_cons, List.find?_cons, List.find?_cons]
    by_cases h : p.1 = k
    · simp [h]
    · simp only [h, decide_false]
      exact ih
theorem hasN_e (kvs : NMap β) (k : NestedKey) : hasN (kvs.map fun p => (p.1, ev p.2)) k = nHas kvs k := by
  unfold hasN nHas
  rw [List.any_map]
  rfl
theorem putND_e (kvs : NMap β) (k : NestedKey) (v : β) : putND (kvs.map fun p => (p.1, ev p.2)) k (ev v) = (nPut kvs k v).map fun p => (p.1, ev p.2) := by
  unfold putND nPut
  rw [hasN_e]
  split
  · rw [List.map_map, List.map_map]
    apply List.map_congr_left
    intro p _
    by_cases h : p.1 = k <;> simp [h]
  · simp
theorem x_Dit0 : Xv (eDit ev) eDit0 ρ (M.pure []) := fun _ => rfl
theorem x_tget {md : M (NMap β)} {mk : M κ} (ha : Xv (eDit ev) ca ρ md) (hb : Xv ek cb ρ mk) : Xv ev (eBin oTget ca cb) ρ (M.bind md fun d => M.bind mk fun k => M.bind (M.opt (D.nkey (ek k))) fun n => M.opt (nVal d n)) := fun S =>
  RS.bind (ha S) fun d S1 => RS.bind (hb S1) fun k S2 => by
    unfold M.opt M.bind
    simp only [oTget]
    cases q : D.nkey (ek k) with
    | none => exact trivial
    | some n =>
      simp only [Res.bind, valN_e]
      cases q2 : nVal d n with
      | none => exact trivial
      | some v => exact rfl
theorem x_tin {neg : Bool} {md : M (NMap β)} {mk : M κ} (hb : Xv ek cb ρ mk) (ha : Xv (eDit ev) ca ρ md) : Xv D.bl (eBin (oTin neg) cb ca) ρ (M.bind mk fun k => M.bind md fun d => M.bind (M.opt (D.nkey (ek k))) fun n => M.pure (if neg = true then !nHas d n else nHas d n)) := fun S =>
  RS.bind (hb S) fun k S1 => RS.bind (ha S1) fun d S2 => by
    unfold M.opt M.bind M.pure
    simp only [oTin]
    cases q : D.nkey (ek k) with
    | none => exact trivial
    | some n =>
      simp only [Res.bind, hasN_e, Option.map_some]
      exact rfl
theorem x_tgetor {md : M (NMap β)} {mk : M κ} {mz : M β} (ha : Xv (eDit ev) ca ρ md) (hb : Xv ek cb ρ mk) (hc : Xv ev cc ρ mz) : Xv ev (eGetN ca cb cc) ρ (M.bind md fun d => M.bind mk fun k => M.bind mz fun z => M.bind (M.opt (D.nkey (ek k))) fun n => M.pure ((nVal d n).getD z)) := fun S =>
  RS.bind (ha S) fun d S1 => RS.bind (hb S1) fun k S2 => RS.bind (hc S2) fun z S3 => by
    unfold M.opt M.bind M.pure
    simp only [oTgetD]
    cases q : D.nkey (ek k) with
    | none => exact trivial
    | some n =>
      simp only [Res.bind, valN_e, Option.map_some]
      cases q2 : nVal d n <;> exact rfl
end
section
variable {α β γ κ σ σ' τ τ' : Type}
variable {E : σ → Env} {L : τ → Env} {ER : γ → Val → Prop} {X : Env → Prop} {ρ ρ1 : Env} {rest : Stm} {i : Nat} {ek : κ → D} {ev : β → D} {ce ci : Ex}
theorem t_putN {xs : NMap β} {m : M β} {mj : M κ} {k : NMap β → M (O σ τ γ)} {ρ2 : NMap β → Env} (h : Nth ρ i (.ow (eDit ev xs))) (hc : Xv ev ce ρ m) (hi : Xv ek ci ρ mj) (hX : X ρ) (hs : ∀ a, SetR ρ i (.ow (eDit ev a)) (ρ2 a)) (hk : ∀ a, Sm E L ER X rest (ρ2 a) (k a)) : Sm E L ER X (sSeq (sPutN i ci ce) rest) ρ (M.bind m fun x => M.bind mj fun j => M.bind (M.opt (D.nkey (ek j))) fun n => M.bind (M.opt (nPutL xs n x)) k) := ⟨fun S => by
  have q := hc S
  unfold M.bind Res.bind
  cases e : m S with
  | ok z S' =>
    simp only [e, RS] at q ⊢
    have q1 := hi S'
    cases e1 : mj S' with
    | ok j S1 =>
      simp only [e1, RS] at q1 ⊢
      unfold M.opt nPutL
      cases q3 : D.nkey (ek j) with
      | none => exact trivial
      | some n =>
        by_cases hl : xs.length < 1000000
        · have := (hk (nPut xs n z)).run S1
          simp only [hl, if_true]
          have hs' := (hs (nPut xs n z)).eq
          simp only [eDit, ← putND_e] at hs'
          simp only [sSeq, sPutN, h.eq, eDit, sEx, q, q1, q3, List.length_map, hl, if_true, hs']
          exact this
        · simp only [hl, if_false]; exact trivial
    | exc n S1 =>
      simp only [e1, RS] at q1 ⊢
      exact ⟨ρ, by simp only [sSeq, sPutN, h.eq, eDit, sEx, q, q1], hX⟩
    | stuck => exact trivial
  | exc n S' =>
    simp only [e, RS] at q ⊢
    exact ⟨ρ, by simp only [sSeq, sPutN, h.eq, eDit, sEx, q], hX⟩
  | stuck => exact trivial⟩
theorem nkey_2s (a b : Str) : D.nkey (eP2 D.str D.str (a, b)) = some (.tup [.text a, .text b]) := by
  simp [eP2, D.nkey, D.nk, D.nks, NestedKey.depth, NestedKey.depthAll]
theorem nVal_put (kvs : NMap β) (k j : NestedKey) (v : β) : nVal (nPut kvs k v) j = if j = k then some v else nVal kvs j := by
  unfold nPut
  split
  · rename_i h
    unfold nHas at h
    unfold nVal
    induction kvs with
    | nil => simp at h
    | cons p r ih =>
      rw [List.map_cons, List.find?_cons, List.find?_cons]
      by_cases hp : p.1 = k
      · by_cases hj : j = k
        · subst hj; simp [hp]
        · have : ¬ p.1 = j := fun z => hj (z.symm.trans hp)
          have hkj : ¬ k = j := fun z => hj z.symm
          simp only [hp, if_true, hkj, decide_false, hj, if_false]
          by_cases hr : (r.any fun p => decide (p.1 = k)) = true
          · simpa [hj] using ih hr
          · have : r.map (fun p => if p.1 = k then (p.1, v) else p) = r := by
              rw [List.map_congr_left (g := id)]
              · simp
              · intro q hq
                have : ¬ q.1 = k := fun z => hr (List.any_eq_true.mpr ⟨q, hq, by simp [z]⟩)
                simp [this]
            rw [this]
      · have hr : (r.any fun p => decide (p.1 = k)) = true := by simpa [hp] using h
        simp only [hp, if_false]
        by_cases hpj : p.1 = j
        · have : ¬ j = k := fun z => hp (hpj.trans z)
          simp [hpj, this]
        · simp only [hpj, decide_false]
          exact ih hr
  · rename_i h
    unfold nVal
    rw [List.find?_append]
    unfold nHas at h
    by_cases hj : j = k
    · subst hj
      have : (kvs.find? fun p => decide (p.1 = j)) = none := by
        rw [List.find?_eq_none]
        intro p hp hz
        exact h (List.any_eq_true.mpr ⟨p, hp, hz⟩)
      simp [this]
    · have : ¬ k = j := fun z => hj z.symm
      simp [hj, this]
theorem nHas_val (kvs : NMap β) (k : NestedKey) : nHas kvs k = (nVal kvs k).isSome := by
  unfold nHas nVal
  induction kvs with
  | nil => rfl
  | cons p r ih =>
    rw [List.any_cons, List.find?_cons]
    by_cases h : p.1 = k
    · simp [h]
    · simpa [h] using ih
end
end PM
set_option maxHeartbeats 1000000
/-! TY9: list(reversed(..)), typed. -/
namespace PM
open PySem PySem.Spec PyProof.Rows L2
section
variable {α : Type} {ρ : Env} {ca : Ex} {e : α → D}
theorem p_lstRev {xs : List α} (h : Pv (eL e) ca ρ xs) : Pv (eL e) (eLstRev ca) ρ xs.reverse := fun S => by
  unfold eLstRev
  rw [h S]
  simp only [Res.bind, eL, List.map_reverse]
theorem x_lstRev {m : M (List α)} (h : Xv (eL e) ca ρ m) : Xv (eL e) (eLstRev ca) ρ (M.bind m fun xs => M.pure xs.reverse) := fun S => RS.bind (h S) fun xs S1 => by
  unfold M.pure
  simp only [eL, ← List.map_reverse]
  exact rfl
end
end PM
set_option maxHeartbeats 1000000
/-! TY10: join, split, typed. -/
namespace PM
open PySem PySem.Spec PyProof.Rows L2
section
variable {α : Type} {ρ : Env} {co ce : Ex}
def gJoin (a : Str) (ys : List Str) : Option Str := if (ys.map (·.length)).sum + ys.length * a.length ≤ 16777216 then some (Txt.join a ys) else none
theorem joinD_g (a : Str) (ys : List Str) : joinD a (ys.map D.str) = (gJoin a ys).map D.str := by
  unfold joinD gJoin
  rw [strsOf_map, Option.bind_some]
  split <;> rfl
theorem x_joinL {mo : M Str} {me : M (List Str)} (ho : Xv D.str co ρ mo) (he : Xv (eL D.str) ce ρ me) : Xv D.str (eJoin co ce) ρ (M.bind mo fun a => M.bind me fun ys => M.opt (gJoin a ys)) := fun S =>
  RS.bind (ho S) fun a S1 => RS.bind (he S1) fun ys S2 => by
    unfold M.opt
    simp only [eL, joinD_g]
    cases gJoin a ys with
    | none => exact trivial
    | some z => exact rfl
theorem x_joinTL {mo : M Str} {me : M (List Str)} (ho : Xv D.str co ρ mo) (he : Xv (eTL D.str) ce ρ me) : Xv D.str (eJoin co ce) ρ (M.bind mo fun a => M.bind me fun ys => M.opt (gJoin a ys)) := fun S =>
  RS.bind (ho S) fun a S1 => RS.bind (he S1) fun ys S2 => by
    unfold M.opt
    simp only [eTL, joinD_g]
    cases gJoin a ys with
    | none => exact trivial
    | some z => exact rfl
theorem x_split {mo me : M Str} (ho : Xv D.str co ρ mo) (he : Xv D.str ce ρ me) : Xv (eL D.str) (eSplit co ce) ρ (M.bind mo fun a => M.bind me fun b => M.opt (splitD a b)) := fun S =>
  RS.bind (ho S) fun a S1 => RS.bind (he S1) fun b S2 => by
    unfold M.opt
    simp only [eL]
    cases splitD a b with
    | none => exact trivial
    | some z => exact rfl
end
section
variable {α β γ σ τ : Type} {E : σ → Env} {L : τ → Env} {ER : γ → Val → Prop} {X : Env → Prop} {ρ : Env}
end
end PM
set_option maxHeartbeats 1000000
/-! TY11: lists of owned lists, typed. -/
namespace PM
open PySem PySem.Spec PyProof.Rows L2
abbrev eNL {α : Type} (f : α → D) : List (List α) → D := fun xss => .nst (xss.map (eL f))
theorem SetR.some : ∀ {l l' : Env} {n : Nat} {s : Slot}, SetR l n s l' → ∃ a, l[n]? = some a
  | _, _, _, _, .z => ⟨_, rfl⟩
  | _, _, _, _, .s h => by
    obtain ⟨a, e⟩ := SetR.some h
    exact ⟨a, by simpa using e⟩
section
variable {α β γ σ σ' τ τ' : Type} {en : α → D} {eb : β → D} {ρ ρ1 ρj ρi : Env} {ce c : Ex} {tc : Tx} {i j : Nat} {xss : List (List α)}
theorem p_nst0 {e : α → D} : Pv (eNL e) eNst0 ρ ([] : List (List α)) := fun _ => rfl
theorem p_tLend {b : Bool} (h : Nth ρ i (.ow (eNL en xss))) (hs : SetR ρ i (.fr (eL (eL en) xss)) ρ1) (k : Pv id tc ρ1 b) : Pv id (tLend i tc) ρ b := fun S => by
  unfold tLend lendE
  simp only [h.eq, hs.eq]
  exact k S
theorem x_tLend {m : M Bool} (h : Nth ρ i (.ow (eNL en xss))) (hs : SetR ρ i (.fr (eL (eL en) xss)) ρ1) (k : Xv id tc ρ1 m) : Xv id (tLend i tc) ρ m := fun S => by
  unfold tLend lendE
  simp only [h.eq, hs.eq]
  exact k S
theorem x_flat {m : M (List (List α))} (h : Xv (eNL en) c ρ m) : Xv (eL (eL en)) (eFlat c) ρ m := fun S => by
  have h := h S
  unfold eFlat Res.bind
  cases q : m S with
  | ok a S' => simp only [q, RS] at h ⊢; simp only [h, dFlat]
  | exc n S' => simp only [q, RS] at h ⊢; simp only [h]
  | stuck => trivial
theorem nlc_core {tg : Tgt} {tt : Tx} {elt : Ex} {ρ : Env} {ei : γ → D} {t : γ → M Bool} {f : γ → M (List α)} {ρ1 : γ → Env} (ht : ∀ x, tg (ei x) ρ = some (ρ1 x)) (htt : ∀ x, Xv id tt (ρ1 x) (t x)) (he : ∀ x, Xv (eL en) elt (ρ1 x) (f x)) : ∀ (xs : List γ) (acc : List (List α)) (S : Store), RS (eNL en) (lcNS tg tt elt ρ (xs.map ei) (acc.map (eL en)) S) (lcO t f xs acc S)
  | [], acc, S => rfl
  | x :: xs, acc, S => by
    simp only [List.map_cons, lcNS, ht x]
    unfold lcO M.bind Res.bind M.noexc
    have h1 := htt x S
    cases q1 : t x S with
    | ok k S1 =>
      simp only [q1, RS, id] at h1
      rw [h1]
      simp only []
      cases k with
      | true =>
        simp only [if_true]
        have h2 := he x S1
        cases q2 : f x S1 with
        | ok y S2 =>
          simp only [q2, RS] at h2
          simp only [q2]
          rw [h2]
          simp only [List.length_map, eL]
          split
          · have := nlc_core ht htt he xs (acc ++ [y]) S2
            rw [List.map_append] at this
            exact this
          · exact trivial
        | exc n S2 => simp only [q2]; exact trivial
        | stuck => simp only [q2]; exact trivial
      | false => exact nlc_core ht htt he xs acc S1
    | exc n S1 => exact trivial
    | stuck => exact trivial
section
variable {own : List Nat} {ci : Ix} {tg : Tgt} {tt : Tx} {elt : Ex} {ei : γ → D} {t : γ → M Bool} {fe : γ → M (List α)} {ρw : Env} {ρx : γ → Env}
theorem x_NLc' {mi : M (List γ)} (hi : Xv (List.map ei) ci ρ mi) (hw : WipeR ρ own ρw) (ht : ∀ x, tg (ei x) ρw = some (ρx x)) (htt : ∀ x, Xv id tt (ρx x) (t x)) (he : ∀ x, Xv (eL en) elt (ρx x) (fe x)) : Xv (eNL en) (eNLc own ci tg tt elt) ρ (M.bind mi fun xs => lcO t fe xs []) := fun S => by
  unfold eNLc
  rw [hw.eq]
  exact RS.bind (hi S) fun xs S1 => nlc_core ht htt he xs [] S1
theorem p_NLc {xs : List γ} (hi : Pv (List.map ei) ci ρ xs) (hw : WipeR ρ own ρw) (ht : ∀ x, tg (ei x) ρw = some (ρx x)) (htt : ∀ x, Xv id tt (ρx x) (t x)) (he : ∀ x, Xv (eL en) elt (ρx x) (fe x)) : Xv (eNL en) (eNLc own ci tg tt elt) ρ (lcO t fe xs []) := fun S => by
  unfold eNLc
  rw [hw.eq, hi S]
  exact nlc_core ht htt he xs [] S
end
variable {E : σ → Env} {L : τ → Env} {ER : β → Val → Prop} {X : Env → Prop} {rest : Stm} {k : List (List α) → M (O σ τ β)}
theorem t_napp {m : M (List α)} {ρ2 : List (List α) → Env} (h : Nth ρ i (.ow (eNL en xss))) (hc : Xv (eL en) ce ρ m) (hX : X ρ) (hs : ∀ a, SetR ρ i (.ow (eNL en a)) (ρ2 a)) (hk : ∀ a, Sm E L ER X rest (ρ2 a) (k a)) : Sm E L ER X (sSeq (sNApp i ce) rest) ρ (M.bind m fun x => M.bind (M.opt (gApp xss x)) k) := ⟨fun S => by
  have q := hc S
  unfold M.bind Res.bind
  cases e : m S with
  | ok z S' =>
    simp only [e, RS] at q ⊢
    unfold M.opt gApp
    by_cases hl : xss.length < 1000000
    · have := (hk (xss ++ [z])).run S'
      simp only [hl, if_true]
      have hs' := (hs (xss ++ [z])).eq
      simp only [eNL, eL, List.map_append, List.map_cons, List.map_nil] at hs'
      simp only [sSeq, sNApp, h.eq, eNL, eL, sEx, q, Res.bind, List.length_map, hl, if_true, hs']
      exact this
    · simp only [hl, if_false]; exact trivial
  | exc n S' =>
    simp only [e, RS] at q ⊢
    exact ⟨ρ, by simp only [sSeq, sNApp, h.eq, eNL, sEx, q, Res.bind], hX⟩
  | stuck => exact trivial⟩
/-- each list gets one more -/
def appEach (m : M α) : List (List α) → M (List (List α))
  | [] => M.pure []
  | xs :: r => M.bind m fun x => M.bind (M.opt (gApp xs x)) fun ys => M.bind (appEach m r) fun zs => M.pure (ys :: zs)
theorem appEach_core {m : M α} {ρf : List (List α) → Env} (hf : ∀ a b, (ρf a).set i (.ow (eNL en b)) = ρf b) (hc : ∀ a, Xv en ce (ρf a) m) (hX : ∀ a, X (ρf a)) : ∀ (todo done : List (List α)) (S : Store), SR1 (fun r => ρf (done ++ r)) L ER X (nstA i ce (done.map (eL en)) (todo.map (eL en)) (ρf (done ++ todo)) S) ((appEach m todo S).bind fun r S => (.ok (.nx r) S : Res (O (List (List α)) τ β)))
  | [], done, S => rfl
  | xs :: r, done, S => by
    have q := hc (done ++ xs :: r) S
    simp only [List.map_cons, eL, nstA, sEx]
    unfold appEach M.bind Res.bind
    cases e : m S with
    | stuck => trivial
    | exc n S' =>
      simp only [e, RS] at q ⊢
      exact ⟨_, by rw [q], hX _⟩
    | ok z S' =>
      simp only [e, RS] at q ⊢
      rw [q]
      simp only [List.length_map]
      unfold M.opt gApp
      by_cases hl : xs.length < 1000000
      · simp only [hl, if_true]
        have ih := appEach_core hf hc hX r (done ++ [xs ++ [z]]) S'
        have e1 : List.set (ρf (done ++ xs :: r)) i (.ow (.nst (done.map (eL en) ++ D.lst (xs.map en ++ [en z]) :: r.map (eL en)))) = ρf (done ++ [xs ++ [z]] ++ r) := by
          have := hf (done ++ xs :: r) (done ++ [xs ++ [z]] ++ r)
          simp only [eNL, eL, List.map_append, List.map_cons, List.map_nil, List.append_assoc, List.singleton_append] at this ⊢
          exact this
        have e2 : (done ++ [xs ++ [z]]).map (eL en) = done.map (eL en) ++ [D.lst (xs.map en ++ [en z])] := by simp [eL]
        rw [e2] at ih
        rw [e1]
        cases q2 : appEach m r S' with
        | stuck => trivial
        | exc n S2 =>
          simp only [q2, Res.bind] at ih ⊢
          exact ih
        | ok zs S2 =>
          simp only [q2, Res.bind, M.pure] at ih ⊢
          simp only [SR1, List.append_assoc, List.singleton_append] at ih ⊢
          exact ih
      · simp only [hl, if_false]; exact trivial
theorem t_forNA {m : M α} {ρf : List (List α) → Env} (h : Nth ρ i (.ow (eNL en xss))) (hj : SetR ρ j .un ρj) (h0 : ρj = ρf xss) (hs : ∀ a b, SetR (ρf a) i (.ow (eNL en b)) (ρf b)) (hc : ∀ a, Xv en ce (ρf a) m) (hX : ∀ a, X (ρf a)) (hk : ∀ a, Sm E L ER X rest (ρf a) (k a)) : Sm E L ER X (sSeq (sForNA i j ce) rest) ρ (M.bind (appEach m xss) k) := ⟨fun S => by
  obtain ⟨aj, ej⟩ := hj.some
  have := appEach_core (i := i) (ce := ce) (L := L) (ER := ER) (X := X) (fun a b => (hs a b).eq) hc hX xss [] S
  simp only [List.map_nil, List.nil_append] at this
  unfold M.bind Res.bind
  have e0 : sForNA i j ce ρ S = nstA i ce [] (xss.map (eL en)) (ρf xss) S := by
    unfold sForNA
    rw [h.eq, ej, hj.eq, h0]
  simp only [sSeq, e0]
  cases q : appEach m xss S with
  | stuck => trivial
  | exc n S2 =>
    simp only [q, Res.bind, SR1] at this ⊢
    obtain ⟨ρ', h1, h2⟩ := this
    exact ⟨ρ', by rw [h1], h2⟩
  | ok zs S2 =>
    simp only [q, Res.bind, SR1] at this ⊢
    rw [this]
    exact (hk zs).run S2⟩
theorem nstC_core {ρf : List (List α) → Env} (hf : ∀ a b, (ρf a).set i (.ow (eNL en b)) = ρf b) : ∀ (todo done : List (List α)) (S : Store), nstC i (done.map (eL en)) (todo.map (eL en)) (ρf (done ++ todo)) S = .nx (ρf (done ++ todo.map fun _ => [])) S
  | [], done, S => rfl
  | xs :: r, done, S => by
    have ih := nstC_core hf r (done ++ [[]]) S
    have e1 := hf (done ++ xs :: r) (done ++ [[]] ++ r)
    simp only [List.map_cons, nstC]
    simp only [eNL, eL, List.map_append, List.map_cons, List.map_nil, List.append_assoc, List.singleton_append] at ih e1 ⊢
    rw [e1]
    exact ih
theorem t_forNC {ρf : List (List α) → Env} (h : Nth ρ i (.ow (eNL en xss))) (hj : SetR ρ j .un ρj) (h0 : ρj = ρf xss) (hs : ∀ a b, SetR (ρf a) i (.ow (eNL en b)) (ρf b)) (hk : ∀ a, Sm E L ER X rest (ρf a) (k a)) : Sm E L ER X (sSeq (sForNC i j) rest) ρ (M.bind (M.pure (xss.map fun _ => ([] : List α))) k) := ⟨fun S => by
  obtain ⟨aj, ej⟩ := hj.some
  have := nstC_core (i := i) (fun a b => (hs a b).eq) xss [] S
  simp only [List.map_nil, List.nil_append] at this
  rw [M.pure_bind]
  have e0 : sForNC i j ρ S = nstC i [] (xss.map (eL en)) (ρf xss) S := by
    unfold sForNC
    rw [h.eq, ej, hj.eq, h0]
  simp only [sSeq, e0, this]
  exact (hk _).run S⟩
/-- whether one of them shows it -/
def anyEach (t : List α → M Bool) : List (List α) → M Bool
  | [] => M.pure false
  | x :: r => M.bind (t x) fun b => if b = true then M.pure true else anyEach t r
def AE (bv : Bool) (ρ : Env) (r : SR) (t : Res Bool) : Prop := match t with
  | .ok true S' => r = .rt (.fr (.bl bv)) S'
  | .ok false S' => r = .nx ρ S'
  | .exc n S' => r = .exc n ρ S'
  | .stuck => True
theorem anyEach_core {ds0 : List D} {t : List α → M Bool} {ρx : List α → Env} {bv : Bool} (hX : X ρ) (hx : ∀ x, ((ρ.set i (.fr (.lst ds0))).set j (.fr (eL en x))) = ρx x) (ht : ∀ x, Xv id tc (ρx x) (t x)) : ∀ (xs : List (List α)) (S : Store), AE bv ρ (nstK i j tc bv ds0 (xs.map (eL en)) ρ S) (anyEach t xs S)
  | [], S => rfl
  | x :: r, S => by
    have q := ht x S
    simp only [List.map_cons, nstK, hx x]
    unfold anyEach M.bind Res.bind
    cases e : t x S with
    | stuck => trivial
    | exc n S' =>
      simp only [e, RS] at q ⊢
      rw [q]
      exact rfl
    | ok b S' =>
      simp only [e, RS, id] at q ⊢
      rw [q]
      cases b with
      | true => simp only [if_true]; exact rfl
      | false =>
        simp only [Bool.false_eq_true, if_false]
        exact anyEach_core hX hx ht r S'
theorem t_forNK {t : List α → M Bool} {k : M (O σ τ β)} {ρx : List α → Env} {bv : Bool} {b0 : β} (h : Nth ρ i (.ow (eNL en xss))) (hj : SetR ρ j .un ρj) (hi : SetR ρj i (.fr (eL (eL en) xss)) ρi) (hx : ∀ x, SetR ρi j (.fr (eL en x)) (ρx x)) (ht : ∀ x, Xv id tc (ρx x) (t x)) (hX : X ρj) (hR : ER b0 (.fr (.bl bv))) (hk : Sm E L ER X rest ρj k) : Sm E L ER X (sSeq (sForNK i j tc bv) rest) ρ (M.bind (anyEach t xss) fun b => if b = true then M.pure (.rt b0) else k) := ⟨fun S => by
  obtain ⟨aj, ej⟩ := hj.some
  have := anyEach_core (i := i) (j := j) (tc := tc) (bv := bv) (ds0 := xss.map (eL en)) (X := X) hX (fun x => by rw [hi.eq]; exact (hx x).eq) ht xss S
  unfold M.bind Res.bind
  have e0 : sForNK i j tc bv ρ S = nstK i j tc bv (xss.map (eL en)) (xss.map (eL en)) ρj S := by
    unfold sForNK
    rw [h.eq, ej, hj.eq]
  simp only [sSeq, e0]
  cases q : anyEach t xss S with
  | stuck => trivial
  | exc n S2 =>
    simp only [q, AE] at this ⊢
    exact ⟨ρj, by rw [this], hX⟩
  | ok b S2 =>
    cases b with
    | true =>
      simp only [q, AE, if_true] at this ⊢
      rw [this]
      exact ⟨_, rfl, hR⟩
    | false =>
      simp only [q, AE, Bool.false_eq_true, if_false] at this ⊢
      rw [this]
      exact hk.run S2⟩
end
end PM
set_option maxHeartbeats 1000000
/-! TY12: borrowed lists of lists, typed. -/
namespace PM
open PySem PySem.Spec PyProof.Rows L2
theorem set_same {ρ : Env} {i : Nat} {s : Slot} (h : ρ[i]? = some s) : ρ.set i s = ρ := List.ext_getElem? fun k => by
  by_cases q : k = i
  · subst q
    rw [List.getElem?_set_self (List.getElem?_eq_some_iff.mp h).1, h]
  · rw [List.getElem?_set_ne (Ne.symm q)]
section
variable {α β : Type} {eb : β → D} {ρ ρ1 ρ2 ρw : Env} {c : Ex} {tc : Tx} {i j : Nat} {v : D}
theorem x_tLendB {m : M Bool} (h : Nth ρ i (.bo v)) (h1 : SetR ρ i (.fr (dFlat v)) ρ1) (h2 : SetR ρ i (.bo (dFlat v)) ρ2) (k1 : Xv id tc ρ1 m) (k2 : Xv id tc ρ2 m) : Xv id (tLendB i tc) ρ m := fun S => by
  have e0 := h.eq
  have e1 := h1.eq
  have e2 := h2.eq
  unfold tLendB
  rw [e0]
  cases v with
  | nst ds =>
    simp only [dFlat] at e1
    simp only [e1]
    exact k1 S
  | _ =>
    simp only [dFlat] at e2
    rw [set_same e0] at e2
    rw [e2]
    exact k2 S
theorem x_eLendB {e : α → D} (hs : ∀ a, (e a).scal = true) {m : M α} (h : Nth ρ i (.bo v)) (h1 : SetR ρ i (.fr (dFlat v)) ρ1) (h2 : SetR ρ i (.bo (dFlat v)) ρ2) (k1 : Xv e c ρ1 m) (k2 : Xv e c ρ2 m) : Xv e (eLendB i c) ρ m := fun S => by
  have e0 := h.eq
  have e1 := h1.eq
  have e2 := h2.eq
  unfold eLendB
  rw [e0]
  cases v with
  | nst ds =>
    simp only [dFlat] at e1
    simp only [e1]
    have k := k1 S
    unfold Res.bind
    cases q : m S with
    | ok a S' => simp only [q, RS] at k ⊢; simp only [k, hs a, if_true]
    | exc n S' => simp only [q, RS] at k ⊢; simp only [k]
    | stuck => trivial
  | _ =>
    simp only [dFlat] at e2
    rw [set_same e0] at e2
    rw [e2]
    exact k2 S
theorem x_LcB {own : List Nat} {tt : Tx} {elt : Ex} {t : D → M Bool} {fe : D → M β} {ρx ρy : D → Env} (h : Nth ρ i (.bo v)) (hw : WipeR ρ own ρw) (hx : ∀ x, SetR ρw j (.fr x) (ρx x)) (hy : ∀ x, SetR ρw j (.bo x) (ρy x)) (t1 : ∀ x, Xv id tt (ρx x) (t x)) (t2 : ∀ x, Xv id tt (ρy x) (t x)) (k1 : ∀ x, Xv eb elt (ρx x) (fe x)) (k2 : ∀ x, Xv eb elt (ρy x) (fe x)) :
    Xv (eL eb) (eLcB own i j tt elt) ρ (M.bind (M.opt (uL some (dFlat v))) fun xs => lcO t fe xs []) := by
  have e0 := h.eq
  have gen : dFlat v = v → Xv (eL eb) (eLc own (iB i) (gN j) tt elt) ρ (M.bind (M.opt (uL some (dFlat v))) fun xs => lcO t fe xs []) := fun e => by
    rw [e]
    exact x_Lc' (ei := iN) (x_iBcastb (unL unAny) h) hw (fun x => tgN (hx x)) t1 k1
  intro S
  unfold eLcB
  rw [e0]
  cases v with
  | nst ds =>
    simp only [dFlat]
    rw [hw.eq]
    have : uL some (.lst ds) = some ds := by
      have := (unL unAny).told ds
      simpa [eL, iN] using this
    rw [this, M.opt_some, M.pure_bind]
    have := lc_core (tg := gNb j) (ei := iN) (ρ := ρw) (fun x => congrArg some (hy x).eq) t2 k2 ds [] S
    simpa [iN] using this
  | _ => exact gen rfl S
end
end PM
set_option maxHeartbeats 4000000
namespace PM
open PySem PySem.Spec PyProof.Rows L2
abbrev D.k_LETTERS : D := (.str "abcdefghijklmnopqrstuvwxyz")
abbrev D.k_MOST_LETTERS : D := (.int 8)
abbrev D.k_MOST_LINES : D := (.int 12)
def fl : FTab := fun c f => (c == 12 && f == "lines") || (c == 12 && f == "wide")
theorem fl_12_lines : fl 12 "lines" = true := by decide +kernel
theorem fl_12_wide : fl 12 "wide" = true := by decide +kernel
def sub : STab := fun c t => if c = 12 ∧ t = 9 then some true else none
def clsN : List Str := ["ShrinkError", "NoThing", "NoPlace", "NoFault", "NoRule", "Spent", "Healthy", "NoText", "NoRow", "Thing", "Row", "Forest", "Table", "Fault", "Has", "Many", "Pair", "Before", "Under", "Beside", "Group", "All", "Any", "Not", "Asker", "Shrinking", "Desk"]
def hit_ShrinkError : HTab := fun n => if n = 1 then some true else none
theorem hit_ShrinkError_NoThing : hit_ShrinkError 1 = some true := by rfl
def isx_NoThing : HTab := fun n => if n = 1 then some true else none
theorem isx_NoThing_NoThing : isx_NoThing 1 = some true := by rfl
def isx_NoPlace : HTab := fun n => if n = 1 then some false else none
theorem isx_NoPlace_NoThing : isx_NoPlace 1 = some false := by rfl
def isx_NoFault : HTab := fun n => if n = 1 then some false else none
theorem isx_NoFault_NoThing : isx_NoFault 1 = some false := by rfl
def isx_NoRule : HTab := fun n => if n = 1 then some false else none
theorem isx_NoRule_NoThing : isx_NoRule 1 = some false := by rfl
def isx_Spent : HTab := fun n => if n = 1 then some false else none
theorem isx_Spent_NoThing : isx_Spent 1 = some false := by rfl
def isx_Healthy : HTab := fun n => if n = 1 then some false else none
theorem isx_Healthy_NoThing : isx_Healthy 1 = some false := by rfl
def isx_NoText : HTab := fun n => if n = 1 then some false else none
theorem isx_NoText_NoThing : isx_NoText 1 = some false := by rfl
def isx_NoRow : HTab := fun n => if n = 1 then some false else none
theorem isx_NoRow_NoThing : isx_NoRow 1 = some false := by rfl
def isx_ValueError : HTab := fun n => if n = 1 then some true else none
theorem isx_ValueError_NoThing : isx_ValueError 1 = some true := by rfl
def b1_p_is_mark : Stm := sSeq (sIf (eTr (eBin oNin (eB 1) (eC D.k_LETTERS))) (sSeq (sRet (eC (.bl false))) (sNx)) (sNx)) (sSeq (sWipe [1]) (sNx))
def c_p_is_mark : Stm := sSeq (sIf (tOrD (tNotD (eTr (eIsT "str" (eB 0)))) (tOrD (eTr (eBin oEq (eB 0) (eC (.str "")))) (eTr (eBin oGt (eFn fLen (aCons (eB 0) (aNil))) (eC D.k_MOST_LETTERS))))) (sSeq (sRet (eC (.bl false))) (sNx)) (sNx)) (sSeq (sWipe []) (sSeq (sFor (iS (eB 0)) (gN 1) b1_p_is_mark) (sSeq (sRet (eC (.bl true))) (sNx))))
def m_p_is_mark : Fn := mkFn [true] 1 c_p_is_mark
def b1_p_are_marks : Stm := sSeq (sIf (tNotD (eTr (eCall m_p_is_mark (aCons (eB 2) (aNil))))) (sSeq (sRet (eC (.bl false))) (sNx)) (sNx)) (sSeq (sWipe [1, 2]) (sNx))
def c_p_are_marks : Stm := sSeq (sIf (tOrD (tNotD (eTr (eIsT "list" (eB 0)))) (eTr (eBin oGt (eFn fLen (aCons (eB 0) (aNil))) (eB 1)))) (sSeq (sRet (eC (.bl false))) (sNx)) (sNx)) (sSeq (sWipe [1]) (sSeq (sFor (iB 0) (gN 2) b1_p_are_marks) (sSeq (sRet (eC (.bl true))) (sNx))))
def m_p_are_marks : Fn := mkFn [true, true] 1 c_p_are_marks
def b1_p_are_lines : Stm := sSeq (sIf (tOrD (tNotD (eTr (eCall m_p_are_marks (aCons (eB 1) (aCons (eC D.k_MOST_LINES) (aNil)))))) (eTr (eBin oNe (eFn fLen (aCons (eB 1) (aNil))) (eFn fLen (aCons (eBin oIx (eB 0) (eC (.int 0))) (aNil)))))) (sSeq (sRet (eC (.bl false))) (sNx)) (sNx)) (sSeq (sWipe [1]) (sNx))
def c_p_are_lines : Stm := sSeq (sIf (tOrD (tNotD (eTr (eIsT "list" (eB 0)))) (eTr (eBin oGt (eFn fLen (aCons (eB 0) (aNil))) (eC D.k_MOST_LINES)))) (sSeq (sRet (eC (.bl false))) (sNx)) (sNx)) (sSeq (sWipe []) (sSeq (sFor (iB 0) (gN 1) b1_p_are_lines) (sSeq (sRet (eC (.bl true))) (sNx))))
def m_p_are_lines : Fn := mkFn [true] 1 c_p_are_lines
def c_p_Table_init : Stm := sSeq (sIf (tLendB 1 (tNotD (eTr (eCall m_p_are_lines (aCons (eB 1) (aNil)))))) (sSeq (sRaise 1) (sNx)) (sNx)) (sSeq (sFldMe fl 0 "lines" (eLcB [2] 1 2 (tYesD) (eFn fList (aCons (eB 2) (aNil))))) (sSeq (sFldMe fl 0 "wide" (eC (.int 0))) (sSeq (sIf (tLendB 1 (eTr (eBin oGt (eFn fLen (aCons (eB 1) (aNil))) (eC (.int 0))))) (sSeq (sFldMe fl 0 "wide" (eLendB 1 (eFn fLen (aCons (eBin oIx (eB 1) (eC (.int 0))) (aNil))))) (sNx)) (sNx)) (sSeq (sWipe [1, 2]) (sNx)))))
def m_p_Table_init : Ini := mkIni [true] 1 c_p_Table_init
def c_p_Table_many : Stm := sSeq (sRet (eBin oAdd (eFn fLen (aCons (eFld fl "lines" (eB 0)) (aNil))) (eFld fl "wide" (eB 0)))) (sNx)
def m_p_Table_many : Fn := mkFn [true] 0 c_p_Table_many
def b1_p_Table_spots : Stm := sSeq (sSetN 1 (eBin oCat (eB 1) (eB 2))) (sSeq (sWipe [2]) (sNx))
def c_p_Table_spots : Stm := sSeq (sSetN 1 (eLst (aNil))) (sSeq (sWipe []) (sSeq (sFor (iL (eFld fl "lines" (eB 0))) (gN 2) b1_p_Table_spots) (sSeq (sRetV 1) (sNx))))
def m_p_Table_spots : Fn := mkFn [true] 2 c_p_Table_spots
def c_p_Table_form : Stm := sSeq (sRet (eTup (aCons (eC (.str "table")) (aCons (eFld fl "wide" (eB 0)) (aCons (eFn fTuple (aCons (eLc [1] (iL (eFld fl "lines" (eB 0))) (gN 1) (tYesD) (eFn fTuple (aCons (eB 1) (aNil)))) (aNil))) (aNil)))))) (sNx)
def m_p_Table_form : Fn := mkFn [true] 1 c_p_Table_form
def c_l_cell_at : Stm := sSeq (sIf (eTr (eBin oLt (eB 1) (eFn fLen (aCons (eB 0) (aNil))))) (sSeq (sRet (eBin oIx (eB 0) (eB 1))) (sNx)) (sNx)) (sSeq (sRet (eC (.int 0))) (sNx))
def m_l_cell_at : Fn := mkFn [true, true] 0 c_l_cell_at
def c_l_mix : Stm := sSeq (sSet 2 (eBin oMod (eBin oMulI (eBin oAdd (eBin oAdd (eBin oAdd (eBin oMod (eB 0) (eBin oPow (eC (.int 10)) (eC (.int 20)))) (eBin oMulI (eC (.int 17)) (eB 1))) (eBin oMulI (eBin oMulI (eB 1) (eB 1)) (eB 1))) (eC (.int 5))) (eC (.int 48271))) (eC (.int 1000003)))) (sSeq (sRet (eBin oMod (eBin oMulI (eB 2) (eC (.int 69621))) (eC (.int 999983)))) (sNx))
def m_l_mix : Fn := mkFn [true, true] 1 c_l_mix
def c_l_whole : Stm := sSeq (sRet (eAndD (eIsT "int" (eB 0)) (eNotD (eIsT "bool" (eB 0))))) (sNx)
def m_l_whole : Fn := mkFn [true] 0 c_l_whole
def c_l_how_many : Stm := sSeq (sIf (eTr (eBin oEq (eBin oMod (eBin oDiv (eB 0) (eC (.int 6))) (eC (.int 8))) (eC (.int 5)))) (sSeq (sRet (eBin oAdd (eC (.int 7)) (eBin oMod (eBin oDiv (eB 0) (eC (.int 48))) (eC (.int 19))))) (sNx)) (sNx)) (sSeq (sRet (eBin oAdd (eC (.int 1)) (eBin oMod (eB 0) (eC (.int 6))))) (sNx))
def m_l_how_many : Fn := mkFn [true] 0 c_l_how_many
def c_l_marks : Stm := sSeq (sSet 2 (eC (.str "abcdefghijklmnopqrstuvwxyz"))) (sSeq (sSet 3 (eCut oCut (eC (.str "marksof")) (pNo) (pAt (eBin oMod (eB 0) (eC (.int 8)))))) (sSeq (sSet 4 (eBin oMod (eBin oDiv (eB 0) (eC (.int 8))) (eBin oAdd (eFn fLen (aCons (eB 3) (aNil))) (eC (.int 1))))) (sSeq (sSet 5 (eBin oMod (eBin oDiv (eB 0) (eC (.int 64))) (eC (.int 26)))) (sSeq (sSet 6 (eBin oAdd (eC (.int 1)) (eBin oMod (eBin oDiv (eB 0) (eC (.int 1664))) (eC (.int 8))))) (sSeq (sIf (eTr (eBin oGt (eB 1) (eC (.int 6)))) (sSeq (sSet 6 (eC (.int 1))) (sSeq (sWipe [0, 7]) (sNx))) (sSeq (sWipe [0, 7]) (sNx))) (sSeq (sRetN (eLc [7] (iR1 (aCons (eB 1) (aNil))) (gN 7) (tYesD) (eBin oAdd (eBin oAdd (eCut oCut (eB 3) (pNo) (pAt (eB 4))) (eBin oIx (eB 2) (eBin oMod (eBin oAdd (eB 5) (eBin oMulI (eB 7) (eB 6))) (eC (.int 26))))) (eCut oCut (eB 3) (pAt (eB 4)) (pNo))))) (sNx)))))))
def m_l_marks : Fn := mkFn [true, true] 6 c_l_marks
def c_l_pick : Stm := sSeq (sIf (eTr (eBin oGt (eFn fLen (aCons (eB 1) (aNil))) (eC (.int 7)))) (sSeq (sRet (eBin oIx (eB 1) (eBin oMod (eBin oAdd (eBin oMulI (eC (.int 5)) (eB 0)) (eBin oDiv (eB 0) (eC (.int 7)))) (eFn fLen (aCons (eB 1) (aNil)))))) (sNx)) (sNx)) (sSeq (sRet (eBin oIx (eB 1) (eBin oMod (eBin oMod (eB 0) (eC (.int 7))) (eFn fLen (aCons (eB 1) (aNil)))))) (sNx))
def m_l_pick : Fn := mkFn [true, true] 0 c_l_pick
def b1_l_lines : Stm := sSeq (sIf (eTr (eBin oLt (eFn fLen (aCons (eB 3) (aNil))) (eC (.int 12)))) (sSeq (sLm 3 lAppend (aCons (eLc [5] (iL (eCut oCut (eB 0) (pAt (eB 4)) (pAt (eBin oAdd (eB 4) (eB 2))))) (gN 5) (tYesD) (eCall m_l_pick (aCons (eB 5) (aCons (eB 1) (aNil))))) (aNil))) (sNx)) (sNx)) (sSeq (sWipe [4, 5]) (sNx))
def c_l_lines : Stm := sSeq (sSetN 3 (eLst (aNil))) (sSeq (sWipe []) (sSeq (sFor (iR3 (aCons (eC (.int 0)) (aCons (eBin oAdd (eBin oSub (eFn fLen (aCons (eB 0) (aNil))) (eB 2)) (eC (.int 1))) (aCons (eFn fMax2 (aCons (eC (.int 1)) (aCons (eB 2) (aNil)))) (aNil))))) (gN 4) b1_l_lines) (sSeq (sRetV 3) (sNx))))
def m_l_lines : Fn := mkFn [true, true, true] 3 c_l_lines
def c_l_classes : Stm := sSeq (sSetN 1 (eLst (aNil))) (sSeq (sIf (eTr (eIsX isx_NoThing (eB 0))) (sSeq (sLm 1 lAppend (aCons (eC (.str "NoThing")) (aNil))) (sSeq (sWipe []) (sNx))) (sSeq (sWipe []) (sNx))) (sSeq (sIf (eTr (eIsX isx_NoPlace (eB 0))) (sSeq (sLm 1 lAppend (aCons (eC (.str "NoPlace")) (aNil))) (sSeq (sWipe []) (sNx))) (sSeq (sWipe []) (sNx))) (sSeq (sIf (tOrD (eTr (eIsX isx_NoFault (eB 0))) (tOrD (eTr (eIsX isx_NoRule (eB 0))) (tOrD (eTr (eIsX isx_Spent (eB 0))) (eTr (eIsX isx_Healthy (eB 0)))))) (sSeq (sLm 1 lAppend (aCons (eC (.str "another")) (aNil))) (sSeq (sWipe []) (sNx))) (sSeq (sWipe []) (sNx))) (sSeq (sIf (tOrD (eTr (eIsX isx_NoText (eB 0))) (tOrD (eTr (eIsX isx_NoRow (eB 0))) (tNotD (eTr (eIsX isx_ValueError (eB 0)))))) (sSeq (sLm 1 lAppend (aCons (eC (.str "another")) (aNil))) (sSeq (sWipe [0]) (sNx))) (sSeq (sWipe [0]) (sNx))) (sSeq (sRetV 1) (sNx))))))
def m_l_classes : Fn := mkFn [true] 1 c_l_classes
def c_l_refused : Stm := sSeq (sTryT 1 hit_ShrinkError (sSeq (sDrop (eMake (m_p_Table_init 12) (aCons (eB 0) (aNil)))) (sSeq (sWipe [0, 1]) (sNx))) (sSeq (sRet (eBin oEq (eCallQ m_l_classes (aCons (eB 1) (aNil))) (eLst (aCons (eC (.str "NoThing")) (aNil))))) (sNx))) (sSeq (sRet (eC (.bl false))) (sNx))
def m_l_refused : Fn := mkFn [true] 1 c_l_refused
def c_l_wrong : Stm := sSeq (sSet 4 (eBin oMod (eB 2) (eC (.int 4)))) (sSeq (sIf (eTr (eBin oEq (eB 4) (eC (.int 0)))) (sSeq (sRet (eBin oIx (eLst (aCons (eC .non) (aCons (eC (.int 3)) (aCons (eC (.bl true)) (aCons (eC (.str "")) (aCons (eV 3) (aCons (eFn fTuple (aCons (eB 0) (aNil))) (aCons (eLst (aCons (eV 3) (aNil))) (aCons (eLst (aCons (eC .non) (aNil))) (aCons (eLst (aCons (eTup (aCons (eV 3) (aNil))) (aNil))) (aCons (eLst (aCons (eLst (aCons (eV 3) (aNil))) (aCons (eC .non) (aNil)))) (aNil)))))))))))) (eBin oMod (eBin oDiv (eB 2) (eC (.int 4))) (eC (.int 10))))) (sNx)) (sNx)) (sSeq (sSetN 5 (eLc [8] (iB 0) (gN 8) (tYesD) (eFn fList (aCons (eB 8) (aNil))))) (sSeq (sSet 6 (eBin oMod (eBin oDiv (eB 2) (eC (.int 40))) (eBin oAdd (eFn fLen (aCons (eB 0) (aNil))) (eC (.int 1))))) (sSeq (sIf (eTr (eBin oEq (eB 4) (eC (.int 1)))) (sSeq (sSet 7 (eBin oIx (eLst (aCons (eC (.str "")) (aCons (eC (.str "A")) (aCons (eC (.str "abcdefghi")) (aCons (eC .non) (aCons (eC (.int 1)) (aCons (eC (.bl false)) (aCons (eLst (aCons (eV 3) (aNil))) (aCons (eC (.str "a ")) (aCons (eC (.str "-")) (aCons (eC (.str "/")) (aNil)))))))))))) (eBin oMod (eBin oDiv (eB 2) (eC (.int 4))) (eC (.int 10))))) (sSeq (sSetN 8 (eLc [10] (iR1 (aCons (eFn fMax2 (aCons (eC (.int 1)) (aCons (eB 1) (aNil)))) (aNil))) (gN 10) (tYesD) (eV 3))) (sSeq (sSetIx 8 (eBin oMod (eBin oDiv (eB 2) (eC (.int 600))) (eFn fLen (aCons (eB 8) (aNil)))) (eV 7)) (sSeq (sIf (eTr (eBin oEq (eB 1) (eC (.int 0)))) (sSeq (sFz 8) (sSeq (sRetN (eLst (aCons (eV 8) (aNil)))) (sNx))) (sNx)) (sSeq (sFz 8) (sSeq (sLm 5 lInsert (aCons (eB 6) (aCons (eV 8) (aNil)))) (sSeq (sRetN (eCut oCutL (eB 5) (pNo) (pAt (eBin oAdd (eC (.int 12)) (eB 6))))) (sNx)))))))) (sNx)) (sSeq (sIf (tAndD (eTr (eBin oEq (eB 4) (eC (.int 2)))) (eTr (eBin oGt (eFn fLen (aCons (eB 0) (aNil))) (eC (.int 0))))) (sSeq (sSetIx 5 (eBin oMod (eBin oDiv (eB 2) (eC (.int 40))) (eFn fLen (aCons (eB 0) (aNil)))) (eLc [10] (iR1 (aCons (eBin oAdd (eB 1) (eC (.int 1))) (aNil))) (gN 10) (tYesD) (eV 3))) (sSeq (sIf (tOrD (eTr (eBin oEq (eFn fLen (aCons (eB 0) (aNil))) (eC (.int 1)))) (eTr (eBin oEq (eB 1) (eC (.int 12))))) (sSeq (sRetN (eLst (aCons (eLc [10] (iR1 (aCons (eC (.int 13)) (aNil))) (gN 10) (tYesD) (eV 3)) (aNil)))) (sNx)) (sNx)) (sSeq (sRetV 5) (sNx)))) (sNx)) (sSeq (sRetN (eLc [9] (iR1 (aCons (eC (.int 13)) (aNil))) (gN 9) (tYesD) (eLc [10] (iR1 (aCons (eFn fMin2 (aCons (eB 1) (aCons (eC (.int 12)) (aNil)))) (aNil))) (gN 10) (tYesD) (eV 3)))) (sNx)))))))
def m_l_wrong : Fn := mkFn [true, true, true, false] 7 c_l_wrong
def mt_form : MTab := fun c => if c = 12 then some m_p_Table_form else none
theorem mt_form_12 : mt_form 12 = some m_p_Table_form := rfl
def mt_many : MTab := fun c => if c = 12 then some m_p_Table_many else none
theorem mt_many_12 : mt_many 12 = some m_p_Table_many := rfl
def mt_spots : MTab := fun c => if c = 12 then some m_p_Table_spots else none
theorem mt_spots_12 : mt_spots 12 = some m_p_Table_spots := rfl
def b1_l_holds : Stm := sSeq (sSet 3 (eBin oAdd (eB 3) (eB 4))) (sSeq (sWipe [4, 5, 6, 7]) (sNx))
def c_l_holds : Stm := sSeq (sSet 2 (eC (.int 0))) (sSeq (sIf (eTr (eBin oGt (eFn fLen (aCons (eB 1) (aNil))) (eC (.int 0)))) (sSeq (sSet 2 (eFn fLen (aCons (eBin oIx (eB 1) (eC (.int 0))) (aNil)))) (sSeq (sWipe [3, 4, 5, 6, 7]) (sNx))) (sSeq (sWipe [3, 4, 5, 6, 7]) (sNx))) (sSeq (sSet 3 (eLst (aNil))) (sSeq (sWipe []) (sSeq (sFor (iB 1) (gN 4) b1_l_holds) (sSeq (sSet 5 (eMeth "many" mt_many (eB 0) aNil resF)) (sSeq (sIf (tOrD (tNotD (eTr (eIsO sub 9 (eB 0)))) (tOrD (tNotD (eTr (eCall m_l_whole (aCons (eB 5) (aNil))))) (eTr (eBin oNe (eB 5) (eBin oAdd (eFn fLen (aCons (eB 1) (aNil))) (eB 2)))))) (sSeq (sRet (eC (.bl false))) (sNx)) (sNx)) (sSeq (sSetN 6 (eMeth "spots" mt_spots (eB 0) aNil resN)) (sSeq (sIf (tOrD (tNotD (eTr (eIsT "list" (eB 6)))) (eTr (eBin oNe (eB 6) (eB 3)))) (sSeq (sRet (eC (.bl false))) (sNx)) (sNx)) (sSeq (sLm 6 lAppend (aCons (eC (.str "more")) (aNil))) (sSeq (sSet 7 (eMeth "form" mt_form (eB 0) aNil resF)) (sSeq (sIf (tOrD (tNotD (eTr (eIsT "tuple" (eB 7)))) (tOrD (eTr (eBin oNe (eFn fLen (aCons (eB 7) (aNil))) (eC (.int 3)))) (tNotD (eTr (eCall m_l_whole (aCons (eBin oIx (eB 7) (eC (.int 1))) (aNil))))))) (sSeq (sRet (eC (.bl false))) (sNx)) (sNx)) (sSeq (sRet (eAndD (eBin oEq (eB 7) (eTup (aCons (eC (.str "table")) (aCons (eV 2) (aCons (eFn fTuple (aCons (eLc [4] (iB 1) (gN 4) (tYesD) (eFn fTuple (aCons (eB 4) (aNil)))) (aNil))) (aNil)))))) (eBin oEq (eMeth "spots" mt_spots (eB 0) aNil resF) (eB 3)))) (sNx)))))))))))))
def m_l_holds : Fn := mkFn [true, true] 6 c_l_holds
def c_l_lines_by : Stm := sSeq (sSet 2 (eCall m_l_cell_at (aCons (eB 0) (aCons (eC (.int 2)) (aNil))))) (sSeq (sSet 3 (eBin oMod (eCall m_l_cell_at (aCons (eB 0) (aCons (eC (.int 4)) (aNil)))) (eC (.int 5)))) (sSeq (sIf (eTr (eBin oEq (eBin oMod (eB 2) (eC (.int 5))) (eC (.int 1)))) (sSeq (sSet 3 (eBin oMod (eBin oDiv (eB 2) (eC (.int 5))) (eC (.int 13)))) (sSeq (sRetN (eCallN m_l_lines (aCons (eLc [4] (iR1 (aCons (eBin oMulI (eB 3) (eBin oMod (eBin oDiv (eB 2) (eC (.int 65))) (eC (.int 13)))) (aNil))) (gN 4) (tYesD) (eCall m_l_mix (aCons (eBin oDiv (eB 2) (eC (.int 65))) (aCons (eB 4) (aNil))))) (aCons (eB 1) (aCons (eB 3) (aNil)))))) (sNx))) (sNx)) (sSeq (sIf (eTr (eBin oEq (eB 3) (eC (.int 0)))) (sSeq (sRetN (eLc [4] (iR1 (aCons (eBin oMod (eBin oDiv (eCall m_l_cell_at (aCons (eB 0) (aCons (eC (.int 4)) (aNil)))) (eC (.int 5))) (eC (.int 13))) (aNil))) (gN 4) (tYesD) (eLst (aNil)))) (sNx)) (sNx)) (sSeq (sRetN (eCallN m_l_lines (aCons (eCut oCut (eB 0) (pAt (eC (.int 5))) (pAt (eC (.int 25)))) (aCons (eB 1) (aCons (eB 3) (aNil)))))) (sNx)))))
def m_l_lines_by : Fn := mkFn [true, true] 3 c_l_lines_by
def c_p_law : Stm := sSeq (sSet 1 (eCall m_l_marks (aCons (eCall m_l_cell_at (aCons (eB 0) (aCons (eC (.int 1)) (aNil)))) (aCons (eCall m_l_how_many (aCons (eBin oDiv (eCall m_l_cell_at (aCons (eB 0) (aCons (eC (.int 0)) (aNil)))) (eC (.int 2))) (aNil))) (aNil))))) (sSeq (sSet 2 (eCall m_l_lines_by (aCons (eB 0) (aCons (eB 1) (aNil))))) (sSeq (sSet 3 (eC (.int 0))) (sSeq (sIf (eTr (eBin oGt (eFn fLen (aCons (eB 2) (aNil))) (eC (.int 0)))) (sSeq (sSet 3 (eFn fLen (aCons (eBin oIx (eB 2) (eC (.int 0))) (aNil)))) (sSeq (sWipe [4, 5, 6]) (sNx))) (sSeq (sWipe [4, 5, 6]) (sNx))) (sSeq (sIf (eTr (eBin oEq (eBin oMod (eCall m_l_cell_at (aCons (eB 0) (aCons (eC (.int 0)) (aNil)))) (eC (.int 2))) (eC (.int 1)))) (sSeq (sIf (tNotD (eTr (eCall m_l_refused (aCons (eCall m_l_wrong (aCons (eB 2) (aCons (eB 3) (aCons (eCall m_l_cell_at (aCons (eB 0) (aCons (eC (.int 3)) (aNil)))) (aCons (eBin oIx (eB 1) (eC (.int 0))) (aNil)))))) (aNil))))) (sSeq (sRet (eC (.bl false))) (sNx)) (sNx)) (sSeq (sWipe [0, 3, 4, 5, 6]) (sNx))) (sSeq (sWipe [0, 3, 4, 5, 6]) (sNx))) (sSeq (sSetN 4 (eNLc [6] (iL (eV 2)) (gN 6) (tYesD) (eFn fList (aCons (eB 6) (aNil))))) (sSeq (sSet 5 (eMake (m_p_Table_init 12) (aCons (eB 4) (aNil)))) (sSeq (sIf (tLend 4 (tOrD (eTr (eBin oNe (eB 4) (eB 2))) (tNotD (eTr (eCall m_l_holds (aCons (eB 5) (aCons (eB 2) (aNil)))))))) (sSeq (sRet (eC (.bl false))) (sNx)) (sNx)) (sSeq (sForNA 4 6 (eBin oIx (eB 1) (eC (.int 0)))) (sSeq (sNApp 4 (eLst (aNil))) (sSeq (sRet (eCall m_l_holds (aCons (eB 5) (aCons (eB 2) (aNil))))) (sNx)))))))))))
def m_p_law : Fn := mkFn [true] 6 c_p_law
/-- the law, of data -/
def LawOk : Prop := ∀ ns : List Int, ns.length ≤ 63 → ∃ S, resF (m_p_law [.scr ns] []) = .ok (.bl true) S
end PM
set_option maxHeartbeats 4000000
namespace PM
open PySem PySem.Spec PyProof.Rows L2
abbrev k_LETTERS : Str := "abcdefghijklmnopqrstuvwxyz"
abbrev k_MOST_LETTERS : Int := 8
abbrev k_MOST_LINES : Int := 12
abbrev L1_p_is_mark (v_thing : D) : Unit → Env := fun s => [.bo (iN v_thing), .un]
def f_b1_p_is_mark  (x9 : Nat)  : M (O Unit Unit Bool) :=
 (if (!decide (x9 ∈ Sl k_LETTERS)) = true then
 (M.bind (M.pure false) fun t14 => M.pure (.rt t14))
 else (M.pure (.nx ())))
theorem t_b1_p_is_mark (v_thing : D) (x9 : Nat)  : Sm (L1_p_is_mark v_thing) (L1_p_is_mark v_thing) (RF D.bl) XT b1_p_is_mark [.bo (iN v_thing), .fr (eCh x9)] (f_b1_p_is_mark  x9 ) := by
  unfold b1_p_is_mark f_b1_p_is_mark
  refine t_ifP (p_TrB (pp_bin (p_Bf (e := eCh) (.s .z)) (p_C (e := D.str)) ot_ninS)) ?_ ?_
  · refine t_assoc ?_
    exact t_ret (eb := D.bl) (Pv.x (p_C (e := D.bl))) trivial (fun _ => rf_fr _)
  · refine t_nxl ?_
    refine t_wipe (is := [1]) (.cons .nil (.s .z)) ?_
    exact t_nil rfl
def f_p_is_mark (v_thing : D) : M Bool := runO none (
 (M.bind (M.bind (M.bind (M.opt (D.isT "str" v_thing)) fun t1 => M.pure (!t1)) fun t4 => (if t4 = true then M.pure true else (M.bind (M.opt (D.eq? v_thing (D.str ("" : Str)))) fun t3 => (if t3 = true then M.pure true else (M.bind (M.opt (gI (fLen [v_thing]))) fun t2 => M.pure (decide (t2 > k_MOST_LETTERS))))))) fun t5 => if t5 = true then
 (M.bind (M.pure false) fun t6 => M.pure (.rt t6))
 else (M.bind (M.bind (M.opt (uS v_thing)) fun t12 => M.pure (Sl t12)) fun t16 => bindO (forO (fun x s8 => f_b1_p_is_mark  x ) t16 (() : Unit)) fun s8 =>
 (M.bind (M.pure true) fun t15 => M.pure (.rt t15)))))
theorem ty_p_is_mark (v_thing : D) : FnT D.bl m_p_is_mark [iN v_thing] (f_p_is_mark v_thing) := by
  unfold f_p_is_mark
  refine t_fn (Ef := fun _ => [.un, .un]) (Lf := fun _ => []) rfl (.t (.n (.s .z))) (fun _ h => nomatch h) ?_
  unfold c_p_is_mark
  refine t_if (xx_tOr (x_tNot' (x_TrBm (p_isTO (p_Bb (e := iN) .z)))) (xx_tOr (x_TrBm (pp_binO (p_Bb (e := iN) .z) (p_up (ea := D.str) (p_C (e := D.str))) (fun _ => oo_eqD))) (x_TrBm (xp_bin (p_FnO (ez := D.int) (p_aCons (ea := iN) (p_Bb (e := iN) .z) p_aNil) (fun _ => oo_lenD)) (p_C (e := D.int)) (fun _ => ot_gt))))) trivial ?_ ?_
  · refine t_assoc ?_
    exact t_ret (eb := D.bl) (Pv.x (p_C (e := D.bl))) trivial (fun _ => rf_fr _)
  · refine t_nxl ?_
    refine t_wipe (is := []) .nil ?_
    refine t_for (L' := (L1_p_is_mark v_thing)) (ei := eCh) (x_iS1 (x_cast unS (p_Bb (e := iN) .z))) trivial rfl (fun _ _ => (tgN (.s .z))) (fun x s => t_b1_p_is_mark v_thing x ) (fun s8 => ?_)
    show Sm _ _ _ _ _ [.bo (iN v_thing), .un] _
    exact t_ret (eb := D.bl) (Pv.x (p_C (e := D.bl))) trivial (fun _ => rf_fr _)
abbrev L1_p_are_marks (v_some : D) : Unit → Env := fun s => [.bo (iN v_some), .un, .un]
def f_b1_p_are_marks  (x7 : D)  : M (O Unit Unit Bool) :=
 (M.bind (M.bind (f_p_is_mark x7) fun t11 => M.pure (!t11)) fun t12 => if t12 = true then
 (M.bind (M.pure false) fun t13 => M.pure (.rt t13))
 else (M.pure (.nx ())))
theorem t_b1_p_are_marks (v_some : D) (x7 : D)  : Sm (L1_p_are_marks v_some) (L1_p_are_marks v_some) (RF D.bl) XT b1_p_are_marks [.bo (iN v_some), .un, .fr (iN x7)] (f_b1_p_are_marks  x7 ) := by
  unfold b1_p_are_marks f_b1_p_are_marks
  refine t_if (x_tNot' (x_TrBm (x_callP (p_aCons (ea := iN) (p_Bf (e := iN) (.s (.s .z))) p_aNil) (ty_p_is_mark _)))) trivial ?_ ?_
  · refine t_assoc ?_
    exact t_ret (eb := D.bl) (Pv.x (p_C (e := D.bl))) trivial (fun _ => rf_fr _)
  · refine t_nxl ?_
    refine t_wipe (is := [1, 2]) (.cons (.cons .nil (.s (.s .z))) (.s .z)) ?_
    exact t_nil rfl
def f_p_are_marks (v_some : D) (v_most : Int) : M Bool := runO none (
 (M.bind (M.bind (M.bind (M.opt (D.isT "list" v_some)) fun t1 => M.pure (!t1)) fun t3 => (if t3 = true then M.pure true else (M.bind (M.opt (gI (fLen [v_some]))) fun t2 => M.pure (decide (t2 > v_most))))) fun t4 => if t4 = true then
 (M.bind (M.pure false) fun t5 => M.pure (.rt t5))
 else (M.bind (M.opt ((uL some) v_some)) fun t15 => bindO (forO (fun x s6 => f_b1_p_are_marks  x ) t15 (() : Unit)) fun s6 =>
 (M.bind (M.pure true) fun t14 => M.pure (.rt t14)))))
theorem ty_p_are_marks (v_some : D) (v_most : Int) : FnT D.bl m_p_are_marks [iN v_some, D.int v_most] (f_p_are_marks v_some v_most) := by
  unfold f_p_are_marks
  refine t_fn (Ef := fun _ => [.un, .un, .un]) (Lf := fun _ => []) rfl (.t (.t (.n (.s .z)))) (fun _ h => nomatch h) ?_
  unfold c_p_are_marks
  refine t_if (xx_tOr (x_tNot' (x_TrBm (p_isTO (p_Bb (e := iN) .z)))) (x_TrBm (xp_bin (p_FnO (ez := D.int) (p_aCons (ea := iN) (p_Bb (e := iN) .z) p_aNil) (fun _ => oo_lenD)) (p_Bb (e := D.int) (.s .z)) (fun _ => ot_gt)))) trivial ?_ ?_
  · refine t_assoc ?_
    exact t_ret (eb := D.bl) (Pv.x (p_C (e := D.bl))) trivial (fun _ => rf_fr _)
  · refine t_nxl ?_
    refine t_wipe (is := [1]) (.cons .nil (.s .z)) ?_
    refine t_for (L' := (L1_p_are_marks v_some)) (ei := iN) (x_iBcastb (unL unAny) .z) trivial rfl (fun _ _ => (tgN (.s (.s .z)))) (fun x s => t_b1_p_are_marks v_some x ) (fun s6 => ?_)
    show Sm _ _ _ _ _ [.bo (iN v_some), .un, .un] _
    exact t_ret (eb := D.bl) (Pv.x (p_C (e := D.bl))) trivial (fun _ => rf_fr _)
abbrev L1_p_are_lines (v_some : D) : Unit → Env := fun s => [.bo (iN v_some), .un]
def f_b1_p_are_lines (v_some : D) (x7 : D)  : M (O Unit Unit Bool) :=
 (M.bind (M.bind (M.bind (f_p_are_marks x7 k_MOST_LINES) fun t15 => M.pure (!t15)) fun t19 => (if t19 = true then M.pure true else (M.bind (M.opt (gI (fLen [x7]))) fun t17 => M.bind (M.bind (M.opt (oIx v_some (D.int (0 : Int)))) fun t16 => M.opt (gI (fLen [t16]))) fun t18 => M.pure (!decide (t17 = t18))))) fun t20 => if t20 = true then
 (M.bind (M.pure false) fun t21 => M.pure (.rt t21))
 else (M.pure (.nx ())))
theorem t_b1_p_are_lines (v_some : D) (x7 : D)  : Sm (L1_p_are_lines v_some) (L1_p_are_lines v_some) (RF D.bl) XT b1_p_are_lines [.bo (iN v_some), .fr (iN x7)] (f_b1_p_are_lines v_some x7 ) := by
  unfold b1_p_are_lines f_b1_p_are_lines
  refine t_if (xx_tOr (x_tNot' (x_TrBm (x_callP (p_aCons (ea := iN) (p_Bf (e := iN) (.s .z)) (p_aCons (ea := D.int) (p_C (e := D.int)) p_aNil)) (ty_p_are_marks _ _)))) (x_TrBm (xx_bin (p_FnO (ez := D.int) (p_aCons (ea := iN) (p_Bf (e := iN) (.s .z)) p_aNil) (fun _ => oo_lenD)) (x_FnO (ez := D.int) (xa_1 (ea := iN) (pp_binO (p_Bb (e := iN) .z) (p_up (ea := D.int) (p_C (e := D.int))) (fun _ => oo_ixD)) p_aNil) (fun _ _ => oo_lenD)) (fun _ _ => (ot_ne eqI))))) trivial ?_ ?_
  · refine t_assoc ?_
    exact t_ret (eb := D.bl) (Pv.x (p_C (e := D.bl))) trivial (fun _ => rf_fr _)
  · refine t_nxl ?_
    refine t_wipe (is := [1]) (.cons .nil (.s .z)) ?_
    exact t_nil rfl
def f_p_are_lines (v_some : D) : M Bool := runO none (
 (M.bind (M.bind (M.bind (M.opt (D.isT "list" v_some)) fun t1 => M.pure (!t1)) fun t3 => (if t3 = true then M.pure true else (M.bind (M.opt (gI (fLen [v_some]))) fun t2 => M.pure (decide (t2 > k_MOST_LINES))))) fun t4 => if t4 = true then
 (M.bind (M.pure false) fun t5 => M.pure (.rt t5))
 else (M.bind (M.opt ((uL some) v_some)) fun t23 => bindO (forO (fun x s6 => f_b1_p_are_lines v_some x ) t23 (() : Unit)) fun s6 =>
 (M.bind (M.pure true) fun t22 => M.pure (.rt t22)))))
theorem ty_p_are_lines (v_some : D) : FnT D.bl m_p_are_lines [iN v_some] (f_p_are_lines v_some) := by
  unfold f_p_are_lines
  refine t_fn (Ef := fun _ => [.un, .un]) (Lf := fun _ => []) rfl (.t (.n (.s .z))) (fun _ h => nomatch h) ?_
  unfold c_p_are_lines
  refine t_if (xx_tOr (x_tNot' (x_TrBm (p_isTO (p_Bb (e := iN) .z)))) (x_TrBm (xp_bin (p_FnO (ez := D.int) (p_aCons (ea := iN) (p_Bb (e := iN) .z) p_aNil) (fun _ => oo_lenD)) (p_C (e := D.int)) (fun _ => ot_gt)))) trivial ?_ ?_
  · refine t_assoc ?_
    exact t_ret (eb := D.bl) (Pv.x (p_C (e := D.bl))) trivial (fun _ => rf_fr _)
  · refine t_nxl ?_
    refine t_wipe (is := []) .nil ?_
    refine t_for (L' := (L1_p_are_lines v_some)) (ei := iN) (x_iBcastb (unL unAny) .z) trivial rfl (fun _ _ => (tgN (.s .z))) (fun x s => t_b1_p_are_lines v_some x ) (fun s6 => ?_)
    show Sm _ _ _ _ _ [.bo (iN v_some), .un] _
    exact t_ret (eb := D.bl) (Pv.x (p_C (e := D.bl))) trivial (fun _ => rf_fr _)
def f_p_Table_init (k : Nat) (v_lines : D) : M D := runI (
 M.bind (M.pure (D.obj k [])) fun v_self =>
 (M.bind (M.bind (f_p_are_lines (dFlat v_lines)) fun t1 => M.pure (!t1)) fun t2 => if t2 = true then
 (M.exc 1)
 else (M.bind (M.bind (M.opt (uL some (dFlat v_lines))) fun t4 => lcO (fun x3 => (M.pure true)) (fun x3 => (M.opt (gLs (fList [x3])))) t4 []) fun t5 => M.bind (M.opt (gFld fl "lines" v_self ((eL (eL iN)) t5))) fun v_self =>
 (M.bind (M.pure (0 : Int)) fun t6 => M.bind (M.opt (gFld fl "wide" v_self (D.int t6))) fun v_self =>
 (M.bind (M.bind (M.opt (gI (fLen [(dFlat v_lines)]))) fun t7 => M.pure (decide (t7 > (0 : Int)))) fun t8 => if t8 = true then
 (M.bind (M.bind (M.opt (oIx (dFlat v_lines) (D.int (0 : Int)))) fun t9 => M.opt (gI (fLen [t9]))) fun t10 => M.bind (M.opt (gFld fl "wide" v_self (D.int t10))) fun v_self =>
 (M.pure (.nx v_self)))
 else (M.pure (.nx v_self)))))))
theorem ty_p_Table_init (k : Nat) (v_lines : D) : FnI iN (m_p_Table_init k) [iN v_lines] (f_p_Table_init k v_lines) := by
  unfold f_p_Table_init
  refine t_ini (Ef := fun d => [.me (iN d), .un, .un]) (Lf := fun _ => []) (k := k) rfl (.t (.n (.s .z))) (fun _ => .z) ?_
  refine t_let (ρ2 := fun v_self => [.me (iN v_self), .bo (iN v_lines), .un]) (a := D.obj k []) (fun v_self => ?_)
  unfold c_p_Table_init
  refine t_if (x_tLendB (.s .z) (.s .z) (.s .z) (x_tNot' (x_TrBm (x_callP (p_aCons (ea := iN) (p_Bf (e := iN) (.s .z)) p_aNil) (ty_p_are_lines _)))) (x_tNot' (x_TrBm (x_callP (p_aCons (ea := iN) (p_Bb (e := iN) (.s .z)) p_aNil) (ty_p_are_lines _))))) trivial ?_ ?_
  · refine t_assoc ?_
    exact t_raise trivial
  · refine t_nxl ?_
    refine t_fldMe (en := (eL (eL iN))) .z (x_LcB (eb := (eL iN)) (.s .z) (.cons .nil (.s (.s .z))) (fun _ => (.s (.s .z))) (fun _ => (.s (.s .z))) (fun x3 => Pv.x p_Yes) (fun x3 => Pv.x p_Yes) (fun x3 => (p_FnO (ez := (eL iN)) (p_aCons (ea := iN) (p_Bf (e := iN) (.s (.s .z))) p_aNil) (fun _ => oo_listD))) (fun x3 => (p_FnO (ez := (eL iN)) (p_aCons (ea := iN) (p_Bb (e := iN) (.s (.s .z))) p_aNil) (fun _ => oo_listD)))) trivial (fun _ => .z) (fun v_self => ?_)
    refine t_fldMe (en := D.int) .z (Pv.x (p_C (e := D.int))) trivial (fun _ => .z) (fun v_self => ?_)
    refine t_if (x_tLendB (.s .z) (.s .z) (.s .z) (x_TrBm (xp_bin (p_FnO (ez := D.int) (p_aCons (ea := iN) (p_Bf (e := iN) (.s .z)) p_aNil) (fun _ => oo_lenD)) (p_C (e := D.int)) (fun _ => ot_gt))) (x_TrBm (xp_bin (p_FnO (ez := D.int) (p_aCons (ea := iN) (p_Bb (e := iN) (.s .z)) p_aNil) (fun _ => oo_lenD)) (p_C (e := D.int)) (fun _ => ot_gt)))) trivial ?_ ?_
    · refine t_assoc ?_
      refine t_fldMe (en := D.int) .z (x_eLendB (fun _ => rfl) (.s .z) (.s .z) (.s .z) (x_FnO (ez := D.int) (xa_1 (ea := iN) (pp_binO (p_Bf (e := iN) (.s .z)) (p_up (ea := D.int) (p_C (e := D.int))) (fun _ => oo_ixD)) p_aNil) (fun _ _ => oo_lenD)) (x_FnO (ez := D.int) (xa_1 (ea := iN) (pp_binO (p_Bb (e := iN) (.s .z)) (p_up (ea := D.int) (p_C (e := D.int))) (fun _ => oo_ixD)) p_aNil) (fun _ _ => oo_lenD))) trivial (fun _ => .z) (fun v_self => ?_)
      refine t_nxl ?_
      refine t_wipe (is := [1, 2]) (.cons (.cons .nil (.s (.s .z))) (.s .z)) ?_
      exact t_nil rfl
    · refine t_nxl ?_
      refine t_wipe (is := [1, 2]) (.cons (.cons .nil (.s (.s .z))) (.s .z)) ?_
      exact t_nil rfl
def f_p_Table_many (v_self : D) : M Int := runO none (
 (M.bind (M.bind (M.bind (M.bind (fldM fl "lines" v_self) fun t1 => M.opt ((uL (uL uS)) t1)) fun t2 => M.pure ((List.length t2 : Nat) : Int)) fun t4 => M.bind (M.bind (fldM fl "wide" v_self) fun t3 => M.opt (uI t3)) fun t5 => M.pure (t4 + t5)) fun t6 => M.pure (.rt t6)))
theorem ty_p_Table_many (v_self : D) : FnT D.int m_p_Table_many [iN v_self] (f_p_Table_many v_self) := by
  unfold f_p_Table_many
  refine t_fn (Ef := fun _ => [.un]) (Lf := fun _ => []) rfl (.t (.n .z)) (fun _ h => nomatch h) ?_
  unfold c_p_Table_many
  exact t_ret (eb := D.int) (xx_bin (x_FnT (ez := D.int) (xa_1 (ea := (eL (eL D.str))) (x_castX (unL (unL unS)) (p_fld (ea := iN) (p_Bb (e := iN) .z))) p_aNil) (fun _ => ot_lenL)) (x_castX unI (p_fld (ea := iN) (p_Bb (e := iN) .z))) (fun _ _ => ot_addI)) trivial (fun _ => rf_fr _)
abbrev L1_p_Table_spots (v_self : D) : (List Str) → Env := fun s => [.bo (iN v_self), .ow ((eL D.str) s), .un]
def f_b1_p_Table_spots  (x3 : (List Str)) (v_found : (List Str)) : M (O (List Str) (List Str) (List Str)) :=
 (M.bind (M.opt (gCatL v_found x3)) fun v_found =>
 (M.pure (.nx v_found)))
theorem t_b1_p_Table_spots (v_self : D) (x3 : (List Str)) (v_found : (List Str)) : Sm (L1_p_Table_spots v_self) (L1_p_Table_spots v_self) (RN (eL D.str)) XT b1_p_Table_spots [.bo (iN v_self), .ow ((eL D.str) v_found), .fr ((eL D.str) x3)] (f_b1_p_Table_spots  x3 v_found) := by
  unfold b1_p_Table_spots f_b1_p_Table_spots
  refine t_setN (en := (eL D.str)) (pp_binO (p_Bo (e := (eL D.str)) (.s .z)) (p_Bf (e := (eL D.str)) (.s (.s .z))) (fun _ => oo_catL)) trivial (fun _ => (.s .z)) (fun v_found => ?_)
  refine t_wipe (is := [2]) (.cons .nil (.s (.s .z))) ?_
  exact t_nil rfl
def f_p_Table_spots (v_self : D) : M (List Str) := runO none (
 (M.bind (M.pure ([] : List Str)) fun v_found =>
 (M.bind (M.bind (fldM fl "lines" v_self) fun t4 => M.opt ((uL (uL uS)) t4)) fun t5 => bindO (forO (fun x s2 => f_b1_p_Table_spots  x s2) t5 (v_found : (List Str))) fun s2 =>
 (M.pure (.rt s2)))))
theorem tyN_p_Table_spots (v_self : D) : FnN (eL D.str) m_p_Table_spots [iN v_self] (f_p_Table_spots v_self) := by
  unfold f_p_Table_spots
  refine t_fnN (Ef := fun _ => [.un, .un, .un]) (Lf := fun _ => []) rfl (.t (.n (.s (.s .z)))) ?_
  unfold c_p_Table_spots
  refine t_setN (en := (eL D.str)) (Pv.x (p_Lst (ez := (eL D.str)) p_aNil (Nat.le_of_ble_eq_true rfl) rfl)) trivial (fun _ => (.s .z)) (fun v_found => ?_)
  refine t_wipe (is := []) .nil ?_
  refine t_for (L' := (L1_p_Table_spots v_self)) (ei := (eL D.str)) (x_iL' (x_castX (unL (unL unS)) (p_fld (ea := iN) (p_Bb (e := iN) .z)))) trivial rfl (fun _ _ => (tgN (.s (.s .z)))) (fun x s => t_b1_p_Table_spots v_self x s) (fun s2 => ?_)
  show Sm _ _ _ _ _ [.bo (iN v_self), .ow ((eL D.str) s2), .un] _
  exact t_retVo (eb := (eL D.str)) (.s .z) (rn_ow _)
theorem ty_p_Table_spots (v_self : D) : FnT (eL D.str) m_p_Table_spots [iN v_self] (f_p_Table_spots v_self) := (tyN_p_Table_spots v_self).toT
def f_p_Table_form (v_self : D) : M (Str × Int × (List (List Str))) := runO none (
 (M.bind (M.bind (M.bind (M.bind (fldM fl "wide" v_self) fun t1 => M.opt (uI t1)) fun t6 => M.bind (M.bind (M.bind (M.bind (fldM fl "lines" v_self) fun t2 => M.opt ((uL (uL uS)) t2)) fun t4 => lcO (fun x3 => (M.pure true)) (fun x3 => (M.pure x3)) t4 []) fun t5 => M.pure t5) fun t7 => M.pure (t6, t7)) fun t8 => M.pure (("table" : Str), t8.1, t8.2)) fun t9 => M.pure (.rt t9)))
theorem ty_p_Table_form (v_self : D) : FnT (eP3 D.str D.int (eTL (eTL D.str))) m_p_Table_form [iN v_self] (f_p_Table_form v_self) := by
  unfold f_p_Table_form
  refine t_fn (Ef := fun _ => [.un, .un]) (Lf := fun _ => []) rfl (.t (.n (.s .z))) (fun _ h => nomatch h) ?_
  unfold c_p_Table_form
  exact t_ret (eb := (eP3 D.str D.int (eTL (eTL D.str)))) (x_Tup' (ez := (eP3 D.str D.int (eTL (eTL D.str)))) (xa_P (ea := D.str) (p_C (e := D.str)) (xa_X (ea := D.int) (x_castX unI (p_fld (ea := iN) (p_Bb (e := iN) .z))) (xa_1 (ea := (eTL (eTL D.str))) (x_FnT (ez := (eTL (eTL D.str))) (xa_1 (ea := (eL (eTL D.str))) (x_Lc' (ei := (eL D.str)) (eb := (eTL D.str)) (x_iL' (x_castX (unL (unL unS)) (p_fld (ea := iN) (p_Bb (e := iN) .z)))) (.cons .nil (.s .z)) (fun _ => (tgN (.s .z))) (fun x3 => (Pv.x p_Yes)) (fun x3 => (Pv.x (p_Fn (ez := (eTL D.str)) (p_aCons (ea := (eL D.str)) (p_Bf (e := (eL D.str)) (.s .z)) p_aNil) ot_tupL)))) p_aNil) (fun _ => ot_tupL)) p_aNil))) (fun _ => Nat.le_of_ble_eq_true rfl) (fun _ => rfl)) trivial (fun _ => rf_fr _)
def f_l_cell_at (v_script : (List Int)) (v_k : Int) : M Int := runO none (
 (if (decide (v_k < ((List.length v_script : Nat) : Int))) = true then
 (M.bind (M.opt (gIx v_script v_k)) fun t2 => M.pure (.rt t2))
 else (M.bind (M.pure (0 : Int)) fun t3 => M.pure (.rt t3))))
theorem ty_l_cell_at (v_script : (List Int)) (v_k : Int) : FnT D.int m_l_cell_at [D.scr v_script, D.int v_k] (f_l_cell_at v_script v_k) := by
  unfold f_l_cell_at
  refine t_fn (Ef := fun _ => [.un, .un]) (Lf := fun _ => []) rfl (.t (.t (.n .z))) (fun _ h => nomatch h) ?_
  unfold c_l_cell_at
  refine t_ifP (p_TrB (pp_bin (p_Bb (e := D.int) (.s .z)) (p_Fn (ez := D.int) (p_aCons (ea := D.scr) (p_Bb (e := D.scr) .z) p_aNil) ot_lenScr) ot_lt)) ?_ ?_
  · refine t_assoc ?_
    exact t_ret (eb := D.int) (pp_binO (p_Bb (e := D.scr) .z) (p_Bb (e := D.int) (.s .z)) (fun _ => oo_ixScr)) trivial (fun _ => rf_fr _)
  · refine t_nxl ?_
    exact t_ret (eb := D.int) (Pv.x (p_C (e := D.int))) trivial (fun _ => rf_fr _)
def f_l_mix (v_seed : Int) (v_k : Int) : M Int := runO none (
 (M.bind (M.bind (M.bind (M.bind (M.bind (M.bind (M.opt (gMul v_k v_k)) fun t1 => M.opt (gMul t1 v_k)) fun t2 => M.pure (((v_seed % (100000000000000000000 : Int)) + ((17 : Int) * v_k)) + t2)) fun t3 => M.pure (t3 + (5 : Int))) fun t4 => M.pure (t4 * (48271 : Int))) fun t5 => M.pure (t5 % (1000003 : Int))) fun v_number =>
 (M.bind (M.pure ((v_number * (69621 : Int)) % (999983 : Int))) fun t6 => M.pure (.rt t6))))
theorem ty_l_mix (v_seed : Int) (v_k : Int) : FnT D.int m_l_mix [D.int v_seed, D.int v_k] (f_l_mix v_seed v_k) := by
  unfold f_l_mix
  refine t_fn (Ef := fun _ => [.un, .un, .un]) (Lf := fun _ => []) rfl (.t (.t (.n (.s .z)))) (fun _ h => nomatch h) ?_
  unfold c_l_mix
  refine t_set (en := D.int) (xp_bin (xp_bin (xp_bin (px_bin (pp_bin (pp_bin (p_Bb (e := D.int) .z) (pp_bin (p_C (e := D.int)) (p_C (e := D.int)) (by rfl)) ot_mod) (pp_bin (p_C (e := D.int)) (p_Bb (e := D.int) (.s .z)) ot_mulL) ot_addI) (xp_binO (pp_binO (p_Bb (e := D.int) (.s .z)) (p_Bb (e := D.int) (.s .z)) (fun _ => oo_mul)) (p_Bb (e := D.int) (.s .z)) (fun _ _ => oo_mul)) (fun _ => ot_addI)) (p_C (e := D.int)) (fun _ => ot_addI)) (p_C (e := D.int)) (fun _ => ot_mulR)) (p_C (e := D.int)) (fun _ => ot_mod)) trivial (fun _ => (.s (.s .z))) (fun v_number => ?_)
  exact t_ret (eb := D.int) (Pv.x (pp_bin (pp_bin (p_Bf (e := D.int) (.s (.s .z))) (p_C (e := D.int)) ot_mulR) (p_C (e := D.int)) ot_mod)) trivial (fun _ => rf_fr _)
def f_l_whole (v_found : D) : M Bool := runO none (
 (M.bind (M.bind (M.opt (D.isT "int" v_found)) fun t2 => (if t2 = true then (M.bind (M.opt (D.isT "bool" v_found)) fun t1 => M.pure (!t1)) else M.pure false)) fun t3 => M.pure (.rt t3)))
theorem ty_l_whole (v_found : D) : FnT D.bl m_l_whole [iN v_found] (f_l_whole v_found) := by
  unfold f_l_whole
  refine t_fn (Ef := fun _ => [.un]) (Lf := fun _ => []) rfl (.t (.n .z)) (fun _ h => nomatch h) ?_
  unfold c_l_whole
  exact t_ret (eb := D.bl) (xx_And (p_isTO (p_Bb (e := iN) .z)) (x_Not' (p_isTO (p_Bb (e := iN) .z)))) trivial (fun _ => rf_fr _)
def f_l_how_many (v_number : Int) : M Int := runO none (
 (if (decide (((v_number / (6 : Int)) % (8 : Int)) = (5 : Int))) = true then
 (M.bind (M.pure ((7 : Int) + ((v_number / (48 : Int)) % (19 : Int)))) fun t2 => M.pure (.rt t2))
 else (M.bind (M.pure ((1 : Int) + (v_number % (6 : Int)))) fun t3 => M.pure (.rt t3))))
theorem ty_l_how_many (v_number : Int) : FnT D.int m_l_how_many [D.int v_number] (f_l_how_many v_number) := by
  unfold f_l_how_many
  refine t_fn (Ef := fun _ => [.un]) (Lf := fun _ => []) rfl (.t (.n .z)) (fun _ h => nomatch h) ?_
  unfold c_l_how_many
  refine t_ifP (p_TrB (pp_bin (pp_bin (pp_bin (p_Bb (e := D.int) .z) (p_C (e := D.int)) ot_div) (p_C (e := D.int)) ot_mod) (p_C (e := D.int)) (ot_eq eqI))) ?_ ?_
  · refine t_assoc ?_
    exact t_ret (eb := D.int) (Pv.x (pp_bin (p_C (e := D.int)) (pp_bin (pp_bin (p_Bb (e := D.int) .z) (p_C (e := D.int)) ot_div) (p_C (e := D.int)) ot_mod) ot_addI)) trivial (fun _ => rf_fr _)
  · refine t_nxl ?_
    exact t_ret (eb := D.int) (Pv.x (pp_bin (p_C (e := D.int)) (pp_bin (p_Bb (e := D.int) .z) (p_C (e := D.int)) ot_mod) ot_addI)) trivial (fun _ => rf_fr _)
def f_l_marks (v_cell : Int) (v_many : Int) : M (List Str) := runO none (
 (M.bind (M.pure ("abcdefghijklmnopqrstuvwxyz" : Str)) fun v_letters =>
 (M.bind (M.opt (gCutS ("marksof" : Str) none (some (v_cell % (8 : Int))))) fun v_base =>
 (M.bind (M.bind (M.bind (M.opt (gLenS v_base)) fun t1 => M.pure (t1 + (1 : Int))) fun t2 => M.opt (gMod (v_cell / (8 : Int)) t2)) fun v_at =>
 (M.bind (M.pure ((v_cell / (64 : Int)) % (26 : Int))) fun v_first =>
 (M.bind (M.pure ((1 : Int) + ((v_cell / (1664 : Int)) % (8 : Int)))) fun v_step =>
 (bindO (σ := Int) (if (decide (v_many > (6 : Int))) = true then
 (M.bind (M.pure (1 : Int)) fun v_step =>
 (M.pure (.nx v_step)))
 else (M.pure (.nx v_step))) fun s4 =>
 (M.bind (M.bind (M.opt (gR1 v_many)) fun t14 => lcO (fun x5 => (M.pure true)) (fun x5 => (M.bind (M.bind (M.opt (gCutS v_base none (some v_at))) fun t10 => M.bind (M.bind (M.bind (M.bind (M.bind (M.opt (gMul x5 s4)) fun t6 => M.pure (v_first + t6)) fun t7 => M.pure (t7 % (26 : Int))) fun t8 => M.opt (gIxS v_letters t8)) fun t9 => M.pure (S1 t9)) fun t11 => M.opt (gCatS t10 t11)) fun t12 => M.bind (M.opt (gCutS v_base (some v_at) none)) fun t13 => M.opt (gCatS t12 t13))) t14 []) fun t15 => M.pure (.rt t15)))))))))
theorem tyN_l_marks (v_cell : Int) (v_many : Int) : FnN (eL D.str) m_l_marks [D.int v_cell, D.int v_many] (f_l_marks v_cell v_many) := by
  unfold f_l_marks
  refine t_fnN (Ef := fun _ => [.un, .un, .un, .un, .un, .un, .un, .un]) (Lf := fun _ => []) rfl (.t (.t (.n (.s (.s (.s (.s (.s (.s .z))))))))) ?_
  unfold c_l_marks
  refine t_set (en := D.str) (Pv.x (p_C (e := D.str))) trivial (fun _ => (.s (.s .z))) (fun v_letters => ?_)
  refine t_set (en := D.str) (p_CutO (p_C (e := D.str)) p_No (p_At (pp_bin (p_Bb (e := D.int) .z) (p_C (e := D.int)) ot_mod)) (fun _ => oo_cutS)) trivial (fun _ => (.s (.s (.s .z)))) (fun v_base => ?_)
  refine t_set (en := D.int) (px_binO (pp_bin (p_Bb (e := D.int) .z) (p_C (e := D.int)) ot_div) (xp_bin (p_FnO (ez := D.int) (p_aCons (ea := D.str) (p_Bf (e := D.str) (.s (.s (.s .z)))) p_aNil) (fun _ => oo_lenS)) (p_C (e := D.int)) (fun _ => ot_addI)) (fun _ _ => oo_mod)) trivial (fun _ => (.s (.s (.s (.s .z))))) (fun v_at => ?_)
  refine t_set (en := D.int) (Pv.x (pp_bin (pp_bin (p_Bb (e := D.int) .z) (p_C (e := D.int)) ot_div) (p_C (e := D.int)) ot_mod)) trivial (fun _ => (.s (.s (.s (.s (.s .z)))))) (fun v_first => ?_)
  refine t_set (en := D.int) (Pv.x (pp_bin (p_C (e := D.int)) (pp_bin (pp_bin (p_Bb (e := D.int) .z) (p_C (e := D.int)) ot_div) (p_C (e := D.int)) ot_mod) ot_addI)) trivial (fun _ => (.s (.s (.s (.s (.s (.s .z))))))) (fun v_step => ?_)
  refine t_seq (E' := (fun s4 : Int => ([.un, .bo (D.int v_many), .fr (D.str v_letters), .fr (D.str v_base), .fr (D.int v_at), .fr (D.int v_first), .fr (D.int s4), .un] : Env))) (t_ifP1 (p_TrB (pp_bin (p_Bb (e := D.int) (.s .z)) (p_C (e := D.int)) ot_gt)) ?_ ?_) (fun s4 => ?_)
  · refine t_set (en := D.int) (Pv.x (p_C (e := D.int))) trivial (fun _ => (.s (.s (.s (.s (.s (.s .z))))))) (fun v_step => ?_)
    refine t_wipe (is := [0, 7]) (.cons (.cons .nil (.s (.s (.s (.s (.s (.s (.s .z)))))))) .z) ?_
    exact t_nil rfl
  · refine t_wipe (is := [0, 7]) (.cons (.cons .nil (.s (.s (.s (.s (.s (.s (.s .z)))))))) .z) ?_
    exact t_nil rfl
  · exact t_retN (eb := (eL D.str)) (x_Lc' (ei := D.int) (eb := D.str) (p_iFn (ez := D.int) (p_aCons (ea := D.int) (p_Bb (e := D.int) (.s .z)) p_aNil) (fun _ => oo_R1)) (.cons .nil (.s (.s (.s (.s (.s (.s (.s .z)))))))) (fun _ => (tgN (.s (.s (.s (.s (.s (.s (.s .z))))))))) (fun x5 => (Pv.x p_Yes)) (fun x5 => (xx_binO (xx_binO (p_CutO (p_Bf (e := D.str) (.s (.s (.s .z)))) p_No (p_At (p_Bf (e := D.int) (.s (.s (.s (.s .z)))))) (fun _ => oo_cutS)) (x_as (ea := eCh) (e' := D.str) (px_binO (p_Bf (e := D.str) (.s (.s .z))) (xp_bin (px_bin (p_Bf (e := D.int) (.s (.s (.s (.s (.s .z)))))) (pp_binO (p_Bf (e := D.int) (.s (.s (.s (.s (.s (.s (.s .z)))))))) (p_Bf (e := D.int) (.s (.s (.s (.s (.s (.s .z))))))) (fun _ => oo_mul)) (fun _ => ot_addI)) (p_C (e := D.int)) (fun _ => ot_mod)) (fun _ _ => oo_ixS)) (fun _ => rfl)) (fun _ _ _ => oo_catS)) (p_CutO (p_Bf (e := D.str) (.s (.s (.s .z)))) (p_At (p_Bf (e := D.int) (.s (.s (.s (.s .z)))))) p_No (fun _ => oo_cutS)) (fun _ _ _ => oo_catS)))) trivial (fun _ => rn_ow _)
theorem ty_l_marks (v_cell : Int) (v_many : Int) : FnT (eL D.str) m_l_marks [D.int v_cell, D.int v_many] (f_l_marks v_cell v_many) := (tyN_l_marks v_cell v_many).toT
def f_l_pick (v_cell : Int) (v_marks_here : (List Str)) : M Str := runO none (
 (if (decide (((List.length v_marks_here : Nat) : Int) > (7 : Int))) = true then
 (M.bind (M.bind (M.opt (gMod (((5 : Int) * v_cell) + (v_cell / (7 : Int))) ((List.length v_marks_here : Nat) : Int))) fun t2 => M.opt (gIx v_marks_here t2)) fun t3 => M.pure (.rt t3))
 else (M.bind (M.bind (M.opt (gMod (v_cell % (7 : Int)) ((List.length v_marks_here : Nat) : Int))) fun t4 => M.opt (gIx v_marks_here t4)) fun t5 => M.pure (.rt t5))))
theorem ty_l_pick (v_cell : Int) (v_marks_here : (List Str)) : FnT D.str m_l_pick [D.int v_cell, (eL D.str) v_marks_here] (f_l_pick v_cell v_marks_here) := by
  unfold f_l_pick
  refine t_fn (Ef := fun _ => [.un, .un]) (Lf := fun _ => []) rfl (.t (.t (.n .z))) (fun _ h => nomatch h) ?_
  unfold c_l_pick
  refine t_ifP (p_TrB (pp_bin (p_Fn (ez := D.int) (p_aCons (ea := (eL D.str)) (p_Bb (e := (eL D.str)) (.s .z)) p_aNil) ot_lenL) (p_C (e := D.int)) ot_gt)) ?_ ?_
  · refine t_assoc ?_
    exact t_ret (eb := D.str) (px_binO (p_Bb (e := (eL D.str)) (.s .z)) (pp_binO (pp_bin (pp_bin (p_C (e := D.int)) (p_Bb (e := D.int) .z) ot_mulL) (pp_bin (p_Bb (e := D.int) .z) (p_C (e := D.int)) ot_div) ot_addI) (p_Fn (ez := D.int) (p_aCons (ea := (eL D.str)) (p_Bb (e := (eL D.str)) (.s .z)) p_aNil) ot_lenL) (fun _ => oo_mod)) (fun _ _ => oo_ixL)) trivial (fun _ => rf_fr _)
  · refine t_nxl ?_
    exact t_ret (eb := D.str) (px_binO (p_Bb (e := (eL D.str)) (.s .z)) (pp_binO (pp_bin (p_Bb (e := D.int) .z) (p_C (e := D.int)) ot_mod) (p_Fn (ez := D.int) (p_aCons (ea := (eL D.str)) (p_Bb (e := (eL D.str)) (.s .z)) p_aNil) ot_lenL) (fun _ => oo_mod)) (fun _ _ => oo_ixL)) trivial (fun _ => rf_fr _)
abbrev L1_l_lines (v_cells : (List Int)) (v_marks_here : (List Str)) (v_wide : Int) : (List (List Str)) → Env := fun s => [.bo ((eL D.int) v_cells), .bo ((eL D.str) v_marks_here), .bo (D.int v_wide), .ow ((eL (eL D.str)) s), .un, .un]
def f_b1_l_lines (v_cells : (List Int)) (v_marks_here : (List Str)) (v_wide : Int) (x2 : Int) (v_lines_here : (List (List Str))) : M (O (List (List Str)) (List (List Str)) (List (List Str))) :=
 (if (decide (((List.length v_lines_here : Nat) : Int) < (12 : Int))) = true then
 (M.bind (lcO (fun x7 => (M.pure true)) (fun x7 => (f_l_pick x7 v_marks_here)) (cutD v_cells (some x2) (some (x2 + v_wide))) []) fun t8 => M.bind (M.opt (gApp v_lines_here t8)) fun v_lines_here =>
 (M.pure (.nx v_lines_here)))
 else (M.pure (.nx v_lines_here)))
theorem t_b1_l_lines (v_cells : (List Int)) (v_marks_here : (List Str)) (v_wide : Int) (x2 : Int) (v_lines_here : (List (List Str))) : Sm (L1_l_lines v_cells v_marks_here v_wide) (L1_l_lines v_cells v_marks_here v_wide) (RN (eL (eL D.str))) XT b1_l_lines [.bo ((eL D.int) v_cells), .bo ((eL D.str) v_marks_here), .bo (D.int v_wide), .ow ((eL (eL D.str)) v_lines_here), .fr (D.int x2), .un] (f_b1_l_lines v_cells v_marks_here v_wide x2 v_lines_here) := by
  unfold b1_l_lines f_b1_l_lines
  refine t_ifP (p_TrB (pp_bin (p_Fn (ez := D.int) (p_aCons (ea := (eL (eL D.str))) (p_Bo (e := (eL (eL D.str))) (.s (.s (.s .z)))) p_aNil) ot_lenL) (p_C (e := D.int)) ot_lt)) ?_ ?_
  · refine t_assoc ?_
    refine t_app (en := (eL D.str)) (.s (.s (.s .z))) (p_Lc (ei := D.int) (eb := D.str) (p_iL (p_Cut (p_Bb (e := (eL D.int)) .z) (p_At (p_Bf (e := D.int) (.s (.s (.s (.s .z)))))) (p_At (pp_bin (p_Bf (e := D.int) (.s (.s (.s (.s .z))))) (p_Bb (e := D.int) (.s (.s .z))) ot_addI)) ot_cutL)) (.cons .nil (.s (.s (.s (.s (.s .z)))))) (fun _ => (tgN (.s (.s (.s (.s (.s .z))))))) (fun x7 => (Pv.x p_Yes)) (fun x7 => (x_callP (p_aCons (ea := D.int) (p_Bf (e := D.int) (.s (.s (.s (.s (.s .z)))))) (p_aCons (ea := (eL D.str)) (p_Bb (e := (eL D.str)) (.s .z)) p_aNil)) (ty_l_pick _ _)))) trivial (fun _ => (.s (.s (.s .z)))) (fun v_lines_here => ?_)
    refine t_nxl ?_
    refine t_wipe (is := [4, 5]) (.cons (.cons .nil (.s (.s (.s (.s (.s .z)))))) (.s (.s (.s (.s .z))))) ?_
    exact t_nil rfl
  · refine t_nxl ?_
    refine t_wipe (is := [4, 5]) (.cons (.cons .nil (.s (.s (.s (.s (.s .z)))))) (.s (.s (.s (.s .z))))) ?_
    exact t_nil rfl
def f_l_lines (v_cells : (List Int)) (v_marks_here : (List Str)) (v_wide : Int) : M (List (List Str)) := runO none (
 (M.bind (M.pure ([] : List (List Str))) fun v_lines_here =>
 (M.bind (M.opt (gR3 (0 : Int) ((((List.length v_cells : Nat) : Int) - v_wide) + (1 : Int)) (max2 (1 : Int) v_wide))) fun t9 => bindO (forO (fun x s1 => f_b1_l_lines v_cells v_marks_here v_wide x s1) t9 (v_lines_here : (List (List Str)))) fun s1 =>
 (M.pure (.rt s1)))))
theorem tyN_l_lines (v_cells : (List Int)) (v_marks_here : (List Str)) (v_wide : Int) : FnN (eL (eL D.str)) m_l_lines [(eL D.int) v_cells, (eL D.str) v_marks_here, D.int v_wide] (f_l_lines v_cells v_marks_here v_wide) := by
  unfold f_l_lines
  refine t_fnN (Ef := fun _ => [.un, .un, .un, .un, .un, .un]) (Lf := fun _ => []) rfl (.t (.t (.t (.n (.s (.s (.s .z))))))) ?_
  unfold c_l_lines
  refine t_setN (en := (eL (eL D.str))) (Pv.x (p_Lst (ez := (eL (eL D.str))) p_aNil (Nat.le_of_ble_eq_true rfl) rfl)) trivial (fun _ => (.s (.s (.s .z)))) (fun v_lines_here => ?_)
  refine t_wipe (is := []) .nil ?_
  refine t_for (L' := (L1_l_lines v_cells v_marks_here v_wide)) (ei := D.int) (p_iFn (ez := D.int) (p_aCons (ea := D.int) (p_C (e := D.int)) (p_aCons (ea := D.int) (pp_bin (pp_bin (p_Fn (ez := D.int) (p_aCons (ea := (eL D.int)) (p_Bb (e := (eL D.int)) .z) p_aNil) ot_lenL) (p_Bb (e := D.int) (.s (.s .z))) ot_sub) (p_C (e := D.int)) ot_addI) (p_aCons (ea := D.int) (p_Fn (ez := D.int) (p_aCons (ea := D.int) (p_C (e := D.int)) (p_aCons (ea := D.int) (p_Bb (e := D.int) (.s (.s .z))) p_aNil)) ot_max2) p_aNil))) (fun _ => oo_R3)) trivial rfl (fun _ _ => (tgN (.s (.s (.s (.s .z)))))) (fun x s => t_b1_l_lines v_cells v_marks_here v_wide x s) (fun s1 => ?_)
  show Sm _ _ _ _ _ [.bo ((eL D.int) v_cells), .bo ((eL D.str) v_marks_here), .bo (D.int v_wide), .ow ((eL (eL D.str)) s1), .un, .un] _
  exact t_retVo (eb := (eL (eL D.str))) (.s (.s (.s .z))) (rn_ow _)
theorem ty_l_lines (v_cells : (List Int)) (v_marks_here : (List Str)) (v_wide : Int) : FnT (eL (eL D.str)) m_l_lines [(eL D.int) v_cells, (eL D.str) v_marks_here, D.int v_wide] (f_l_lines v_cells v_marks_here v_wide) := (tyN_l_lines v_cells v_marks_here v_wide).toT
def f_l_classes (v_e : D) : M (List Str) := runO none (
 (M.bind (M.pure ([] : List Str)) fun v_told =>
 (bindO (σ := (List Str)) (M.bind (isXM isx_NoThing v_e) fun t1 => if t1 = true then
 (M.bind (M.pure ("NoThing" : Str)) fun t4 => M.bind (M.opt (gApp v_told t4)) fun v_told =>
 (M.pure (.nx v_told)))
 else (M.pure (.nx v_told))) fun s3 =>
 (bindO (σ := (List Str)) (M.bind (isXM isx_NoPlace v_e) fun t5 => if t5 = true then
 (M.bind (M.pure ("NoPlace" : Str)) fun t8 => M.bind (M.opt (gApp s3 t8)) fun v_told =>
 (M.pure (.nx v_told)))
 else (M.pure (.nx s3))) fun s7 =>
 (bindO (σ := (List Str)) (M.bind (M.bind (isXM isx_NoFault v_e) fun t11 => (if t11 = true then M.pure true else (M.bind (isXM isx_NoRule v_e) fun t10 => (if t10 = true then M.pure true else (M.bind (isXM isx_Spent v_e) fun t9 => (if t9 = true then M.pure true else (isXM isx_Healthy v_e))))))) fun t12 => if t12 = true then
 (M.bind (M.pure ("another" : Str)) fun t15 => M.bind (M.opt (gApp s7 t15)) fun v_told =>
 (M.pure (.nx v_told)))
 else (M.pure (.nx s7))) fun s14 =>
 (bindO (σ := (List Str)) (M.bind (M.bind (isXM isx_NoText v_e) fun t18 => (if t18 = true then M.pure true else (M.bind (isXM isx_NoRow v_e) fun t17 => (if t17 = true then M.pure true else (M.bind (isXM isx_ValueError v_e) fun t16 => M.pure (!t16)))))) fun t19 => if t19 = true then
 (M.bind (M.pure ("another" : Str)) fun t22 => M.bind (M.opt (gApp s14 t22)) fun v_told =>
 (M.pure (.nx v_told)))
 else (M.pure (.nx s14))) fun s21 =>
 (M.pure (.rt s21))))))))
theorem tyN_l_classes (v_e : D) : FnN (eL D.str) m_l_classes [iN v_e] (f_l_classes v_e) := by
  unfold f_l_classes
  refine t_fnN (Ef := fun _ => [.un, .un]) (Lf := fun _ => []) rfl (.t (.n (.s .z))) ?_
  unfold c_l_classes
  refine t_setN (en := (eL D.str)) (Pv.x (p_Lst (ez := (eL D.str)) p_aNil (Nat.le_of_ble_eq_true rfl) rfl)) trivial (fun _ => (.s .z)) (fun v_told => ?_)
  refine t_seq (E' := (fun s3 : (List Str) => ([.bo (iN v_e), .ow ((eL D.str) s3)] : Env))) (t_if1 (x_TrBm (p_isX (p_Bb (e := iN) .z))) trivial ?_ ?_) (fun s3 => ?_)
  · refine t_app (en := D.str) (.s .z) (Pv.x (p_C (e := D.str))) trivial (fun _ => (.s .z)) (fun v_told => ?_)
    refine t_wipe (is := []) .nil ?_
    exact t_nil rfl
  · refine t_wipe (is := []) .nil ?_
    exact t_nil rfl
  · refine t_seq (E' := (fun s7 : (List Str) => ([.bo (iN v_e), .ow ((eL D.str) s7)] : Env))) (t_if1 (x_TrBm (p_isX (p_Bb (e := iN) .z))) trivial ?_ ?_) (fun s7 => ?_)
    · refine t_app (en := D.str) (.s .z) (Pv.x (p_C (e := D.str))) trivial (fun _ => (.s .z)) (fun v_told => ?_)
      refine t_wipe (is := []) .nil ?_
      exact t_nil rfl
    · refine t_wipe (is := []) .nil ?_
      exact t_nil rfl
    · refine t_seq (E' := (fun s14 : (List Str) => ([.bo (iN v_e), .ow ((eL D.str) s14)] : Env))) (t_if1 (xx_tOr (x_TrBm (p_isX (p_Bb (e := iN) .z))) (xx_tOr (x_TrBm (p_isX (p_Bb (e := iN) .z))) (xx_tOr (x_TrBm (p_isX (p_Bb (e := iN) .z))) (x_TrBm (p_isX (p_Bb (e := iN) .z)))))) trivial ?_ ?_) (fun s14 => ?_)
      · refine t_app (en := D.str) (.s .z) (Pv.x (p_C (e := D.str))) trivial (fun _ => (.s .z)) (fun v_told => ?_)
        refine t_wipe (is := []) .nil ?_
        exact t_nil rfl
      · refine t_wipe (is := []) .nil ?_
        exact t_nil rfl
      · refine t_seq (E' := (fun s21 : (List Str) => ([.un, .ow ((eL D.str) s21)] : Env))) (t_if1 (xx_tOr (x_TrBm (p_isX (p_Bb (e := iN) .z))) (xx_tOr (x_TrBm (p_isX (p_Bb (e := iN) .z))) (x_tNot' (x_TrBm (p_isX (p_Bb (e := iN) .z)))))) trivial ?_ ?_) (fun s21 => ?_)
        · refine t_app (en := D.str) (.s .z) (Pv.x (p_C (e := D.str))) trivial (fun _ => (.s .z)) (fun v_told => ?_)
          refine t_wipe (is := [0]) (.cons .nil .z) ?_
          exact t_nil rfl
        · refine t_wipe (is := [0]) (.cons .nil .z) ?_
          exact t_nil rfl
        · exact t_retVo (eb := (eL D.str)) (.s .z) (rn_ow _)
theorem ty_l_classes (v_e : D) : FnT (eL D.str) m_l_classes [iN v_e] (f_l_classes v_e) := (tyN_l_classes v_e).toT
def f_l_refused (v_thing : D) : M Bool := runO none (
 (bindO (σ := Unit) (tryO hit_ShrinkError
 (M.bind (f_p_Table_init 12 v_thing) fun t5 =>
 (M.pure (.nx ())))
 (fun n => (M.bind (M.bind (M.noexc (f_l_classes (D.exn n))) fun t6 => M.pure (decide (t6 = [("NoThing" : Str)]))) fun t7 => M.pure (.rt t7)))) fun s4 =>
 (M.bind (M.pure false) fun t8 => M.pure (.rt t8))))
theorem ty_l_refused (v_thing : D) : FnT D.bl m_l_refused [iN v_thing] (f_l_refused v_thing) := by
  unfold f_l_refused
  refine t_fn (Ef := fun _ => [.un, .un]) (Lf := fun _ => []) rfl (.t (.n (.s .z))) (fun _ h => nomatch h) ?_
  unfold c_l_refused
  refine t_seq (E' := (fun s4 : Unit => ([.un, .un] : Env))) (t_tryT ?_ trivial (fun _ => (.s .z)) (fun n => ?_) (fun _ => rfl) (fun _ => rfl)) (fun s4 => ?_)
  · refine t_drop (en := iN) (x_makeP (p_aCons (ea := iN) (p_Bb (e := iN) .z) p_aNil) (ty_p_Table_init _ _)) rfl (fun _ => ?_)
    refine t_wipe (is := [0, 1]) (.cons (.cons .nil (.s .z)) .z) ?_
    exact t_nil rfl
  · exact t_ret (eb := D.bl) (xp_bin (x_callQP (p_aCons (ea := iN) (p_Bf (e := iN) (.s .z)) p_aNil) (ty_l_classes _)) (p_Lst (ez := (eL D.str)) (p_aCons (ea := D.str) (p_C (e := D.str)) p_aNil) (Nat.le_of_ble_eq_true rfl) rfl) (fun _ => (ot_eq (eqL eqS)))) trivial (fun _ => rf_fr _)
  · exact t_ret (eb := D.bl) (Pv.x (p_C (e := D.bl))) trivial (fun _ => rf_fr _)
def f_l_wrong (v_lines_here : (List (List Str))) (v_wide : Int) (v_cell : Int) (v_mark : Str) : M D := runO none (
 (M.bind (M.pure (v_cell % (4 : Int))) fun v_way =>
 (if (decide (v_way = (0 : Int))) = true then
 (M.bind (M.opt (gIx [(iU ()), (D.int (3 : Int)), (D.bl true), (D.str ("" : Str)), (D.str v_mark), ((eTL (eL D.str)) v_lines_here), ((eL D.str) [v_mark]), ((eL iU) [()]), ((eL iN) [(D.tup [(D.str v_mark)])]), ((eL iN) [((eL D.str) [v_mark]), (iU ())])] ((v_cell / (4 : Int)) % (10 : Int)))) fun t2 => M.pure (.rt t2))
 else (M.bind (lcO (fun x3 => (M.pure true)) (fun x3 => (M.pure (List.map D.str x3))) v_lines_here []) fun v_wrong_here =>
 (M.bind (M.opt (gMod (v_cell / (40 : Int)) (((List.length v_lines_here : Nat) : Int) + (1 : Int)))) fun v_at =>
 (if (decide (v_way = (1 : Int))) = true then
 (M.bind (M.opt (gIx [(D.str ("" : Str)), (D.str ("A" : Str)), (D.str ("abcdefghi" : Str)), (iU ()), (D.int (1 : Int)), (D.bl false), ((eL D.str) [v_mark]), (D.str ("a " : Str)), (D.str ("-" : Str)), (D.str ("/" : Str))] ((v_cell / (4 : Int)) % (10 : Int)))) fun v_bad =>
 (M.bind (M.bind (M.opt (gR1 (max2 (1 : Int) v_wide))) fun t6 => lcO (fun x5 => (M.pure true)) (fun x5 => (M.pure (D.str v_mark))) t6 []) fun v_line =>
 (M.bind (M.pure v_bad) fun t7 => M.bind (M.opt (gMod (v_cell / (600 : Int)) ((List.length v_line : Nat) : Int))) fun t8 => M.bind (M.opt (gSetIx v_line t8 t7)) fun v_line =>
 (if (decide (v_wide = (0 : Int))) = true then
 (M.bind (M.pure ((eL (eL iN)) [v_line])) fun t10 => M.pure (.rt t10))
 else (M.bind (M.pure v_at) fun t11 => M.bind (M.pure v_line) fun t12 => M.bind (M.opt (gIns v_wrong_here t11 t12)) fun v_wrong_here =>
 (M.bind (M.pure ((eL (eL iN)) (cutD v_wrong_here none (some ((12 : Int) + v_at))))) fun t13 => M.pure (.rt t13)))))))
 else (if ((decide (v_way = (2 : Int))) && (decide (((List.length v_lines_here : Nat) : Int) > (0 : Int)))) = true then
 (M.bind (M.bind (M.opt (gR1 (v_wide + (1 : Int)))) fun t16 => lcO (fun x15 => (M.pure true)) (fun x15 => (M.pure (D.str v_mark))) t16 []) fun t17 => M.bind (M.opt (gMod (v_cell / (40 : Int)) ((List.length v_lines_here : Nat) : Int))) fun t18 => M.bind (M.opt (gSetIx v_wrong_here t18 t17)) fun v_wrong_here =>
 (if ((decide (((List.length v_lines_here : Nat) : Int) = (1 : Int))) || (decide (v_wide = (12 : Int)))) = true then
 (M.bind (M.bind (M.bind (M.bind (M.opt (gR1 (13 : Int))) fun t23 => lcO (fun x22 => (M.pure true)) (fun x22 => (M.pure v_mark)) t23 []) fun t24 => M.pure [t24]) fun t25 => M.pure ((eL (eL D.str)) t25)) fun t26 => M.pure (.rt t26))
 else (M.pure (.rt ((eL (eL iN)) v_wrong_here)))))
 else (M.bind (M.bind (M.bind (M.opt (gR1 (13 : Int))) fun t30 => lcO (fun x27 => (M.pure true)) (fun x27 => (M.bind (M.opt (gR1 (min2 v_wide (12 : Int)))) fun t29 => lcO (fun x28 => (M.pure true)) (fun x28 => (M.pure v_mark)) t29 [])) t30 []) fun t31 => M.pure ((eL (eL D.str)) t31)) fun t32 => M.pure (.rt t32)))))))))
theorem ty_l_wrong (v_lines_here : (List (List Str))) (v_wide : Int) (v_cell : Int) (v_mark : Str) : FnT iN m_l_wrong [(eL (eL D.str)) v_lines_here, D.int v_wide, D.int v_cell, D.str v_mark] (f_l_wrong v_lines_here v_wide v_cell v_mark) := by
  unfold f_l_wrong
  refine t_fn (Ef := fun _ => [.un, .un, .un, .un, .un, .un, .un, .un, .un, .un, .un]) (Lf := fun _ => []) rfl (.t (.t (.t (.f (.n (.s (.s (.s (.s (.s (.s (.s .z)))))))))))) (fun _ h => nomatch h) ?_
  unfold c_l_wrong
  refine t_set (en := D.int) (Pv.x (pp_bin (p_Bb (e := D.int) (.s (.s .z))) (p_C (e := D.int)) ot_mod)) trivial (fun _ => (.s (.s (.s (.s .z))))) (fun v_way => ?_)
  refine t_ifP (p_TrB (pp_bin (p_Bf (e := D.int) (.s (.s (.s (.s .z))))) (p_C (e := D.int)) (ot_eq eqI))) ?_ ?_
  · refine t_assoc ?_
    exact t_ret (eb := iN) (pp_binO (p_Lst (ez := (eL iN)) (p_aCons (ea := iN) (p_up (ea := iU) (p_Cd (e := iU) (a := ()) rfl)) (p_aCons (ea := iN) (p_up (ea := D.int) (p_C (e := D.int))) (p_aCons (ea := iN) (p_up (ea := D.bl) (p_C (e := D.bl))) (p_aCons (ea := iN) (p_up (ea := D.str) (p_C (e := D.str))) (p_aCons (ea := iN) (p_up (ea := D.str) (p_V (e := D.str) (.s (.s (.s .z))))) (p_aCons (ea := iN) (p_up (ea := (eTL (eL D.str))) (p_Fn (ez := (eTL (eL D.str))) (p_aCons (ea := (eL (eL D.str))) (p_Bb (e := (eL (eL D.str))) .z) p_aNil) ot_tupL)) (p_aCons (ea := iN) (p_up (ea := (eL D.str)) (p_Lst (ez := (eL D.str)) (p_aCons (ea := D.str) (p_V (e := D.str) (.s (.s (.s .z)))) p_aNil) (Nat.le_of_ble_eq_true rfl) rfl)) (p_aCons (ea := iN) (p_up (ea := (eL iU)) (p_Lst (ez := (eL iU)) (p_aCons (ea := iU) (p_Cd (e := iU) (a := ()) rfl) p_aNil) (Nat.le_of_ble_eq_true rfl) rfl)) (p_aCons (ea := iN) (p_up (ea := (eL iN)) (p_Lst (ez := (eL iN)) (p_aCons (ea := iN) (p_Tup (ez := iN) (p_aCons (ea := iN) (p_up (ea := D.str) (p_V (e := D.str) (.s (.s (.s .z))))) p_aNil) (Nat.le_of_ble_eq_true rfl) rfl) p_aNil) (Nat.le_of_ble_eq_true rfl) rfl)) (p_aCons (ea := iN) (p_up (ea := (eL iN)) (p_Lst (ez := (eL iN)) (p_aCons (ea := iN) (p_up (ea := (eL D.str)) (p_Lst (ez := (eL D.str)) (p_aCons (ea := D.str) (p_V (e := D.str) (.s (.s (.s .z)))) p_aNil) (Nat.le_of_ble_eq_true rfl) rfl)) (p_aCons (ea := iN) (p_up (ea := iU) (p_Cd (e := iU) (a := ()) rfl)) p_aNil)) (Nat.le_of_ble_eq_true rfl) rfl)) p_aNil)))))))))) (Nat.le_of_ble_eq_true rfl) rfl) (pp_bin (pp_bin (p_Bb (e := D.int) (.s (.s .z))) (p_C (e := D.int)) ot_div) (p_C (e := D.int)) ot_mod) (fun _ => oo_ixL)) trivial (fun _ => rf_fr _)
  · refine t_nxl ?_
    refine t_setN (en := (eL (eL iN))) (p_Lc (ei := (eL D.str)) (eb := (eL iN)) (p_iBb (ea := (eL D.str)) .z) (.cons .nil (.s (.s (.s (.s (.s (.s (.s (.s .z))))))))) (fun _ => (tgN (.s (.s (.s (.s (.s (.s (.s (.s .z)))))))))) (fun x3 => (Pv.x p_Yes)) (fun x3 => (Pv.x (p_as (ea := (eL D.str)) (e' := (eL iN)) (p_Fn (ez := (eL D.str)) (p_aCons (ea := (eL D.str)) (p_Bf (e := (eL D.str)) (.s (.s (.s (.s (.s (.s (.s (.s .z))))))))) p_aNil) ot_listL) (up_L))))) trivial (fun _ => (.s (.s (.s (.s (.s .z)))))) (fun v_wrong_here => ?_)
    refine t_set (en := D.int) (pp_binO (pp_bin (p_Bb (e := D.int) (.s (.s .z))) (p_C (e := D.int)) ot_div) (pp_bin (p_Fn (ez := D.int) (p_aCons (ea := (eL (eL D.str))) (p_Bb (e := (eL (eL D.str))) .z) p_aNil) ot_lenL) (p_C (e := D.int)) ot_addI) (fun _ => oo_mod)) trivial (fun _ => (.s (.s (.s (.s (.s (.s .z))))))) (fun v_at => ?_)
    refine t_ifP (p_TrB (pp_bin (p_Bf (e := D.int) (.s (.s (.s (.s .z))))) (p_C (e := D.int)) (ot_eq eqI))) ?_ ?_
    · refine t_assoc ?_
      refine t_set (en := iN) (pp_binO (p_Lst (ez := (eL iN)) (p_aCons (ea := iN) (p_up (ea := D.str) (p_C (e := D.str))) (p_aCons (ea := iN) (p_up (ea := D.str) (p_C (e := D.str))) (p_aCons (ea := iN) (p_up (ea := D.str) (p_C (e := D.str))) (p_aCons (ea := iN) (p_up (ea := iU) (p_Cd (e := iU) (a := ()) rfl)) (p_aCons (ea := iN) (p_up (ea := D.int) (p_C (e := D.int))) (p_aCons (ea := iN) (p_up (ea := D.bl) (p_C (e := D.bl))) (p_aCons (ea := iN) (p_up (ea := (eL D.str)) (p_Lst (ez := (eL D.str)) (p_aCons (ea := D.str) (p_V (e := D.str) (.s (.s (.s .z)))) p_aNil) (Nat.le_of_ble_eq_true rfl) rfl)) (p_aCons (ea := iN) (p_up (ea := D.str) (p_C (e := D.str))) (p_aCons (ea := iN) (p_up (ea := D.str) (p_C (e := D.str))) (p_aCons (ea := iN) (p_up (ea := D.str) (p_C (e := D.str))) p_aNil)))))))))) (Nat.le_of_ble_eq_true rfl) rfl) (pp_bin (pp_bin (p_Bb (e := D.int) (.s (.s .z))) (p_C (e := D.int)) ot_div) (p_C (e := D.int)) ot_mod) (fun _ => oo_ixL)) trivial (fun _ => (.s (.s (.s (.s (.s (.s (.s .z)))))))) (fun v_bad => ?_)
      refine t_assoc ?_
      refine t_setN (en := (eL iN)) (x_Lc' (ei := D.int) (eb := iN) (p_iFn (ez := D.int) (p_aCons (ea := D.int) (p_Fn (ez := D.int) (p_aCons (ea := D.int) (p_C (e := D.int)) (p_aCons (ea := D.int) (p_Bb (e := D.int) (.s .z)) p_aNil)) ot_max2) p_aNil) (fun _ => oo_R1)) (.cons .nil (.s (.s (.s (.s (.s (.s (.s (.s (.s (.s .z))))))))))) (fun _ => (tgN (.s (.s (.s (.s (.s (.s (.s (.s (.s (.s .z)))))))))))) (fun x5 => (Pv.x p_Yes)) (fun x5 => (Pv.x (p_up (ea := D.str) (p_V (e := D.str) (.s (.s (.s .z)))))))) trivial (fun _ => (.s (.s (.s (.s (.s (.s (.s (.s .z))))))))) (fun v_line => ?_)
      refine t_assoc ?_
      refine t_setIx (en := iN) (.s (.s (.s (.s (.s (.s (.s (.s .z)))))))) (Pv.x (p_V (e := iN) (.s (.s (.s (.s (.s (.s (.s .z))))))))) (pp_binO (pp_bin (p_Bb (e := D.int) (.s (.s .z))) (p_C (e := D.int)) ot_div) (p_Fn (ez := D.int) (p_aCons (ea := (eL iN)) (p_Bo (e := (eL iN)) (.s (.s (.s (.s (.s (.s (.s (.s .z))))))))) p_aNil) ot_lenL) (fun _ => oo_mod)) trivial (fun _ => (.s (.s (.s (.s (.s (.s (.s (.s .z))))))))) (fun v_line => ?_)
      refine t_assoc ?_
      refine t_ifP (p_TrB (pp_bin (p_Bb (e := D.int) (.s .z)) (p_C (e := D.int)) (ot_eq eqI))) ?_ ?_
      · refine t_assoc ?_
        refine t_fzo (.s (.s (.s (.s (.s (.s (.s (.s .z)))))))) (.s (.s (.s (.s (.s (.s (.s (.s .z)))))))) ?_
        refine t_assoc ?_
        exact t_retN (eb := iN) (Pv.x (p_up (ea := (eL (eL iN))) (p_Lst (ez := (eL (eL iN))) (p_aCons (ea := (eL iN)) (p_V (e := (eL iN)) (.s (.s (.s (.s (.s (.s (.s (.s .z))))))))) p_aNil) (Nat.le_of_ble_eq_true rfl) rfl))) trivial (fun _ => rf_ow _)
      · refine t_nxl ?_
        refine t_assoc ?_
        refine t_fzo (.s (.s (.s (.s (.s (.s (.s (.s .z)))))))) (.s (.s (.s (.s (.s (.s (.s (.s .z)))))))) ?_
        refine t_assoc ?_
        refine t_ins (en := (eL iN)) (.s (.s (.s (.s (.s .z))))) (Pv.x (p_Bf (e := D.int) (.s (.s (.s (.s (.s (.s .z)))))))) (Pv.x (p_V (e := (eL iN)) (.s (.s (.s (.s (.s (.s (.s (.s .z)))))))))) trivial (fun _ => (.s (.s (.s (.s (.s .z)))))) (fun v_wrong_here => ?_)
        refine t_assoc ?_
        exact t_retN (eb := iN) (Pv.x (p_up (ea := (eL (eL iN))) (p_Cut (p_Bo (e := (eL (eL iN))) (.s (.s (.s (.s (.s .z)))))) p_No (p_At (pp_bin (p_C (e := D.int)) (p_Bf (e := D.int) (.s (.s (.s (.s (.s (.s .z))))))) ot_addI)) ot_cutLN))) trivial (fun _ => rf_ow _)
    · refine t_nxl ?_
      refine t_ifP (p_tAnd (p_TrB (pp_bin (p_Bf (e := D.int) (.s (.s (.s (.s .z))))) (p_C (e := D.int)) (ot_eq eqI))) (p_TrB (pp_bin (p_Fn (ez := D.int) (p_aCons (ea := (eL (eL D.str))) (p_Bb (e := (eL (eL D.str))) .z) p_aNil) ot_lenL) (p_C (e := D.int)) ot_gt))) ?_ ?_
      · refine t_assoc ?_
        refine t_setIx (en := (eL iN)) (.s (.s (.s (.s (.s .z))))) (x_Lc' (ei := D.int) (eb := iN) (p_iFn (ez := D.int) (p_aCons (ea := D.int) (pp_bin (p_Bb (e := D.int) (.s .z)) (p_C (e := D.int)) ot_addI) p_aNil) (fun _ => oo_R1)) (.cons .nil (.s (.s (.s (.s (.s (.s (.s (.s (.s (.s .z))))))))))) (fun _ => (tgN (.s (.s (.s (.s (.s (.s (.s (.s (.s (.s .z)))))))))))) (fun x15 => (Pv.x p_Yes)) (fun x15 => (Pv.x (p_up (ea := D.str) (p_V (e := D.str) (.s (.s (.s .z)))))))) (pp_binO (pp_bin (p_Bb (e := D.int) (.s (.s .z))) (p_C (e := D.int)) ot_div) (p_Fn (ez := D.int) (p_aCons (ea := (eL (eL D.str))) (p_Bb (e := (eL (eL D.str))) .z) p_aNil) ot_lenL) (fun _ => oo_mod)) trivial (fun _ => (.s (.s (.s (.s (.s .z)))))) (fun v_wrong_here => ?_)
        refine t_assoc ?_
        refine t_ifP (p_tOr (p_TrB (pp_bin (p_Fn (ez := D.int) (p_aCons (ea := (eL (eL D.str))) (p_Bb (e := (eL (eL D.str))) .z) p_aNil) ot_lenL) (p_C (e := D.int)) (ot_eq eqI))) (p_TrB (pp_bin (p_Bb (e := D.int) (.s .z)) (p_C (e := D.int)) (ot_eq eqI)))) ?_ ?_
        · refine t_assoc ?_
          exact t_retN (eb := iN) (x_up (ea := (eL (eL D.str))) (x_Lst' (ez := (eL (eL D.str))) (xa_1 (ea := (eL D.str)) (x_Lc' (ei := D.int) (eb := D.str) (p_iFn (ez := D.int) (p_aCons (ea := D.int) (p_C (e := D.int)) p_aNil) (fun _ => oo_R1)) (.cons .nil (.s (.s (.s (.s (.s (.s (.s (.s (.s (.s .z))))))))))) (fun _ => (tgN (.s (.s (.s (.s (.s (.s (.s (.s (.s (.s .z)))))))))))) (fun x22 => (Pv.x p_Yes)) (fun x22 => (Pv.x (p_V (e := D.str) (.s (.s (.s .z))))))) p_aNil) (fun _ => Nat.le_of_ble_eq_true rfl) (fun _ => rfl))) trivial (fun _ => rf_ow _)
        · refine t_nxl ?_
          refine t_assoc ?_
          exact t_retVo (eb := iN) (.s (.s (.s (.s (.s .z))))) (rf_ow _)
      · refine t_nxl ?_
        exact t_retN (eb := iN) (x_up (ea := (eL (eL D.str))) (x_Lc' (ei := D.int) (eb := (eL D.str)) (p_iFn (ez := D.int) (p_aCons (ea := D.int) (p_C (e := D.int)) p_aNil) (fun _ => oo_R1)) (.cons .nil (.s (.s (.s (.s (.s (.s (.s (.s (.s .z)))))))))) (fun _ => (tgN (.s (.s (.s (.s (.s (.s (.s (.s (.s .z))))))))))) (fun x27 => (Pv.x p_Yes)) (fun x27 => (x_Lc' (ei := D.int) (eb := D.str) (p_iFn (ez := D.int) (p_aCons (ea := D.int) (p_Fn (ez := D.int) (p_aCons (ea := D.int) (p_Bb (e := D.int) (.s .z)) (p_aCons (ea := D.int) (p_C (e := D.int)) p_aNil)) ot_min2) p_aNil) (fun _ => oo_R1)) (.cons .nil (.s (.s (.s (.s (.s (.s (.s (.s (.s (.s .z))))))))))) (fun _ => (tgN (.s (.s (.s (.s (.s (.s (.s (.s (.s (.s .z)))))))))))) (fun x28 => (Pv.x p_Yes)) (fun x28 => (Pv.x (p_V (e := D.str) (.s (.s (.s .z)))))))))) trivial (fun _ => rf_ow _)
abbrev L1_l_holds (v_one : D) (v_lines_here : (List (List Str))) (v_wide : Int) : (List Str) → Env := fun s => [.bo (iN v_one), .bo ((eL (eL D.str)) v_lines_here), .fr (D.int v_wide), .fr ((eL D.str) s), .un, .un, .un, .un]
def f_b1_l_holds  (x6 : (List Str)) (v_spots : (List Str)) : M (O (List Str) (List Str) Bool) :=
 (M.bind (M.opt (gCatL v_spots x6)) fun v_spots =>
 (M.pure (.nx v_spots)))
theorem t_b1_l_holds (v_one : D) (v_lines_here : (List (List Str))) (v_wide : Int) (x6 : (List Str)) (v_spots : (List Str)) : Sm (L1_l_holds v_one v_lines_here v_wide) (L1_l_holds v_one v_lines_here v_wide) (RF D.bl) XT b1_l_holds [.bo (iN v_one), .bo ((eL (eL D.str)) v_lines_here), .fr (D.int v_wide), .fr ((eL D.str) v_spots), .fr ((eL D.str) x6), .un, .un, .un] (f_b1_l_holds  x6 v_spots) := by
  unfold b1_l_holds f_b1_l_holds
  refine t_set (en := (eL D.str)) (pp_binO (p_Bf (e := (eL D.str)) (.s (.s (.s .z)))) (p_Bf (e := (eL D.str)) (.s (.s (.s (.s .z))))) (fun _ => oo_addL)) trivial (fun _ => (.s (.s (.s .z)))) (fun v_spots => ?_)
  refine t_wipe (is := [4, 5, 6, 7]) (.cons (.cons (.cons (.cons .nil (.s (.s (.s (.s (.s (.s (.s .z)))))))) (.s (.s (.s (.s (.s (.s .z))))))) (.s (.s (.s (.s (.s .z)))))) (.s (.s (.s (.s .z))))) ?_
  exact t_nil rfl
def f_l_holds (v_one : D) (v_lines_here : (List (List Str))) : M Bool := runO none (
 (M.bind (M.pure (0 : Int)) fun v_wide =>
 (bindO (σ := Int) (if (decide (((List.length v_lines_here : Nat) : Int) > (0 : Int))) = true then
 (M.bind (M.bind (M.opt (gIx v_lines_here (0 : Int))) fun t4 => M.pure ((List.length t4 : Nat) : Int)) fun v_wide =>
 (M.pure (.nx v_wide)))
 else (M.pure (.nx v_wide))) fun s3 =>
 (M.bind (M.pure ([] : List Str)) fun v_spots =>
 (M.bind (M.pure v_lines_here) fun t35 => bindO (forO (fun x s5 => f_b1_l_holds  x s5) t35 (v_spots : (List Str))) fun s5 =>
 (M.bind (M.bind (methM "many" mt_many resF v_one (M.pure [])) fun t7 => M.opt (uI t7)) fun v_found =>
 (M.bind (M.bind (M.bind (isOM sub 9 v_one) fun t8 => M.pure (!t8)) fun t11 => (if t11 = true then M.pure true else (M.bind (M.bind (f_l_whole (D.int v_found)) fun t9 => M.pure (!t9)) fun t10 => M.pure (t10 || (!decide (v_found = (((List.length v_lines_here : Nat) : Int) + s3))))))) fun t12 => if t12 = true then
 (M.bind (M.pure false) fun t13 => M.pure (.rt t13))
 else (M.bind (M.bind (methM "spots" mt_spots resN v_one (M.pure [])) fun t14 => M.opt ((uL uS) t14)) fun v_told =>
 (if ((!true) || (!decide (v_told = s5))) = true then
 (M.bind (M.pure false) fun t16 => M.pure (.rt t16))
 else (M.bind (M.pure ("more" : Str)) fun t17 => M.bind (M.opt (gApp v_told t17)) fun v_told =>
 (M.bind (methM "form" mt_form resF v_one (M.pure [])) fun v_form =>
 (M.bind (M.bind (M.bind (M.opt (D.isT "tuple" v_form)) fun t18 => M.pure (!t18)) fun t23 => (if t23 = true then M.pure true else (M.bind (M.bind (M.opt (gI (fLen [v_form]))) fun t19 => M.pure (!decide (t19 = (3 : Int)))) fun t22 => (if t22 = true then M.pure true else (M.bind (M.bind (M.opt (oIx v_form (D.int (1 : Int)))) fun t20 => f_l_whole t20) fun t21 => M.pure (!t21)))))) fun t24 => if t24 = true then
 (M.bind (M.pure false) fun t25 => M.pure (.rt t25))
 else (M.bind (M.bind (M.bind (M.bind (M.bind (M.bind (lcO (fun x26 => (M.pure true)) (fun x26 => (M.pure x26)) v_lines_here []) fun t27 => M.pure t27) fun t28 => M.pure (("table" : Str), s3, t28)) fun t29 => M.pure ((eP3 D.str D.int (eTL (eTL D.str))) t29)) fun t30 => M.opt (D.eq? v_form t30)) fun t33 => (if t33 = true then (M.bind (M.bind (methM "spots" mt_spots resF v_one (M.pure [])) fun t31 => M.opt ((uL uS) t31)) fun t32 => M.pure (decide (t32 = s5))) else M.pure false)) fun t34 => M.pure (.rt t34))))))))))))))
theorem ty_l_holds (v_one : D) (v_lines_here : (List (List Str))) : FnT D.bl m_l_holds [iN v_one, (eL (eL D.str)) v_lines_here] (f_l_holds v_one v_lines_here) := by
  unfold f_l_holds
  refine t_fn (Ef := fun _ => [.un, .un, .un, .un, .un, .un, .un, .un]) (Lf := fun _ => []) rfl (.t (.t (.n (.s (.s (.s (.s (.s (.s .z))))))))) (fun _ h => nomatch h) ?_
  unfold c_l_holds
  refine t_set (en := D.int) (Pv.x (p_C (e := D.int))) trivial (fun _ => (.s (.s .z))) (fun v_wide => ?_)
  refine t_seq (E' := (fun s3 : Int => ([.bo (iN v_one), .bo ((eL (eL D.str)) v_lines_here), .fr (D.int s3), .un, .un, .un, .un, .un] : Env))) (t_ifP1 (p_TrB (pp_bin (p_Fn (ez := D.int) (p_aCons (ea := (eL (eL D.str))) (p_Bb (e := (eL (eL D.str))) (.s .z)) p_aNil) ot_lenL) (p_C (e := D.int)) ot_gt)) ?_ ?_) (fun s3 => ?_)
  · refine t_set (en := D.int) (x_FnT (ez := D.int) (xa_1 (ea := (eL D.str)) (pp_binO (p_Bb (e := (eL (eL D.str))) (.s .z)) (p_C (e := D.int)) (fun _ => oo_ixL)) p_aNil) (fun _ => ot_lenL)) trivial (fun _ => (.s (.s .z))) (fun v_wide => ?_)
    refine t_wipe (is := [3, 4, 5, 6, 7]) (.cons (.cons (.cons (.cons (.cons .nil (.s (.s (.s (.s (.s (.s (.s .z)))))))) (.s (.s (.s (.s (.s (.s .z))))))) (.s (.s (.s (.s (.s .z)))))) (.s (.s (.s (.s .z))))) (.s (.s (.s .z)))) ?_
    exact t_nil rfl
  · refine t_wipe (is := [3, 4, 5, 6, 7]) (.cons (.cons (.cons (.cons (.cons .nil (.s (.s (.s (.s (.s (.s (.s .z)))))))) (.s (.s (.s (.s (.s (.s .z))))))) (.s (.s (.s (.s (.s .z)))))) (.s (.s (.s (.s .z))))) (.s (.s (.s .z)))) ?_
    exact t_nil rfl
  · refine t_set (en := (eL D.str)) (Pv.x (p_Lst (ez := (eL D.str)) p_aNil (Nat.le_of_ble_eq_true rfl) rfl)) trivial (fun _ => (.s (.s (.s .z)))) (fun v_spots => ?_)
    refine t_wipe (is := []) .nil ?_
    refine t_for (L' := (L1_l_holds v_one v_lines_here s3)) (ei := (eL D.str)) (Pv.x (p_iBb (ea := (eL D.str)) (.s .z))) trivial rfl (fun _ _ => (tgN (.s (.s (.s (.s .z)))))) (fun x s => t_b1_l_holds v_one v_lines_here s3 x s) (fun s5 => ?_)
    show Sm _ _ _ _ _ [.bo (iN v_one), .bo ((eL (eL D.str)) v_lines_here), .fr (D.int s3), .fr ((eL D.str) s5), .un, .un, .un, .un] _
    refine t_set (en := D.int) (x_castX unI (p_methP (ea := iN) (p_Bb (e := iN) .z) p_aNil)) trivial (fun _ => (.s (.s (.s (.s (.s .z)))))) (fun v_found => ?_)
    refine t_if (xx_tOr (x_tNot' (x_TrBm (p_isO (ea := iN) (p_Bb (e := iN) .z)))) (xp_tOr (x_tNot' (x_TrBm (x_callP (p_aCons (ea := iN) (p_up (ea := D.int) (p_Bf (e := D.int) (.s (.s (.s (.s (.s .z))))))) p_aNil) (ty_l_whole _)))) (p_TrB (pp_bin (p_Bf (e := D.int) (.s (.s (.s (.s (.s .z)))))) (pp_bin (p_Fn (ez := D.int) (p_aCons (ea := (eL (eL D.str))) (p_Bb (e := (eL (eL D.str))) (.s .z)) p_aNil) ot_lenL) (p_Bf (e := D.int) (.s (.s .z))) ot_addI) (ot_ne eqI))))) trivial ?_ ?_
    · refine t_assoc ?_
      exact t_ret (eb := D.bl) (Pv.x (p_C (e := D.bl))) trivial (fun _ => rf_fr _)
    · refine t_nxl ?_
      refine t_setN (en := (eL D.str)) (x_castX (unL unS) (p_methP (ea := iN) (p_Bb (e := iN) .z) p_aNil)) trivial (fun _ => (.s (.s (.s (.s (.s (.s .z))))))) (fun v_told => ?_)
      refine t_ifP (p_tOr (p_tNot (p_TrB (p_isT (p_Bo (e := (eL D.str)) (.s (.s (.s (.s (.s (.s .z))))))) (by rfl)))) (p_TrB (pp_bin (p_Bo (e := (eL D.str)) (.s (.s (.s (.s (.s (.s .z))))))) (p_Bf (e := (eL D.str)) (.s (.s (.s .z)))) (ot_ne (eqL eqS))))) ?_ ?_
      · refine t_assoc ?_
        exact t_ret (eb := D.bl) (Pv.x (p_C (e := D.bl))) trivial (fun _ => rf_fr _)
      · refine t_nxl ?_
        refine t_app (en := D.str) (.s (.s (.s (.s (.s (.s .z)))))) (Pv.x (p_C (e := D.str))) trivial (fun _ => (.s (.s (.s (.s (.s (.s .z))))))) (fun v_told => ?_)
        refine t_set (en := iN) (p_methP (ea := iN) (p_Bb (e := iN) .z) p_aNil) trivial (fun _ => (.s (.s (.s (.s (.s (.s (.s .z)))))))) (fun v_form => ?_)
        refine t_if (xx_tOr (x_tNot' (x_TrBm (p_isTO (p_Bf (e := iN) (.s (.s (.s (.s (.s (.s (.s .z))))))))))) (xx_tOr (x_TrBm (xp_bin (p_FnO (ez := D.int) (p_aCons (ea := iN) (p_Bf (e := iN) (.s (.s (.s (.s (.s (.s (.s .z)))))))) p_aNil) (fun _ => oo_lenD)) (p_C (e := D.int)) (fun _ => (ot_ne eqI)))) (x_tNot' (x_TrBm (x_callX (xa_1 (ea := iN) (pp_binO (p_Bf (e := iN) (.s (.s (.s (.s (.s (.s (.s .z)))))))) (p_up (ea := D.int) (p_C (e := D.int))) (fun _ => oo_ixD)) p_aNil) (fun _ => ty_l_whole _)))))) trivial ?_ ?_
        · refine t_assoc ?_
          exact t_ret (eb := D.bl) (Pv.x (p_C (e := D.bl))) trivial (fun _ => rf_fr _)
        · refine t_nxl ?_
          exact t_ret (eb := D.bl) (xx_And (px_binO (p_Bf (e := iN) (.s (.s (.s (.s (.s (.s (.s .z)))))))) (x_up (ea := (eP3 D.str D.int (eTL (eTL D.str)))) (x_Tup' (ez := (eP3 D.str D.int (eTL (eTL D.str)))) (xa_P (ea := D.str) (p_C (e := D.str)) (xa_P (ea := D.int) (p_V (e := D.int) (.s (.s .z))) (xa_1 (ea := (eTL (eTL D.str))) (x_FnT (ez := (eTL (eTL D.str))) (xa_1 (ea := (eL (eTL D.str))) (p_Lc (ei := (eL D.str)) (eb := (eTL D.str)) (p_iBb (ea := (eL D.str)) (.s .z)) (.cons .nil (.s (.s (.s (.s .z))))) (fun _ => (tgN (.s (.s (.s (.s .z)))))) (fun x26 => (Pv.x p_Yes)) (fun x26 => (Pv.x (p_Fn (ez := (eTL D.str)) (p_aCons (ea := (eL D.str)) (p_Bf (e := (eL D.str)) (.s (.s (.s (.s .z))))) p_aNil) ot_tupL)))) p_aNil) (fun _ => ot_tupL)) p_aNil))) (fun _ => Nat.le_of_ble_eq_true rfl) (fun _ => rfl))) (fun _ _ => oo_eqD)) (xp_bin (x_castX (unL unS) (p_methP (ea := iN) (p_Bb (e := iN) .z) p_aNil)) (p_Bf (e := (eL D.str)) (.s (.s (.s .z)))) (fun _ => (ot_eq (eqL eqS))))) trivial (fun _ => rf_fr _)
def f_l_lines_by (v_script : (List Int)) (v_marks_here : (List Str)) : M (List (List Str)) := runO none (
 (M.bind (f_l_cell_at v_script (2 : Int)) fun v_seed =>
 (M.bind (M.bind (f_l_cell_at v_script (4 : Int)) fun t1 => M.pure (t1 % (5 : Int))) fun v_wide =>
 (if (decide ((v_seed % (5 : Int)) = (1 : Int))) = true then
 (M.bind (M.pure ((v_seed / (5 : Int)) % (13 : Int))) fun v_wide =>
 (M.bind (M.bind (M.bind (M.bind (M.opt (gMul v_wide ((v_seed / (65 : Int)) % (13 : Int)))) fun t3 => M.opt (gR1 t3)) fun t5 => lcO (fun x4 => (M.pure true)) (fun x4 => (f_l_mix (v_seed / (65 : Int)) x4)) t5 []) fun t6 => f_l_lines t6 v_marks_here v_wide) fun t7 => M.pure (.rt t7)))
 else (if (decide (v_wide = (0 : Int))) = true then
 (M.bind (M.bind (M.bind (M.bind (M.bind (f_l_cell_at v_script (4 : Int)) fun t9 => M.pure (t9 / (5 : Int))) fun t10 => M.pure (t10 % (13 : Int))) fun t11 => M.opt (gR1 t11)) fun t13 => lcO (fun x12 => (M.pure true)) (fun x12 => (M.pure ([] : List Str))) t13 []) fun t14 => M.pure (.rt t14))
 else (M.bind (f_l_lines (cutD v_script (some (5 : Int)) (some (25 : Int))) v_marks_here v_wide) fun t15 => M.pure (.rt t15)))))))
theorem tyN_l_lines_by (v_script : (List Int)) (v_marks_here : (List Str)) : FnN (eL (eL D.str)) m_l_lines_by [D.scr v_script, (eL D.str) v_marks_here] (f_l_lines_by v_script v_marks_here) := by
  unfold f_l_lines_by
  refine t_fnN (Ef := fun _ => [.un, .un, .un, .un, .un]) (Lf := fun _ => []) rfl (.t (.t (.n (.s (.s (.s .z)))))) ?_
  unfold c_l_lines_by
  refine t_set (en := D.int) (x_callP (p_aCons (ea := D.scr) (p_Bb (e := D.scr) .z) (p_aCons (ea := D.int) (p_C (e := D.int)) p_aNil)) (ty_l_cell_at _ _)) trivial (fun _ => (.s (.s .z))) (fun v_seed => ?_)
  refine t_set (en := D.int) (xp_bin (x_callP (p_aCons (ea := D.scr) (p_Bb (e := D.scr) .z) (p_aCons (ea := D.int) (p_C (e := D.int)) p_aNil)) (ty_l_cell_at _ _)) (p_C (e := D.int)) (fun _ => ot_mod)) trivial (fun _ => (.s (.s (.s .z)))) (fun v_wide => ?_)
  refine t_ifP (p_TrB (pp_bin (pp_bin (p_Bf (e := D.int) (.s (.s .z))) (p_C (e := D.int)) ot_mod) (p_C (e := D.int)) (ot_eq eqI))) ?_ ?_
  · refine t_assoc ?_
    refine t_set (en := D.int) (Pv.x (pp_bin (pp_bin (p_Bf (e := D.int) (.s (.s .z))) (p_C (e := D.int)) ot_div) (p_C (e := D.int)) ot_mod)) trivial (fun _ => (.s (.s (.s .z)))) (fun v_wide => ?_)
    refine t_assoc ?_
    exact t_retN (eb := (eL (eL D.str))) (x_callNX (xa_1 (ea := (eL D.int)) (x_Lc' (ei := D.int) (eb := D.int) (x_iFn' (ez := D.int) (xa_1 (ea := D.int) (pp_binO (p_Bf (e := D.int) (.s (.s (.s .z)))) (pp_bin (pp_bin (p_Bf (e := D.int) (.s (.s .z))) (p_C (e := D.int)) ot_div) (p_C (e := D.int)) ot_mod) (fun _ => oo_mul)) p_aNil) (fun _ _ => oo_R1)) (.cons .nil (.s (.s (.s (.s .z))))) (fun _ => (tgN (.s (.s (.s (.s .z)))))) (fun x4 => (Pv.x p_Yes)) (fun x4 => (x_callP (p_aCons (ea := D.int) (pp_bin (p_Bf (e := D.int) (.s (.s .z))) (p_C (e := D.int)) ot_div) (p_aCons (ea := D.int) (p_Bf (e := D.int) (.s (.s (.s (.s .z))))) p_aNil)) (ty_l_mix _ _)))) (p_aCons (ea := (eL D.str)) (p_Bb (e := (eL D.str)) (.s .z)) (p_aCons (ea := D.int) (p_Bf (e := D.int) (.s (.s (.s .z)))) p_aNil))) (fun _ => tyN_l_lines _ _ _)) trivial (fun _ => rn_ow _)
  · refine t_nxl ?_
    refine t_ifP (p_TrB (pp_bin (p_Bf (e := D.int) (.s (.s (.s .z)))) (p_C (e := D.int)) (ot_eq eqI))) ?_ ?_
    · refine t_assoc ?_
      exact t_retN (eb := (eL (eL D.str))) (x_Lc' (ei := D.int) (eb := (eL D.str)) (x_iFn' (ez := D.int) (xa_1 (ea := D.int) (xp_bin (xp_bin (x_callP (p_aCons (ea := D.scr) (p_Bb (e := D.scr) .z) (p_aCons (ea := D.int) (p_C (e := D.int)) p_aNil)) (ty_l_cell_at _ _)) (p_C (e := D.int)) (fun _ => ot_div)) (p_C (e := D.int)) (fun _ => ot_mod)) p_aNil) (fun _ _ => oo_R1)) (.cons .nil (.s (.s (.s (.s .z))))) (fun _ => (tgN (.s (.s (.s (.s .z)))))) (fun x12 => (Pv.x p_Yes)) (fun x12 => (Pv.x (p_Lst (ez := (eL D.str)) p_aNil (Nat.le_of_ble_eq_true rfl) rfl)))) trivial (fun _ => rn_ow _)
    · refine t_nxl ?_
      exact t_retN (eb := (eL (eL D.str))) (x_callNP (p_aCons (ea := (eL D.int)) (p_Cut (p_Bb (e := D.scr) .z) (p_At (p_C (e := D.int))) (p_At (p_C (e := D.int))) ot_cutScr) (p_aCons (ea := (eL D.str)) (p_Bb (e := (eL D.str)) (.s .z)) (p_aCons (ea := D.int) (p_Bf (e := D.int) (.s (.s (.s .z)))) p_aNil))) (tyN_l_lines _ _ _)) trivial (fun _ => rn_ow _)
theorem ty_l_lines_by (v_script : (List Int)) (v_marks_here : (List Str)) : FnT (eL (eL D.str)) m_l_lines_by [D.scr v_script, (eL D.str) v_marks_here] (f_l_lines_by v_script v_marks_here) := (tyN_l_lines_by v_script v_marks_here).toT
def f_p_law (v_script : (List Int)) : M Bool := runO none (
 (M.bind (M.bind (M.bind (f_l_cell_at v_script (1 : Int)) fun t3 => M.bind (M.bind (M.bind (f_l_cell_at v_script (0 : Int)) fun t1 => M.pure (t1 / (2 : Int))) fun t2 => f_l_how_many t2) fun t4 => M.pure (t3, t4)) fun t5 => f_l_marks t5.1 t5.2) fun v_marks_here =>
 (M.bind (f_l_lines_by v_script v_marks_here) fun v_lines_here =>
 (M.bind (M.pure (0 : Int)) fun v_wide =>
 (bindO (σ := Int) (if (decide (((List.length v_lines_here : Nat) : Int) > (0 : Int))) = true then
 (M.bind (M.bind (M.opt (gIx v_lines_here (0 : Int))) fun t9 => M.pure ((List.length t9 : Nat) : Int)) fun v_wide =>
 (M.pure (.nx v_wide)))
 else (M.pure (.nx v_wide))) fun s8 =>
 (bindO (σ := Unit) (M.bind (M.bind (M.bind (f_l_cell_at v_script (0 : Int)) fun t10 => M.pure (t10 % (2 : Int))) fun t11 => M.pure (decide (t11 = (1 : Int)))) fun t12 => if t12 = true then
 (M.bind (M.bind (M.bind (M.bind (M.bind (f_l_cell_at v_script (3 : Int)) fun t21 => M.bind (M.opt (gIx v_marks_here (0 : Int))) fun t22 => M.pure (t21, t22)) fun t23 => f_l_wrong v_lines_here s8 t23.1 t23.2) fun t24 => f_l_refused t24) fun t25 => M.pure (!t25)) fun t26 => if t26 = true then
 (M.bind (M.pure false) fun t27 => M.pure (.rt t27))
 else (M.pure (.nx ())))
 else (M.pure (.nx ()))) fun s20 =>
 (M.bind (lcO (fun x28 => (M.pure true)) (fun x28 => (M.pure x28)) v_lines_here []) fun v_handed =>
 (M.bind (f_p_Table_init 12 ((eNL D.str) v_handed)) fun v_one =>
 (M.bind (if (!decide (v_handed = v_lines_here)) = true then M.pure true else (M.bind (f_l_holds v_one v_lines_here) fun t29 => M.pure (!t29))) fun t30 => if t30 = true then
 (M.bind (M.pure false) fun t31 => M.pure (.rt t31))
 else (M.bind (appEach (M.opt (gIx v_marks_here (0 : Int))) v_handed) fun v_handed =>
 (M.bind (M.pure ([] : List Str)) fun t32 => M.bind (M.opt (gApp v_handed t32)) fun v_handed =>
 (M.bind (f_l_holds v_one v_lines_here) fun t33 => M.pure (.rt t33)))))))))))))
theorem ty_p_law (v_script : (List Int)) : FnT D.bl m_p_law [D.scr v_script] (f_p_law v_script) := by
  unfold f_p_law
  refine t_fn (Ef := fun _ => [.un, .un, .un, .un, .un, .un, .un]) (Lf := fun _ => []) rfl (.t (.n (.s (.s (.s (.s (.s (.s .z)))))))) (fun _ h => nomatch h) ?_
  unfold c_p_law
  refine t_set (en := (eL D.str)) (x_callX (xa_X (ea := D.int) (x_callP (p_aCons (ea := D.scr) (p_Bb (e := D.scr) .z) (p_aCons (ea := D.int) (p_C (e := D.int)) p_aNil)) (ty_l_cell_at _ _)) (xa_1 (ea := D.int) (x_callX (xa_1 (ea := D.int) (xp_bin (x_callP (p_aCons (ea := D.scr) (p_Bb (e := D.scr) .z) (p_aCons (ea := D.int) (p_C (e := D.int)) p_aNil)) (ty_l_cell_at _ _)) (p_C (e := D.int)) (fun _ => ot_div)) p_aNil) (fun _ => ty_l_how_many _)) p_aNil)) (fun _ => ty_l_marks _ _)) trivial (fun _ => (.s .z)) (fun v_marks_here => ?_)
  refine t_set (en := (eL (eL D.str))) (x_callP (p_aCons (ea := D.scr) (p_Bb (e := D.scr) .z) (p_aCons (ea := (eL D.str)) (p_Bf (e := (eL D.str)) (.s .z)) p_aNil)) (ty_l_lines_by _ _)) trivial (fun _ => (.s (.s .z))) (fun v_lines_here => ?_)
  refine t_set (en := D.int) (Pv.x (p_C (e := D.int))) trivial (fun _ => (.s (.s (.s .z)))) (fun v_wide => ?_)
  refine t_seq (E' := (fun s8 : Int => ([.bo (D.scr v_script), .fr ((eL D.str) v_marks_here), .fr ((eL (eL D.str)) v_lines_here), .fr (D.int s8), .un, .un, .un] : Env))) (t_ifP1 (p_TrB (pp_bin (p_Fn (ez := D.int) (p_aCons (ea := (eL (eL D.str))) (p_Bf (e := (eL (eL D.str))) (.s (.s .z))) p_aNil) ot_lenL) (p_C (e := D.int)) ot_gt)) ?_ ?_) (fun s8 => ?_)
  · refine t_set (en := D.int) (x_FnT (ez := D.int) (xa_1 (ea := (eL D.str)) (pp_binO (p_Bf (e := (eL (eL D.str))) (.s (.s .z))) (p_C (e := D.int)) (fun _ => oo_ixL)) p_aNil) (fun _ => ot_lenL)) trivial (fun _ => (.s (.s (.s .z)))) (fun v_wide => ?_)
    refine t_wipe (is := [4, 5, 6]) (.cons (.cons (.cons .nil (.s (.s (.s (.s (.s (.s .z))))))) (.s (.s (.s (.s (.s .z)))))) (.s (.s (.s (.s .z))))) ?_
    exact t_nil rfl
  · refine t_wipe (is := [4, 5, 6]) (.cons (.cons (.cons .nil (.s (.s (.s (.s (.s (.s .z))))))) (.s (.s (.s (.s (.s .z)))))) (.s (.s (.s (.s .z))))) ?_
    exact t_nil rfl
  · refine t_seq (E' := (fun s20 : Unit => ([.un, .fr ((eL D.str) v_marks_here), .fr ((eL (eL D.str)) v_lines_here), .un, .un, .un, .un] : Env))) (t_if1 (x_TrBm (xp_bin (xp_bin (x_callP (p_aCons (ea := D.scr) (p_Bb (e := D.scr) .z) (p_aCons (ea := D.int) (p_C (e := D.int)) p_aNil)) (ty_l_cell_at _ _)) (p_C (e := D.int)) (fun _ => ot_mod)) (p_C (e := D.int)) (fun _ => (ot_eq eqI)))) trivial ?_ ?_) (fun s20 => ?_)
    · refine t_if (x_tNot' (x_TrBm (x_callX (xa_1 (ea := iN) (x_callX (xa_P (ea := (eL (eL D.str))) (p_Bf (e := (eL (eL D.str))) (.s (.s .z))) (xa_P (ea := D.int) (p_Bf (e := D.int) (.s (.s (.s .z)))) (xa_X (ea := D.int) (x_callP (p_aCons (ea := D.scr) (p_Bb (e := D.scr) .z) (p_aCons (ea := D.int) (p_C (e := D.int)) p_aNil)) (ty_l_cell_at _ _)) (xa_1 (ea := D.str) (pp_binO (p_Bf (e := (eL D.str)) (.s .z)) (p_C (e := D.int)) (fun _ => oo_ixL)) p_aNil)))) (fun _ => ty_l_wrong _ _ _ _)) p_aNil) (fun _ => ty_l_refused _)))) trivial ?_ ?_
      · refine t_assoc ?_
        exact t_ret (eb := D.bl) (Pv.x (p_C (e := D.bl))) trivial (fun _ => rf_fr _)
      · refine t_nxl ?_
        refine t_wipe (is := [0, 3, 4, 5, 6]) (.cons (.cons (.cons (.cons (.cons .nil (.s (.s (.s (.s (.s (.s .z))))))) (.s (.s (.s (.s (.s .z)))))) (.s (.s (.s (.s .z))))) (.s (.s (.s .z)))) .z) ?_
        exact t_nil rfl
    · refine t_wipe (is := [0, 3, 4, 5, 6]) (.cons (.cons (.cons (.cons (.cons .nil (.s (.s (.s (.s (.s (.s .z))))))) (.s (.s (.s (.s (.s .z)))))) (.s (.s (.s (.s .z))))) (.s (.s (.s .z)))) .z) ?_
      exact t_nil rfl
    · refine t_setN (en := (eNL D.str)) (p_NLc (ei := (eL D.str)) (en := D.str) (p_iL (p_V (e := (eL (eL D.str))) (.s (.s .z)))) (.cons .nil (.s (.s (.s (.s (.s (.s .z))))))) (fun _ => (tgN (.s (.s (.s (.s (.s (.s .z)))))))) (fun x28 => (Pv.x p_Yes)) (fun x28 => (Pv.x (p_Fn (ez := (eL D.str)) (p_aCons (ea := (eL D.str)) (p_Bf (e := (eL D.str)) (.s (.s (.s (.s (.s (.s .z))))))) p_aNil) ot_listL)))) trivial (fun _ => (.s (.s (.s (.s .z))))) (fun v_handed => ?_)
      refine t_set (en := iN) (x_makeP (p_aCons (ea := iN) (p_up (ea := (eNL D.str)) (p_Bo (e := (eNL D.str)) (.s (.s (.s (.s .z)))))) p_aNil) (ty_p_Table_init _ _)) trivial (fun _ => (.s (.s (.s (.s (.s .z)))))) (fun v_one => ?_)
      refine t_if (x_tLend (.s (.s (.s (.s .z)))) (.s (.s (.s (.s .z)))) (px_tOr (p_TrB (pp_bin (p_Bf (e := (eL (eL D.str))) (.s (.s (.s (.s .z))))) (p_Bf (e := (eL (eL D.str))) (.s (.s .z))) (ot_ne (eqL (eqL eqS))))) (x_tNot' (x_TrBm (x_callP (p_aCons (ea := iN) (p_Bf (e := iN) (.s (.s (.s (.s (.s .z)))))) (p_aCons (ea := (eL (eL D.str))) (p_Bf (e := (eL (eL D.str))) (.s (.s .z))) p_aNil)) (ty_l_holds _ _)))))) trivial ?_ ?_
      · refine t_assoc ?_
        exact t_ret (eb := D.bl) (Pv.x (p_C (e := D.bl))) trivial (fun _ => rf_fr _)
      · refine t_nxl ?_
        refine t_forNA (en := D.str) (ρf := fun v_handed : (List (List Str)) => ([.un, .fr ((eL D.str) v_marks_here), .fr ((eL (eL D.str)) v_lines_here), .un, .ow ((eNL D.str) v_handed), .fr (iN v_one), .un] : Env)) (.s (.s (.s (.s .z)))) (.s (.s (.s (.s (.s (.s .z)))))) rfl (fun _ _ => (.s (.s (.s (.s .z))))) (fun _ => (pp_binO (p_Bf (e := (eL D.str)) (.s .z)) (p_C (e := D.int)) (fun _ => oo_ixL))) (fun _ => trivial) (fun v_handed => ?_)
        refine t_napp (en := D.str) (.s (.s (.s (.s .z)))) (Pv.x (p_Lst (ez := (eL D.str)) p_aNil (Nat.le_of_ble_eq_true rfl) rfl)) trivial (fun _ => (.s (.s (.s (.s .z))))) (fun v_handed => ?_)
        exact t_ret (eb := D.bl) (x_callP (p_aCons (ea := iN) (p_Bf (e := iN) (.s (.s (.s (.s (.s .z)))))) (p_aCons (ea := (eL (eL D.str))) (p_Bf (e := (eL (eL D.str))) (.s (.s .z))) p_aNil)) (ty_l_holds _ _)) trivial (fun _ => rf_fr _)
end PM
set_option maxHeartbeats 1000000
namespace PM
open PySem PySem.Spec PyProof.Rows L2
/-! marks, whole numbers -/
def lett : List Nat := Sl (Str.ofString "abcdefghijklmnopqrstuvwxyz")
def isMkS (x : Str) : Bool := decide (x ≠ Str.ofString "") && decide (x.length ≤ 8) && (Sl x).all (fun c => decide (c ∈ lett))
def isMk : D → Bool
  | .str x => isMkS x
  | _ => false
/-- what may be handed in -/
def okD (d : D) : Prop := (∀ x, d = .str x → x.length ≤ 1000000) ∧ d.isT "str" ≠ none
theorem okD_str {x : Str} (h : x.length ≤ 1000000) : okD (.str x) := ⟨by rintro y e; cases e; exact h, by simp [D.isT]⟩
theorem is_mark_ok {d : D} (h : okD d) : f_p_is_mark d = M.pure (isMk d) := by
  unfold f_p_is_mark
  cases d
  case str x =>
    have hx := h.1 x rfl
    have e1 : D.eq? (.str x) (.str ("" : Str)) = some (decide (x = ("" : Str))) := eq?_dec eqS (by decide) _ _
    have e2 : fLen [.str x] = some (.int x.length) := fn_lenS hx
    have e3 : ∀ c ∈ Sl x, f_b1_p_is_mark c = M.pure (if decide (c ∈ lett) = true then .nx () else .rt false) := by
      intro c hc
      unfold f_b1_p_is_mark
      by_cases hl : c ∈ Sl k_LETTERS
      · have hl' : c ∈ lett := hl
        simp [hl, hl']
      · have hl' : c ∉ lett := hl
        simp [hl, hl', M.pure_bind]
    have e4 := for_all (τ' := Unit) (xs := Sl x) (f := fun c _ => f_b1_p_is_mark c) (p := fun c => decide (c ∈ lett)) (b := false) e3
    simp only [D.isT, M.opt_some, M.pure_bind, beq_self_eq_true, Bool.not_true, Bool.false_eq_true, if_false, e1, e2, gI, uS, e4]
    by_cases h0 : x = ("" : Str)
    · subst h0
      simp [isMk, isMkS, runO_rt, M.pure_bind]
    · by_cases h1 : x.length ≤ 8
      · have h2 : ¬ ((x.length : Int) > k_MOST_LETTERS) := by show ¬ ((x.length : Int) > 8); omega
        have h0' : ¬ x = Str.ofString "" := h0
        cases q : (Sl x).all fun c => decide (c ∈ lett) <;> simp [isMk, isMkS, h0, h0', h1, h2, q, runO_rt, M.pure_bind, bindO_nx, bindO_rt]
      · have h2 : (x.length : Int) > k_MOST_LETTERS := by show (x.length : Int) > 8; omega
        simp [isMk, isMkS, h0, h1, h2, runO_rt, M.pure_bind]
  case obj => exact absurd rfl h.2
  case rf => exact absurd rfl h.2
  case exn => exact absurd rfl h.2
  case dit => exact absurd rfl h.2
  case nst => exact absurd rfl h.2
  all_goals rfl
theorem isMk_len {x : Str} (h : isMkS x = true) : x.length ≤ 8 := by
  unfold isMkS at h
  simp only [Bool.and_eq_true, decide_eq_true_eq] at h
  exact h.1.2
theorem is_mark_T {x : Str} (h : isMkS x = true) : f_p_is_mark (.str x) = M.pure true := by
  have := isMk_len h
  rw [is_mark_ok (okD_str (by omega)), isMk, h]
end PM
set_option maxHeartbeats 1000000
namespace PM
open PySem PySem.Spec PyProof.Rows L2
/-! methods and fields; lists of marks; lists of places; rows -/
theorem meth_F {ζ : Type} {mn : Str} {mt : MTab} {c : Nat} {fs : List (Str × D)} {fn : Fn} {ds : List D} {e : ζ → D} {g : M ζ} {v : ζ} (hl : fs.lookup mn = none) (hm : mt c = some fn) (hf : FnT e fn (.obj c fs :: ds) g) (hg : g = M.pure v) : methM mn mt resF (.obj c fs) (M.pure ds) = M.pure (e v) := by
  funext S
  have h := hf S
  rw [hg] at h
  simp only [methM, hl, hm, M.pure_bind]
  exact h
theorem meth_N {ζ : Type} {mn : Str} {mt : MTab} {c : Nat} {fs : List (Str × D)} {fn : Fn} {ds : List D} {e : ζ → D} {g : M ζ} {v : ζ} (hl : fs.lookup mn = none) (hm : mt c = some fn) (hf : FnN e fn (.obj c fs :: ds) g) (hg : g = M.pure v) : methM mn mt resN (.obj c fs) (M.pure ds) = M.pure (e v) := by
  funext S
  have h := hf S
  rw [hg] at h
  simp only [methM, hl, hm, M.pure_bind]
  exact h
theorem are_marks_ok {ds : List D} {most : Int} (h : ∀ d ∈ ds, okD d) : f_p_are_marks (.lst ds) most = M.pure (decide ((ds.length : Int) ≤ most) && ds.all isMk) := by
  unfold f_p_are_marks
  have e3 : ∀ x ∈ ds, f_b1_p_are_marks x = M.pure (if isMk x = true then .nx () else .rt false) := by
    intro x hx
    unfold f_b1_p_are_marks
    rw [is_mark_ok (h x hx)]
    cases isMk x <;> rfl
  have e4 := for_all (τ' := Unit) (xs := ds) (f := fun c _ => f_b1_p_are_marks c) (p := isMk) (b := false) e3
  have e5 : gI (fLen [.lst ds]) = some (ds.length : Int) := rfl
  simp only [M.pure_bind, M.bind_assoc, M.exc_bind, M.opt_some, bindO_nx, bindO_rt, bindO_bk, bindO_ct, bindO_exc, bindO_bind, runO_nx, runO_rt, runO_exc, runO_bind, D.isT, beq_self_eq_true, Bool.not_true, Bool.false_eq_true, if_false, e5, uAny_told, e4]
  by_cases hl : (ds.length : Int) ≤ most
  · have hl' : ¬ ((ds.length : Int) > most) := by omega
    cases q : ds.all isMk <;> simp [hl, hl', q, bindO_nx, bindO_rt, runO_rt, M.pure_bind]
  · have hl' : (ds.length : Int) > most := by omega
    simp [hl, hl', runO_rt, M.pure_bind]
def MksOk (ms : List Str) : Prop := ∀ m ∈ ms, isMkS m = true
theorem all_mk' {ms : List Str} (h : MksOk ms) : (ms.map D.str).all isMk = true := by
  rw [List.all_map, List.all_eq_true]
  intro m hm
  exact h m hm
theorem okD_mks {ms : List Str} (h : MksOk ms) : ∀ d ∈ ms.map D.str, okD d := by
  intro d hd
  obtain ⟨m, hm, rfl⟩ := List.mem_map.mp hd
  have := isMk_len (h m hm)
  exact okD_str (by omega)
theorem are_marks_T {ms : List Str} {most : Int} (h : MksOk ms) (hl : (ms.length : Int) ≤ most) : f_p_are_marks (.lst (ms.map .str)) most = M.pure true := by
  rw [are_marks_ok (okD_mks h), all_mk' h]
  simp [hl]
abbrev iPs (ps : List Nat) : List Int := ps.map (fun (p : Nat) => (p : Int))
theorem iPs_dN (ps : List Nat) : (iPs ps).map D.int = ps.map dN := by simp [iPs, dN]
abbrev dRow (ms : List Str) : D := .obj 10 [("row", eL .str ms)]
def rowLeft (ms : List Str) (ps : List Nat) : List Str := ps.map fun p => ms.getD p E0
theorem mksOk_left {ms : List Str} {ps : List Nat} (h : MksOk ms) (hp : ∀ p ∈ ps, p < ms.length) : MksOk (rowLeft ms ps) := by
  intro m hm
  obtain ⟨p, h1, rfl⟩ := List.mem_map.mp hm
  have := hp p h1
  simp only [List.getD_eq_getElem?_getD, List.getElem?_eq_getElem this, Option.getD_some]
  exact h _ (List.getElem_mem _)
theorem uLdN (ps : List Nat) : uL uI (.lst (ps.map dN)) = some (iPs ps) := by rw [← iPs_dN]; exact uLI_told
abbrev dvRowForm (ms : List Str) : D := .tup [.str "row", .tup (ms.map .str)]
end PM
set_option maxHeartbeats 1000000
namespace PM
open PySem PySem.Spec PyProof.Rows L2
/-! forests -/
abbrev iNd (n : Str × Nat) : Str × Int := (n.1, (n.2 : Int))
abbrev dNode (n : Str × Nat) : D := .tup [.str n.1, .int (n.2 : Int)]
abbrev dForest (ns : List (Str × Nat)) : D := .obj 11 [("nodes", .lst (ns.map dNode))]
theorem nodes_enc (ns : List (Str × Nat)) : (ns.map iNd).map (eP2 D.str D.int) = ns.map dNode := by simp [iNd, dNode]
theorem uNodes (ns : List (Str × Nat)) : uL (uP2 uS uI) (.lst (ns.map dNode)) = some (ns.map iNd) := by rw [← nodes_enc]; exact uLSI_told
def NdOk : Nat → List (Str × Nat) → Prop
  | _, [] => True
  | b, n :: r => isMkS n.1 = true ∧ n.2 ≤ b ∧ NdOk (min (n.2 + 1) 12) r
theorem NdOk.le : ∀ {ns : List (Str × Nat)} {b : Nat}, b ≤ 12 → NdOk b ns → ∀ n ∈ ns, isMkS n.1 = true ∧ n.2 ≤ 12
  | [], _, _, _, n, hn => by cases hn
  | x :: r, b, hb, h, n, hn => by
    obtain ⟨h1, h2, h3⟩ := h
    cases hn with
    | head => exact ⟨h1, by omega⟩
    | tail _ hn => exact NdOk.le (by omega) h3 n hn
/-- what is left, by the numbers above -/
def goF : List Nat → List ((Str × Nat) × Bool) → List (Str × Nat)
  | _, [] => []
  | A, (n, k) :: r => (if k = true then [(n.1, A.getD n.2 0)] else []) ++ goF (A.set (n.2 + 1) (A.getD n.2 0 + if k = true then 1 else 0)) r
def flg (ps : List Nat) (ns : List (Str × Nat)) : List ((Str × Nat) × Bool) := ns.zipIdx.map fun x => (x.1, decide (x.2 ∈ ps))
def leftF (ns : List (Str × Nat)) (ps : List Nat) : List (Str × Nat) := goF (List.replicate 14 0) (flg ps ns)
/-- .. by the path -/
def goL : List Bool → List ((Str × Nat) × Bool) → List (Str × Nat)
  | _, [] => []
  | P, (n, k) :: r => (if k = true then [(n.1, (P.take n.2).count true)] else []) ++ goL (P.take n.2 ++ [k]) r
theorem goF_goL : ∀ (items : List ((Str × Nat) × Bool)) (A : List Nat) (P : List Bool) (b : Nat), A.length = 14 → b ≤ P.length → b ≤ 12 → (∀ j, j ≤ P.length → A.getD j 0 = (P.take j).count true) → NdOk b (items.map (·.1)) → goF A items = goL P items
  | [], _, _, _, _, _, _, _, _ => rfl
  | (n, k) :: r, A, P, b, hA, hb, hb2, hP, h => by
    obtain ⟨h1, h2, h3⟩ := h
    simp only [] at h2 h3
    unfold goF goL
    have hd : n.2 ≤ P.length := by omega
    rw [hP n.2 hd]
    congr 1
    refine goF_goL r _ _ (min (n.2 + 1) 12) (by simp [hA]) (by simp; omega) (by omega) ?_ h3
    intro j hj
    simp only [List.length_append, List.length_take, List.length_cons, List.length_nil] at hj
    by_cases hj2 : j = n.2 + 1
    · subst hj2
      have : List.take (n.2 + 1) (P.take n.2 ++ [k]) = P.take n.2 ++ [k] := List.take_of_length_le (by simp; omega)
      rw [this, List.count_append]
      simp only [List.getD_eq_getElem?_getD, List.getElem?_set_self (show n.2 + 1 < A.length by omega), Option.getD_some]
      cases k <;> simp
    · have : List.take j (P.take n.2 ++ [k]) = P.take j := by
        rw [List.take_append_of_le_length (by simp; omega), List.take_take]
        congr 1
        omega
      rw [this, ← hP j (by omega)]
      simp only [List.getD_eq_getElem?_getD, List.getElem?_set_ne (show n.2 + 1 ≠ j by omega)]
theorem leftF_goL {ns : List (Str × Nat)} {ps : List Nat} (h : NdOk 0 ns) : leftF ns ps = goL [] (flg ps ns) := by
  unfold leftF
  refine goF_goL _ _ _ 0 (by simp) (by simp) (by omega) (fun j hj => ?_) ?_
  · have : j = 0 := by simpa using hj
    subst this; rfl
  · have : (flg ps ns).map (·.1) = ns := by unfold flg; rw [List.map_map]; exact List.zipIdx_map_fst 0 ns
    rw [this]; exact h
theorem count_take_le (P : List Bool) (d : Nat) : (P.take d).count true ≤ P.count true := List.Sublist.count_le _ (List.take_sublist _ _)
theorem goL_ok : ∀ (items : List ((Str × Nat) × Bool)) (P : List Bool) (b b' : Nat), b ≤ P.length → b ≤ 12 → min (P.count true) 12 ≤ b' → NdOk b (items.map (·.1)) → NdOk b' (goL P items)
  | [], _, _, _, _, _, _, _ => trivial
  | (n, k) :: r, P, b, b', hb, hb2, hc, h => by
    obtain ⟨h1, h2, h3⟩ := h
    simp only [] at h2 h3
    have hd : n.2 ≤ P.length := by omega
    have hl : (P.take n.2).count true ≤ n.2 := Nat.le_trans List.count_le_length (by simp; omega)
    have hct := count_take_le P n.2
    unfold goL
    cases k with
    | true =>
      refine ⟨h1, by simp only []; omega, ?_⟩
      exact goL_ok r _ (min (n.2 + 1) 12) _ (by simp; omega) (by omega) (by rw [List.count_append]; simp) h3
    | false =>
      exact goL_ok r _ (min (n.2 + 1) 12) _ (by simp; omega) (by omega) (by rw [List.count_append]; simp; omega) h3
theorem leftF_ok {ns : List (Str × Nat)} {ps : List Nat} (h : NdOk 0 ns) : NdOk 0 (leftF ns ps) := by
  rw [leftF_goL h]
  refine goL_ok _ [] 0 0 (by simp) (by omega) (by simp) ?_
  have : (flg ps ns).map (·.1) = ns := by unfold flg; rw [List.map_map]; exact List.zipIdx_map_fst 0 ns
  rw [this]; exact h
theorem goF_len : ∀ (items : List ((Str × Nat) × Bool)) (A : List Nat), (goF A items).length = (items.filter (·.2)).length
  | [], _ => rfl
  | (n, k) :: r, A => by
    unfold goF
    rw [List.length_append, goF_len r]
    cases k <;> simp [List.filter_cons]; omega
theorem flg_len (ps : List Nat) (ns : List (Str × Nat)) : (flg ps ns).length = ns.length := by simp [flg]
theorem leftF_len40 {ns : List (Str × Nat)} {ps : List Nat} (h : ns.length ≤ 40) : (leftF ns ps).length ≤ 40 := by
  unfold leftF
  rw [goF_len]
  have := List.length_filter_le (·.2) (flg ps ns)
  rw [flg_len] at this
  omega
theorem flg_drop {ps : List Nat} {ns : List (Str × Nat)} {k : Nat} (h : k < ns.length) : (flg ps ns).drop k = (ns[k], decide (k ∈ ps)) :: (flg ps ns).drop (k + 1) := by
  have hl : k < (flg ps ns).length := by rw [flg_len]; exact h
  rw [List.drop_eq_getElem_cons hl]
  congr 1
  simp [flg]
def keptI (n : Nat) (pre : List Nat) : List Int := (List.range n).map fun k => if k ∈ pre then 1 else 0
theorem keptI_set {n p : Nat} {pre : List Nat} (h : p < n) : (keptI n pre).set p 1 = keptI n (pre ++ [p]) := by
  unfold keptI
  apply List.ext_getElem
  · simp
  · intro i h1 h2
    simp only [List.length_set, List.length_map, List.length_range] at h1
    rw [List.getElem_set]
    simp only [List.getElem_map, List.getElem_range, List.mem_append, List.mem_singleton]
    by_cases e : p = i
    · subst e; simp
    · have e2 : ¬ i = p := fun z => e z.symm
      simp [e, e2]
abbrev dvForestForm (ns : List (Str × Nat)) : D := .tup [.str "forest", .tup (ns.map dNode)]
end PM
set_option maxHeartbeats 1000000
namespace PM
open PySem PySem.Spec PyProof.Rows L2
/-! tables -/
abbrev dLine (l : List Str) : D := .lst (l.map .str)
abbrev dTable (ls : List (List Str)) (w : Nat) : D := .obj 12 [("lines", .lst (ls.map dLine)), ("wide", .int (w : Int))]
structure TbOk (ls : List (List Str)) (w : Nat) : Prop where
  len : ls.length ≤ 12
  wd : w ≤ 12
  li : ∀ l ∈ ls, l.length = w ∧ MksOk l
def tbCols (n : Nat) (ps : List Nat) : List Nat := (ps.filter fun p => decide (n ≤ p)).map (· - n)
def tbLn (ls : List (List Str)) (cs : List Nat) (ps : List Nat) : List (List Str) := (ps.filter fun p => decide (p < ls.length)).map fun p => cs.map fun c => (ls.getD p []).getD c E0
abbrev tbLeft (ls : List (List Str)) (ps : List Nat) : List (List Str) := tbLn ls (tbCols ls.length ps) ps
theorem tbCols_mem {n w : Nat} {ps : List Nat} (hp : Rising (n + w) ps) : ∀ c ∈ tbCols n ps, c < w := by
  intro c hc
  obtain ⟨p, h1, rfl⟩ := List.mem_map.mp hc
  have h2 := List.mem_filter.mp h1
  have h3 := hp.2 p h2.1
  have h4 : n ≤ p := by simpa using h2.2
  omega
theorem getD_mem {α : Type} {l : List α} {i : Nat} {d : α} (h : i < l.length) : l.getD i d ∈ l := by
  rw [List.getD_eq_getElem?_getD, List.getElem?_eq_getElem h]; exact List.getElem_mem h
theorem pairwise_filter_lt {n m : Nat} {ps : List Nat} (hp : Rising m ps) : (ps.filter fun p => decide (p < n)).length ≤ n := by
  refine rising_len ⟨hp.1.filter _, fun p h => ?_⟩
  simpa using (List.mem_filter.mp h).2
theorem tbCols_len {n w : Nat} {ps : List Nat} (hp : Rising (n + w) ps) : (tbCols n ps).length ≤ w := by
  refine rising_len ⟨?_, tbCols_mem hp⟩
  unfold tbCols
  rw [List.pairwise_map]
  refine List.Pairwise.imp_of_mem ?_ (hp.1.filter _)
  intro a b ha hb hab
  have h1 : n ≤ a := by simpa using (List.mem_filter.mp ha).2
  omega
theorem tbLeft_ok {ls : List (List Str)} {w : Nat} {ps : List Nat} (h : TbOk ls w) (hp : Rising (ls.length + w) ps) : TbOk (tbLeft ls ps) (tbCols ls.length ps).length where
  len := by
    unfold tbLeft tbLn
    rw [List.length_map]
    exact Nat.le_trans (pairwise_filter_lt hp) h.len
  wd := Nat.le_trans (tbCols_len hp) h.wd
  li := fun l hl => by
    obtain ⟨p, h1, rfl⟩ := List.mem_map.mp hl
    refine ⟨by simp, fun m hm => ?_⟩
    obtain ⟨c, h2, rfl⟩ := List.mem_map.mp hm
    have hpl : p < ls.length := by simpa using (List.mem_filter.mp h1).2
    obtain ⟨h3, h4⟩ := h.li _ (getD_mem (d := []) hpl)
    exact h4 _ (getD_mem (by rw [h3]; exact tbCols_mem hp c h2))
theorem uLines (ls : List (List Str)) : uL (uL uS) (.lst (ls.map dLine)) = some ls := uLL_told
theorem ix_line {ls : List (List Str)} (h : 0 < ls.length) : oIx (.lst (ls.map dLine)) (.int 0) = some (dLine (ls.getD 0 [])) := dv_ixN dLine [] h rfl
theorem line0_len {ls : List (List Str)} {w : Nat} (h : TbOk ls w) (h0 : 0 < ls.length) : (ls.getD 0 []).length = w := (h.li _ (getD_mem h0)).1
theorem are_lines_T {ls : List (List Str)} {w : Nat} (h : TbOk ls w) : f_p_are_lines (.lst (ls.map dLine)) = M.pure true := by
  have hlen := h.len
  have hwd := h.wd
  unfold f_p_are_lines
  have e5 : gI (fLen [.lst (ls.map dLine)]) = some (ls.length : Int) := by simp [fLen, gI]
  have c0 : ¬ ((ls.length : Int) > k_MOST_LINES) := by show ¬ ((ls.length : Int) > 12); omega
  have e3 : ∀ x ∈ ls.map dLine, f_b1_p_are_lines (.lst (ls.map dLine)) x = M.pure (if true = true then .nx () else .rt false) := by
    intro x hx
    obtain ⟨l, hl, rfl⟩ := List.mem_map.mp hx
    obtain ⟨h1, h2⟩ := h.li l hl
    have h0 : 0 < ls.length := List.length_pos_of_mem hl
    have e1 : gI (fLen [dLine l]) = some (w : Int) := by simp [fLen, gI, h1]
    have e2 : gI (fLen [dLine (ls.getD 0 [])]) = some (w : Int) := by simp only [fLen, gI, List.length_map, line0_len h h0]
    unfold f_b1_p_are_lines
    simp only [M.pure_bind, M.bind_assoc, M.exc_bind, M.opt_some, bindO_nx, bindO_rt, bindO_bk, bindO_ct, bindO_exc, bindO_bind, runO_nx, runO_rt, runO_exc, runO_bind, are_marks_T h2 (show (l.length : Int) ≤ k_MOST_LINES by show (l.length : Int) ≤ 12; omega), Bool.not_true, Bool.false_eq_true, if_false, e1, ix_line h0, e2, decide_true, if_true]
  have e4 := for_all (τ' := Unit) (xs := ls.map dLine) (f := fun c _ => f_b1_p_are_lines (.lst (ls.map dLine)) c) (p := fun _ => true) (b := false) e3
  have e6 : ((ls.map dLine).all fun _ => true) = true := by simp
  simp only [M.pure_bind, M.bind_assoc, M.exc_bind, M.opt_some, bindO_nx, bindO_rt, bindO_bk, bindO_ct, bindO_exc, bindO_bind, runO_nx, runO_rt, runO_exc, runO_bind, D.isT, beq_self_eq_true, Bool.not_true, Bool.false_eq_true, if_false, e5, uAny_told, decide_eq_true_eq, c0, e4, e6, if_true]
theorem fld_lines {ls : List (List Str)} {w : Nat} : fldM fl "lines" (dTable ls w) = M.pure (.lst (ls.map dLine)) := by
  funext S
  simp only [fldM, fl_12_lines, if_true, lk0]
  rfl
theorem fld_wide {ls : List (List Str)} {w : Nat} : fldM fl "wide" (dTable ls w) = M.pure (.int (w : Int)) := by
  funext S
  simp only [fldM, fl_12_wide, if_true, lk1 (show ((("wide" : Str)) == ("lines" : Str)) = false by decide +kernel) lk0]
  rfl
theorem Table_init_T {ls : List (List Str)} {w : Nat} (h : TbOk ls w) : f_p_Table_init 12 (.lst (ls.map dLine)) = M.pure (dTable ls (if ls = [] then 0 else w)) := by
  have hlen := h.len
  unfold f_p_Table_init
  have e5 : gI (fLen [.lst (ls.map dLine)]) = some (ls.length : Int) := by simp [fLen, gI]
  simp only [M.pure_bind, M.bind_assoc, M.exc_bind, M.opt_some, bindO_nx, bindO_rt, bindO_bk, bindO_ct, bindO_exc, bindO_bind, runO_nx, runO_rt, runO_exc, runO_bind, dFlat, are_lines_T h, Bool.not_true, Bool.false_eq_true, if_false, uAny_told]
  rw [lc_map' (fun d => match d with | .lst xs => xs | _ => []) (by
    intro x hx
    obtain ⟨l, hl, rfl⟩ := List.mem_map.mp hx
    rfl) (by simp; omega)]
  have e0 : eL (eL iN) ((ls.map dLine).map (fun d => match d with | .lst xs => xs | _ => [])) = .lst (ls.map dLine) := by
    simp [eL, iN, dLine]
  have e1 : gFld fl "lines" (.obj 12 []) (.lst (ls.map dLine)) = some (.obj 12 [("lines", .lst (ls.map dLine))]) := by
    simp only [gFld, fl_12_lines, List.length_nil, true_and, show 0 < 1000 by omega, if_true, pD]
  have e2 : ∀ n : Int, gFld fl "wide" (.obj 12 [("lines", .lst (ls.map dLine))]) (.int n) = some (.obj 12 [("lines", .lst (ls.map dLine)), ("wide", .int n)]) := by
    intro n
    simp only [gFld, fl_12_wide, List.length_cons, List.length_nil, true_and, show 0 + 1 < 1000 by omega, if_true, pDt (show ((("lines" : Str)) == ("wide" : Str)) = false by decide +kernel) pD0]
  have e3 : ∀ n m : Int, gFld fl "wide" (.obj 12 [("lines", .lst (ls.map dLine)), ("wide", .int m)]) (.int n) = some (.obj 12 [("lines", .lst (ls.map dLine)), ("wide", .int n)]) := by
    intro n m
    simp only [gFld, fl_12_wide, List.length_cons, List.length_nil, true_and, show 0 + 1 + 1 < 1000 by omega, if_true, pDt (show ((("lines" : Str)) == ("wide" : Str)) = false by decide +kernel) pDh]
  simp only [M.pure_bind, M.bind_assoc, M.exc_bind, M.opt_some, bindO_nx, bindO_rt, bindO_bk, bindO_ct, bindO_exc, bindO_bind, runO_nx, runO_rt, runO_exc, runO_bind, e0, e1, e2, e5, decide_eq_true_eq]
  by_cases h0 : ls = []
  · subst h0
    rfl
  · have h1 : 0 < ls.length := List.length_pos_iff.mpr h0
    have e6 : gI (fLen [dLine (ls.getD 0 [])]) = some (w : Int) := by simp only [fLen, gI, List.length_map, line0_len h h1]
    rw [if_pos (show (ls.length : Int) > 0 by omega), if_neg h0]
    simp only [M.pure_bind, M.bind_assoc, M.exc_bind, M.opt_some, bindO_nx, bindO_rt, bindO_bk, bindO_ct, bindO_exc, bindO_bind, runO_nx, runO_rt, runO_exc, runO_bind, ix_line h1, e6, e3]
    rfl
theorem m_many_T (ls : List (List Str)) (w : Nat) : methM "many" mt_many resF (dTable ls w) (M.pure []) = M.pure (.int ((ls.length + w : Nat) : Int)) := by
  refine meth_F (e := D.int) (lkn (by decide +kernel) (lkn (by decide +kernel) lkn0)) rfl (ty_p_Table_many (dTable ls w)) ?_
  unfold f_p_Table_many
  simp only [M.pure_bind, M.bind_assoc, M.exc_bind, M.opt_some, bindO_nx, bindO_rt, bindO_bk, bindO_ct, bindO_exc, bindO_bind, runO_nx, runO_rt, runO_exc, runO_bind, fld_lines, uLines, fld_wide, uI_told]
  simp
abbrev dvTableForm (ls : List (List Str)) (w : Nat) : D := .tup [.str "table", .int (w : Int), .tup (ls.map fun l => .tup (l.map .str))]
theorem m_form_T {ls : List (List Str)} {w : Nat} (h : ls.length ≤ 12) : methM "form" mt_form resF (dTable ls w) (M.pure []) = M.pure (dvTableForm ls w) := by
  refine meth_F (v := (("table" : Str), (w : Int), ls)) (e := eP3 D.str D.int (eTL (eTL D.str))) (lkn (by decide +kernel) (lkn (by decide +kernel) lkn0)) rfl (ty_p_Table_form (dTable ls w)) ?_
  unfold f_p_Table_form
  simp only [M.pure_bind, M.bind_assoc, M.exc_bind, M.opt_some, bindO_nx, bindO_rt, bindO_bk, bindO_ct, bindO_exc, bindO_bind, runO_nx, runO_rt, runO_exc, runO_bind, fld_wide, uI_told, fld_lines, uLines]
  rw [lc_map' (fun x => x) (fun _ _ => rfl) (by omega)]
  simp only [List.map_id']
  simp only [M.pure_bind, M.bind_assoc, M.exc_bind, M.opt_some, bindO_nx, bindO_rt, bindO_bk, bindO_ct, bindO_exc, bindO_bind, runO_nx, runO_rt, runO_exc, runO_bind]

end PM
set_option maxHeartbeats 1000000
namespace PM
open PySem PySem.Spec PyProof.Rows L2
/-! things: what is left of what is left -/
inductive Th where
  | row (ms : List Str) | forest (ns : List (Str × Nat)) | table (ls : List (List Str)) (w : Nat)
def Th.d : Th → D
  | .row ms => dRow ms
  | .forest ns => dForest ns
  | .table ls w => dTable ls w
def Th.Ok : Th → Prop
  | .row ms => MksOk ms ∧ ms.length ≤ 40
  | .forest ns => NdOk 0 ns ∧ ns.length ≤ 40
  | .table ls w => TbOk ls w
def Th.n : Th → Nat
  | .row ms => ms.length
  | .forest ns => ns.length
  | .table ls w => ls.length + w
def Th.left (t : Th) (ps : List Nat) : Th := match t with
  | .row ms => .row (rowLeft ms ps)
  | .forest ns => .forest (leftF ns ps)
  | .table ls w => .table (tbLeft ls ps) (tbCols ls.length ps).length
def Th.form : Th → D
  | .row ms => dvRowForm ms
  | .forest ns => dvForestForm ns
  | .table ls w => dvTableForm ls w
theorem Th.n40 {t : Th} (h : t.Ok) : t.n ≤ 40 := by
  cases t with
  | row ms => exact h.2
  | forest ns => exact h.2
  | table ls w => have := TbOk.len h; have := TbOk.wd h; simp only [Th.n]; omega
theorem pl_strs (n : Nat) (l : List Str) : ∀ x ∈ l.map D.str, Pl n x := by
  intro x hx
  obtain ⟨y, _, rfl⟩ := List.mem_map.mp hx
  exact .str n y
theorem Th.form_pl (t : Th) : Pl 60 t.form := by
  cases t with
  | row ms =>
    refine .tup (n := 59) ?_
    intro x hx
    simp only [List.mem_cons, List.not_mem_nil, or_false] at hx
    rcases hx with rfl | rfl
    · exact .str _ _
    · exact .tup (pl_strs _ ms)
  | forest ns =>
    refine .tup (n := 59) ?_
    intro x hx
    simp only [List.mem_cons, List.not_mem_nil, or_false] at hx
    rcases hx with rfl | rfl
    · exact .str _ _
    · refine .tup ?_
      intro x hx
      obtain ⟨y, _, rfl⟩ := List.mem_map.mp hx
      refine .tup ?_
      intro x hx
      simp only [List.mem_cons, List.not_mem_nil, or_false] at hx
      rcases hx with rfl | rfl
      · exact .str _ _
      · exact .int _ _
  | table ls w =>
    refine .tup (n := 59) ?_
    intro x hx
    simp only [List.mem_cons, List.not_mem_nil, or_false] at hx
    rcases hx with rfl | rfl | rfl
    · exact .str _ _
    · exact .int _ _
    · refine .tup ?_
      intro x hx
      obtain ⟨y, _, rfl⟩ := List.mem_map.mp hx
      exact .tup (pl_strs _ y)
theorem eq_same {d : D} (h : Pl 60 d) : D.eq? d d = some true := by
  obtain ⟨p, h1, h2⟩ := h.py
  exact D.eq_self h1 h2
theorem ne_same {d : D} (h : Pl 60 d) : gNeD d d = some false := by
  unfold gNeD; rw [eq_same h]; rfl
theorem flg_map (ps : List Nat) (ns : List (Str × Nat)) : (flg ps ns).map (·.2) = (List.range ns.length).map fun k => decide (k ∈ ps) := by
  unfold flg
  rw [List.map_map]
  apply List.ext_getElem
  · simp
  · intro i h1 h2; simp
theorem leftF_n {ns : List (Str × Nat)} {ps : List Nat} (hp : Rising ns.length ps) : (leftF ns ps).length = ps.length := by
  unfold leftF
  rw [goF_len]
  have e : ((flg ps ns).filter (·.2)).length = ((flg ps ns).map (·.2)).count true := by
    rw [List.count_eq_length_filter, List.filter_map, List.length_map]
    congr 1
    apply List.filter_congr
    intro x _; simp
  rw [e, flg_map, List.count_eq_length_filter, List.filter_map, List.length_map]
  have e2 : ((fun x => x == true) ∘ fun k => decide (k ∈ ps)) = fun k => decide (k ∈ ps) := by funext k; simp
  rw [e2]
  have hperm : ((List.range ns.length).filter fun k => decide (k ∈ ps)).Perm ps := by
    refine (List.perm_ext_iff_of_nodup (List.nodup_range.filter _) (hp.1.imp fun h => Nat.ne_of_lt h)).mpr fun a => ?_
    simp only [List.mem_filter, List.mem_range, decide_eq_true_eq]
    exact ⟨fun h => h.2, fun h => ⟨hp.2 a h, h⟩⟩
  exact hperm.length_eq
theorem split_lt (L : Nat) : ∀ {ps : List Nat}, ps.Pairwise (· < ·) → ps = (ps.filter fun p => decide (p < L)) ++ (ps.filter fun p => decide (L ≤ p))
  | [], _ => rfl
  | p :: ps, h => by
    rw [List.pairwise_cons] at h
    by_cases hp : p < L
    · have : ¬ L ≤ p := by omega
      simp only [List.filter_cons, hp, this, decide_true, decide_false, if_true, Bool.false_eq_true, if_false, List.cons_append]
      congr 1
      exact split_lt L h.2
    · have h1 : L ≤ p := by omega
      have h2 : (ps.filter fun p => decide (p < L)) = [] := by
        rw [List.filter_eq_nil_iff]
        intro q hq
        have := h.1 q hq
        simp; omega
      have h3 : (ps.filter fun p => decide (L ≤ p)) = ps := by
        rw [List.filter_eq_self]
        intro q hq
        have := h.1 q hq
        simp; omega
      simp only [List.filter_cons, hp, h1, decide_true, decide_false, if_true, Bool.false_eq_true, if_false, h2, h3, List.nil_append]
theorem tb_n {n w : Nat} {ps : List Nat} (hp : Rising (n + w) ps) : (ps.filter fun p => decide (p < n)).length + (tbCols n ps).length = ps.length := by
  have := congrArg List.length (split_lt n hp.1)
  rw [List.length_append] at this
  unfold tbCols
  rw [List.length_map]
  omega
theorem Th.left_n {t : Th} {ps : List Nat} (hp : Rising t.n ps) : (t.left ps).n = ps.length := by
  cases t with
  | row ms => simp [Th.left, Th.n, rowLeft]
  | forest ns => exact leftF_n hp
  | table ls w =>
    simp only [Th.left, Th.n, tbLeft, tbLn, List.length_map]
    exact tb_n hp
theorem Th.left_ok {t : Th} (h : t.Ok) {ps : List Nat} (hp : Rising t.n ps) : (t.left ps).Ok := by
  cases t with
  | row ms => exact ⟨mksOk_left h.1 hp.2, by have := rising_len hp; have := h.2; simp [rowLeft]; simp only [Th.n] at *; omega⟩
  | forest ns => exact ⟨leftF_ok h.1, leftF_len40 h.2⟩
  | table ls w => exact tbLeft_ok h hp
/-! ### twice -/
theorem getD_map {α β : Type} (f : α → β) (l : List α) (i : Nat) (a : α) (b : β) (h : i < l.length) : (l.map f).getD i b = f (l.getD i a) := by
  simp only [List.getD_eq_getElem?_getD, List.getElem?_map, List.getElem?_eq_getElem h, Option.map_some, Option.getD_some]
abbrev cmp (p1 p2 : List Nat) : List Nat := p2.map fun p => p1.getD p 0
theorem rising_get {n : Nat} {ps : List Nat} (h : Rising n ps) {i j : Nat} (hij : i < j) (hj : j < ps.length) : ps.getD i 0 < ps.getD j 0 := by
  simp only [List.getD_eq_getElem?_getD, List.getElem?_eq_getElem (show i < ps.length by omega), List.getElem?_eq_getElem hj, Option.getD_some]
  exact List.pairwise_iff_getElem.mp h.1 i j (by omega) hj hij
theorem cmp_rising {n : Nat} {p1 p2 : List Nat} (h1 : Rising n p1) (h2 : Rising p1.length p2) : Rising n (cmp p1 p2) := by
  refine ⟨?_, fun p hp => ?_⟩
  · rw [List.pairwise_map]
    exact h2.1.imp_of_mem fun {a b} ha hb hab => rising_get h1 hab (h2.2 b hb)
  · obtain ⟨q, hq, rfl⟩ := List.mem_map.mp hp
    exact h1.2 _ (getD_mem (h2.2 q hq))
theorem rowLeft2 {ms : List Str} {p1 p2 : List Nat} (h2 : ∀ p ∈ p2, p < p1.length) : rowLeft (rowLeft ms p1) p2 = rowLeft ms (cmp p1 p2) := by
  unfold rowLeft cmp
  rw [List.map_map]
  apply List.map_congr_left
  intro p hp
  exact getD_map (fun p => ms.getD p E0) p1 p 0 E0 (h2 p hp)
theorem getD_range {α : Type} (l : List α) (d : α) : (List.range l.length).map (fun p => l.getD p d) = l := by
  apply List.ext_getElem
  · simp
  · intro i h1 h2; simp [List.getElem?_eq_getElem h2]
theorem tbLeft2 {ls : List (List Str)} {w : Nat} {p1 p2 : List Nat} (h1 : Rising (ls.length + w) p1) (h2 : Rising p1.length p2) :
    tbLeft (tbLeft ls p1) p2 = tbLeft ls (cmp p1 p2) ∧ (tbCols (tbLeft ls p1).length p2).length = (tbCols ls.length (cmp p1 p2)).length := by
  have hsp := split_lt ls.length h1.1
  generalize hr : (p1.filter fun p => decide (p < ls.length)) = r at hsp
  generalize hc : (p1.filter fun p => decide (ls.length ≤ p)) = c at hsp
  have hrl : ∀ p ∈ r, p < ls.length := fun p hp => by rw [← hr] at hp; simpa using (List.mem_filter.mp hp).2
  have hcl : ∀ p ∈ c, ls.length ≤ p := fun p hp => by rw [← hc] at hp; simpa using (List.mem_filter.mp hp).2
  have hlen : p1.length = r.length + c.length := by rw [hsp, List.length_append]
  have hT : (tbLeft ls p1).length = r.length := by unfold tbLeft tbLn; rw [List.length_map, hr]
  have hcols : tbCols ls.length p1 = c.map (· - ls.length) := by unfold tbCols; rw [hc]
  have g1 : ∀ p, p < r.length → p1.getD p 0 = r.getD p 0 := by
    intro p hp
    rw [hsp]
    simp only [List.getD_eq_getElem?_getD, List.getElem?_append_left hp]
  have g2 : ∀ p, r.length ≤ p → p1.getD p 0 = c.getD (p - r.length) 0 := by
    intro p hp
    rw [hsp]
    simp only [List.getD_eq_getElem?_getD, List.getElem?_append_right hp]
  have k1 : ∀ p ∈ p2, (decide (p1.getD p 0 < ls.length)) = decide (p < r.length) := by
    intro p hp
    have hp2 := h2.2 p hp
    by_cases hlt : p < r.length
    · rw [g1 p hlt]
      have := hrl _ (getD_mem (d := 0) hlt)
      simp only [this, hlt]
    · rw [g2 p (by omega)]
      have := hcl _ (getD_mem (l := c) (i := p - r.length) (d := 0) (by omega))
      simp only [hlt, show ¬ (c.getD (p - r.length) 0 < ls.length) by omega]
  have k2 : ∀ p ∈ p2, (decide (ls.length ≤ p1.getD p 0)) = decide (r.length ≤ p) := by
    intro p hp
    have := k1 p hp
    rw [decide_eq_decide] at this
    rw [decide_eq_decide]
    omega
  have f1 : (cmp p1 p2).filter (fun p => decide (p < ls.length)) = (p2.filter fun p => decide (p < r.length)).map fun p => p1.getD p 0 := by
    unfold cmp
    rw [List.filter_map]
    congr 1
    exact List.filter_congr k1
  have f2 : tbCols ls.length (cmp p1 p2) = (tbCols r.length p2).map fun q => (tbCols ls.length p1).getD q 0 := by
    unfold tbCols cmp
    rw [List.filter_map, List.map_map, List.map_map]
    have : (p2.filter ((fun p => decide (ls.length ≤ p)) ∘ fun p => p1.getD p 0)) = p2.filter fun p => decide (r.length ≤ p) := List.filter_congr k2
    rw [this]
    apply List.map_congr_left
    intro p hp
    have hp' := List.mem_filter.mp hp
    have hpr : r.length ≤ p := by simpa using hp'.2
    have hpl := h2.2 p hp'.1
    simp only [Function.comp]
    rw [g2 p hpr, hc, getD_map (· - ls.length) c (p - r.length) 0 0 (by omega)]
  refine ⟨?_, by rw [hT, f2, List.length_map]⟩
  unfold tbLeft at hT ⊢
  rw [hT]
  unfold tbLn at hT ⊢
  rw [f1, List.map_map, hT]
  apply List.map_congr_left
  intro p hp
  have hpl : p < r.length := by simpa using (List.mem_filter.mp hp).2
  simp only [Function.comp]
  rw [f2, List.map_map, hr]
  rw [getD_map (fun p => (tbCols ls.length p1).map fun c => (ls.getD p []).getD c E0) r p 0 [] hpl, ← g1 p hpl]
  apply List.map_congr_left
  intro q hq
  simp only [Function.comp]
  refine getD_map (fun c => (ls.getD (p1.getD p 0) []).getD c E0) _ q 0 E0 ?_
  rw [hcols, List.length_map]
  obtain ⟨z, hz, rfl⟩ := List.mem_map.mp hq
  have h5 := (List.mem_filter.mp hz)
  have := h2.2 z h5.1
  have : r.length ≤ z := by simpa using h5.2
  omega
/-- flags of the kept, of the kept of the kept -/
def comp : List Bool → List Bool → List Bool
  | true :: a, b :: bs => b :: comp a bs
  | true :: a, [] => false :: comp a []
  | false :: a, bs => false :: comp a bs
  | [], _ => []
def filt : List Bool → List Bool → List Bool
  | true :: a, b :: bs => b :: filt a bs
  | false :: a, _ :: bs => filt a bs
  | _, _ => []
theorem filt_take : ∀ (P R : List Bool) (d : Nat), P.length = R.length → d ≤ P.length → (filt P R).take ((P.take d).count true) = filt (P.take d) (R.take d)
  | _, _, 0, _, _ => by simp [filt]
  | [], _, d + 1, _, h => by simp at h
  | _ :: _, [], _, h, _ => by simp at h
  | true :: P, r :: R, d + 1, h, hd => by
    simp only [List.length_cons, Nat.add_right_cancel_iff, Nat.add_le_add_iff_right] at h hd
    simp only [List.take_succ_cons, filt, List.count_cons_self, filt_take P R d h hd]
  | false :: P, r :: R, d + 1, h, hd => by
    simp only [List.length_cons, Nat.add_right_cancel_iff, Nat.add_le_add_iff_right] at h hd
    have : (false :: P.take d).count true = (P.take d).count true := by simp
    simp only [List.take_succ_cons, filt, this, filt_take P R d h hd]
def Sub : List Bool → List Bool → Prop
  | p :: P, r :: R => (r = true → p = true) ∧ Sub P R
  | [], [] => True
  | _, _ => False
theorem Sub.len : ∀ {P R : List Bool}, Sub P R → P.length = R.length
  | [], [], _ => rfl
  | _ :: _, _ :: _, h => congrArg (· + 1) (Sub.len h.2)
theorem filt_count : ∀ {P R : List Bool}, Sub P R → (filt P R).count true = R.count true
  | [], [], _ => rfl
  | true :: P, r :: R, h => by cases r <;> simp [filt, filt_count h.2]
  | false :: P, r :: R, h => by
    have hr : r = false := by cases r with
      | true => have := h.1 rfl; cases this
      | false => rfl
    subst hr
    simp [filt, filt_count h.2]
theorem Sub.take : ∀ {P R : List Bool} (d : Nat), Sub P R → Sub (P.take d) (R.take d)
  | _, _, 0, _ => trivial
  | [], [], _ + 1, _ => trivial
  | _ :: _, _ :: _, d + 1, h => ⟨h.1, Sub.take d h.2⟩
theorem Sub.snoc {k k' : Bool} (hk : k' = true → k = true) : ∀ {P R : List Bool}, Sub P R → Sub (P ++ [k]) (R ++ [k'])
  | [], [], _ => ⟨hk, trivial⟩
  | _ :: _, _ :: _, h => ⟨h.1, Sub.snoc hk h.2⟩
theorem filt_snoc (k' : Bool) : ∀ {P R : List Bool}, P.length = R.length → filt (P ++ [true]) (R ++ [k']) = filt P R ++ [k']
  | [], [], _ => rfl
  | true :: P, r :: R, h => by simp only [List.cons_append, filt, filt_snoc k' (show P.length = R.length by simpa using h)]
  | false :: P, r :: R, h => by simp only [List.cons_append, filt, filt_snoc k' (show P.length = R.length by simpa using h)]
theorem filt_snocF (k' : Bool) : ∀ {P R : List Bool}, P.length = R.length → filt (P ++ [false]) (R ++ [k']) = filt P R
  | [], [], _ => rfl
  | true :: P, r :: R, h => by simp only [List.cons_append, filt, filt_snocF k' (show P.length = R.length by simpa using h)]
  | false :: P, r :: R, h => by simp only [List.cons_append, filt, filt_snocF k' (show P.length = R.length by simpa using h)]
theorem goL_len : ∀ (ns : List (Str × Nat)) (ks : List Bool) (P : List Bool), ns.length = ks.length → (goL P (ns.zip ks)).length = ks.count true
  | [], [], _, _ => rfl
  | n :: ns, k :: ks, P, h => by
    simp only [List.zip_cons_cons, goL, List.length_append, goL_len ns ks _ (by simpa using h)]
    cases k <;> simp; omega
theorem goL_take (Q : List Bool) (m : Nat) : ∀ (items : List ((Str × Nat) × Bool)), (∀ x ∈ items.head?, x.1.2 ≤ m) → goL (Q.take m) items = goL Q items
  | [], _ => rfl
  | (n, k) :: r, h => by
    have hm : n.2 ≤ m := h _ rfl
    unfold goL
    rw [List.take_take, Nat.min_eq_left hm]
theorem goL2 : ∀ (ns : List (Str × Nat)) (ks1 ks2 P R : List Bool) (b : Nat), ns.length = ks1.length → ks2.length = ks1.count true → Sub P R → b ≤ P.length → b ≤ 12 → NdOk b ns →
    goL (filt P R) ((goL P (ns.zip ks1)).zip ks2) = goL R (ns.zip (comp ks1 ks2))
  | [], [], ks2, P, R, b, _, _, _, _, _, _ => by simp [goL, comp]
  | n :: ns, k1 :: ks1, ks2, P, R, b, h1, h2, hs, hb, hb2, hn => by
    obtain ⟨_, hd, hn⟩ := hn
    have h1' : ns.length = ks1.length := by simpa using h1
    have hl := hs.len
    have hdP : n.2 ≤ P.length := by omega
    have hsd := hs.take n.2
    cases k1 with
    | false =>
      have h2' : ks2.length = ks1.count true := by simpa using h2
      have e : comp (false :: ks1) ks2 = false :: comp ks1 ks2 := by simp [comp]
      rw [e]
      simp only [List.zip_cons_cons, goL, Bool.false_eq_true, if_false, List.nil_append]
      rw [← goL2 ns ks1 ks2 (P.take n.2 ++ [false]) (R.take n.2 ++ [false]) (min (n.2 + 1) 12) h1' h2' (hsd.snoc (fun h => h)) (by simp; omega) (by omega) hn]
      rw [filt_snocF false (by simp; omega)]
      rw [← filt_take P R n.2 hl hdP, goL_take]
      intro x hx
      have hc : (P.take n.2).count true ≤ 12 := Nat.le_trans List.count_le_length (by simp; omega)
      have hok := goL_ok (ns.zip ks1) (P.take n.2 ++ [false]) (min (n.2 + 1) 12) ((P.take n.2).count true) (by simp; omega) (by omega) (by rw [List.count_append]; simp; omega) (by rw [List.map_fst_zip (by omega)]; exact hn)
      generalize goL (P.take n.2 ++ [false]) (ns.zip ks1) = o at hx hok
      cases o with
      | nil => simp at hx
      | cons a o =>
        cases ks2 with
        | nil => simp at hx
        | cons k2 ks2 =>
          simp at hx
          subst hx
          exact hok.2.1
    | true =>
      cases ks2 with
      | nil => simp at h2
      | cons k2 ks2 =>
        have h2' : ks2.length = ks1.count true := by simpa using h2
        simp only [comp, List.zip_cons_cons, goL, if_true, List.singleton_append, List.zip_cons_cons]
        rw [filt_take P R n.2 hl hdP, filt_count hsd]
        have ih := goL2 ns ks1 ks2 (P.take n.2 ++ [true]) (R.take n.2 ++ [k2]) (min (n.2 + 1) 12) h1' h2' (hsd.snoc (fun _ => rfl)) (by simp; omega) (by omega) hn
        rw [filt_snoc k2 (by simp; omega)] at ih
        rw [ih]
theorem flg_zip (ps : List Nat) (ns : List (Str × Nat)) : flg ps ns = ns.zip ((List.range ns.length).map fun k => decide (k ∈ ps)) := by
  unfold flg
  apply List.ext_getElem
  · simp
  · intro i h1 h2; simp
theorem comp_flags {p1 p2 : List Nat} (n0 : Nat) (h1 : Rising n0 p1) (h2 : Rising p1.length p2) : ∀ (n s j : Nat), j ≤ p1.length → s + n = n0 → (∀ i, i < p1.length → (i < j ↔ p1.getD i 0 < s)) →
    comp ((List.range' s n).map fun k => decide (k ∈ p1)) ((List.range' j (p1.length - j)).map fun k => decide (k ∈ p2)) = (List.range' s n).map fun k => decide (k ∈ cmp p1 p2)
  | 0, s, j, hj, hs, h => by simp [comp]
  | n + 1, s, j, hj, hs, h => by
    rw [List.range'_succ, List.map_cons, List.map_cons]
    by_cases hm : s ∈ p1
    · obtain ⟨i, hi, he⟩ := List.getElem_of_mem hm
      have hg : p1.getD i 0 = s := by simp [List.getD_eq_getElem?_getD, List.getElem?_eq_getElem hi, he]
      have hij : i = j := by
        have a1 := (h i hi).mpr
        rw [hg] at a1
        have a2 : ¬ i < j := fun z => by have := (h i hi).mp z; omega
        by_cases e : j < i
        · have a3 := rising_get h1 e hi
          have a4 := (h j (by omega)).mpr (by omega)
          omega
        · omega
      subst hij
      have hd : decide (i ∈ p2) = decide (s ∈ cmp p1 p2) := by
        rw [decide_eq_decide]
        constructor
        · intro hi2
          exact List.mem_map.mpr ⟨i, hi2, hg⟩
        · intro hs2
          obtain ⟨q, hq, hq2⟩ := List.mem_map.mp hs2
          have hql := h2.2 q hq
          rcases Nat.lt_trichotomy q i with hlt | rfl | hgt
          · have := rising_get h1 hlt hi; omega
          · exact hq
          · have := rising_get h1 hgt hql; omega
      have hl : p1.length - i = (p1.length - (i + 1)) + 1 := by omega
      rw [hl, List.range'_succ, List.map_cons, show decide (s ∈ p1) = true by simp [hm], comp, hd]
      congr 1
      refine comp_flags n0 h1 h2 n (s + 1) (i + 1) hi (by omega) fun q hq => ?_
      constructor
      · intro hqi
        by_cases e : q = i
        · subst e; omega
        · have := (h q hq).mp (by omega); omega
      · intro hqs
        rcases Nat.lt_trichotomy q i with hlt | rfl | hgt
        · omega
        · omega
        · have := rising_get h1 hgt hq; omega
    · have hd : decide (s ∈ cmp p1 p2) = false := by
        rw [decide_eq_false_iff_not]
        intro hs2
        obtain ⟨q, hq, hq2⟩ := List.mem_map.mp hs2
        exact hm (hq2 ▸ getD_mem (h2.2 q hq))
      rw [show decide (s ∈ p1) = false by simp [hm], hd, comp]
      congr 1
      refine comp_flags n0 h1 h2 n (s + 1) j hj (by omega) fun q hq => ?_
      have := h q hq
      have hne : p1.getD q 0 ≠ s := fun e => hm (e ▸ getD_mem hq)
      omega
theorem leftF2 {ns : List (Str × Nat)} {p1 p2 : List Nat} (h : NdOk 0 ns) (h1 : Rising ns.length p1) (h2 : Rising p1.length p2) : leftF (leftF ns p1) p2 = leftF ns (cmp p1 p2) := by
  rw [leftF_goL (leftF_ok h), leftF_goL h, leftF_goL h, flg_zip, flg_zip, flg_zip]
  have hl : (goL [] (ns.zip ((List.range ns.length).map fun k => decide (k ∈ p1)))).length = p1.length := by
    rw [← flg_zip, ← leftF_goL h, leftF_n h1]
  rw [hl]
  have hc := goL_len ns ((List.range ns.length).map fun k => decide (k ∈ p1)) [] (by simp)
  have := goL2 ns ((List.range ns.length).map fun k => decide (k ∈ p1)) ((List.range p1.length).map fun k => decide (k ∈ p2)) [] [] 0 (by simp) (by rw [← hc, hl]; simp) trivial (by simp) (by omega) h
  simp only [filt] at this
  rw [this]
  congr 2
  have hf := comp_flags ns.length h1 h2 ns.length 0 0 (by omega) (by omega) (fun i hi => by omega)
  rw [← List.range_eq_range', Nat.sub_zero, ← List.range_eq_range'] at hf
  exact hf
theorem goL_all : ∀ (ns : List (Str × Nat)) (P : List Bool) (b : Nat), (∀ p ∈ P, p = true) → b ≤ P.length → b ≤ 12 → NdOk b ns → goL P (ns.map fun n => (n, true)) = ns
  | [], _, _, _, _, _, _ => rfl
  | n :: ns, P, b, hP, hb, hb2, h => by
    obtain ⟨_, hd, h⟩ := h
    have hc : (P.take n.2).count true = n.2 := by
      rw [List.count_eq_length.mpr (fun x hx => (hP x (List.mem_of_mem_take hx)).symm), List.length_take]
      omega
    simp only [List.map_cons, goL, if_true, hc, List.singleton_append]
    congr 1
    refine goL_all ns _ (min (n.2 + 1) 12) ?_ (by simp; omega) (by omega) h
    intro p hp
    rcases List.mem_append.mp hp with hp | hp
    · exact hP p (List.mem_of_mem_take hp)
    · simpa using hp
theorem leftF_all {ns : List (Str × Nat)} (h : NdOk 0 ns) : leftF ns (List.range ns.length) = ns := by
  rw [leftF_goL h]
  have e : flg (List.range ns.length) ns = ns.map fun n => (n, true) := by
    unfold flg
    apply List.ext_getElem
    · simp
    · intro i h1 h2
      simp at h2
      simp [h2]
  rw [e]
  exact goL_all ns [] 0 (by simp) (by simp) (by omega) h
theorem rising_range (n : Nat) : Rising n (List.range n) := ⟨List.pairwise_lt_range, fun p hp => List.mem_range.mp hp⟩
theorem tbLeft_all {ls : List (List Str)} {w : Nat} (h : TbOk ls w) : tbLeft ls (List.range (ls.length + w)) = ls ∧ (tbCols ls.length (List.range (ls.length + w))).length = w := by
  have hc : tbCols ls.length (List.range (ls.length + w)) = List.range w := by
    unfold tbCols
    rw [List.range_add, List.filter_append, List.map_append]
    have e1 : (List.range ls.length).filter (fun p => decide (ls.length ≤ p)) = [] := by
      rw [List.filter_eq_nil_iff]
      intro p hp
      have := List.mem_range.mp hp
      simp; omega
    have e2 : ((List.range w).map (ls.length + ·)).filter (fun p => decide (ls.length ≤ p)) = (List.range w).map (ls.length + ·) := by
      rw [List.filter_eq_self]
      intro p hp
      obtain ⟨q, _, rfl⟩ := List.mem_map.mp hp
      simp
    have e3 : ((fun x => x - ls.length) ∘ fun x => ls.length + x) = id := by funext x; simp
    rw [e1, e2, List.map_map, e3, List.map_id, List.map_nil, List.nil_append]
  have hr : (List.range (ls.length + w)).filter (fun p => decide (p < ls.length)) = List.range ls.length := by
    rw [List.range_add, List.filter_append]
    have e1 : (List.range ls.length).filter (fun p => decide (p < ls.length)) = List.range ls.length := by
      rw [List.filter_eq_self]
      intro p hp
      have := List.mem_range.mp hp
      simp [this]
    have e2 : ((List.range w).map (ls.length + ·)).filter (fun p => decide (p < ls.length)) = [] := by
      rw [List.filter_eq_nil_iff]
      intro p hp
      obtain ⟨q, _, rfl⟩ := List.mem_map.mp hp
      simp
    rw [e1, e2, List.append_nil]
  refine ⟨?_, by rw [hc, List.length_range]⟩
  unfold tbLeft tbLn
  rw [hc, hr]
  have : (List.range ls.length).map (fun p => (List.range w).map fun c => (ls.getD p []).getD c E0) = (List.range ls.length).map (fun p => ls.getD p []) := by
    apply List.map_congr_left
    intro p hp
    have hp := List.mem_range.mp hp
    rw [← (h.li _ (getD_mem (d := []) hp)).1]
    exact getD_range _ _
  rw [this]
  exact getD_range _ _
theorem Th.left2 {t : Th} (h : t.Ok) {p1 p2 : List Nat} (h1 : Rising t.n p1) (h2 : Rising p1.length p2) : (t.left p1).left p2 = t.left (cmp p1 p2) := by
  cases t with
  | row ms => simp only [Th.left, rowLeft2 h2.2]
  | forest ns => simp only [Th.left, leftF2 h.1 h1 h2]
  | table ls w =>
    obtain ⟨e1, e2⟩ := tbLeft2 h1 h2
    simp only [Th.left, e1, e2]
theorem Th.left_all {t : Th} (h : t.Ok) : t.left (List.range t.n) = t := by
  cases t with
  | row ms => simp only [Th.left, Th.n, rowLeft, getD_range]
  | forest ns => simp only [Th.left, Th.n, leftF_all h.1]
  | table ls w =>
    obtain ⟨e1, e2⟩ := tbLeft_all h
    simp only [Th.left, Th.n, e1, e2]

end PM
set_option maxHeartbeats 1000000
namespace PM
open PySem PySem.Spec PyProof.Rows L2
/-! what drawing needs -/
theorem sIx_in {n : Nat} {d : Nat} {i : Int} (h : 0 ≤ i ∧ i ≤ n) : HT.sIx n d (some i) = i.toNat := by
  unfold HT.sIx; simp only []; rw [if_neg (by omega)]; omega
theorem cutD_len {α : Type} (xs : List α) {lo hi : Int} (h : 0 ≤ lo ∧ lo ≤ hi ∧ hi ≤ xs.length) : (cutD xs (some lo) (some hi)).length = (hi - lo).toNat := by
  unfold cutD
  rw [sIx_in ⟨h.1, by omega⟩, sIx_in ⟨by omega, h.2.2⟩, List.length_take, List.length_drop]
  omega
theorem cutD_mem {α : Type} {xs : List α} {lo hi : Option Int} {x : α} (h : x ∈ cutD xs lo hi) : x ∈ xs := List.mem_of_mem_drop (List.mem_of_mem_take h)
theorem cutS_Sl (x : Str) (lo hi : Option Int) : Sl (cutS x lo hi) = cutD (Sl x) lo hi := by
  unfold cutS cutD Sl Str.length
  simp
theorem cutS_halves (x : Str) (i : Int) (h : 0 ≤ i ∧ i ≤ x.length) : (cutS x none (some i)).length + (cutS x (some i) none).length = x.length := by
  rw [← Sl_len (cutS x none (some i)), ← Sl_len (cutS x (some i) none), cutS_Sl, cutS_Sl]
  have hl := Sl_len x
  unfold cutD
  rw [sIx_in (by rw [hl]; exact h), sIx_in (by rw [hl]; exact h)]
  simp only [HT.sIx, List.length_take, List.length_drop]
  omega
theorem cutS_len (x : Str) (lo hi : Option Int) : (cutS x lo hi).length ≤ x.length := by
  unfold cutS Str.length; simp; omega
theorem isMkS_of {x : Str} (h1 : 0 < x.length) (h2 : x.length ≤ 8) (h3 : ∀ c ∈ Sl x, c ∈ lett) : isMkS x = true := by
  have h0 : x ≠ Str.ofString "" := by rintro rfl; simp [lit_len] at h1
  simp only [isMkS, h0, h2, decide_true, Bool.and_true, Bool.true_and, List.all_eq_true, decide_eq_true_eq, not_false_eq_true, ne_eq]
  exact h3
theorem emod_in (a : Int) {n : Nat} (h : 0 < n) : 0 ≤ a % (n : Int) ∧ a % (n : Int) < n := ⟨Int.emod_nonneg _ (by omega), Int.emod_lt_of_pos _ (by omega)⟩
theorem rngI_len (lo : Int) (n : Nat) : (rngI lo n).length = n := by simp [rngI]
theorem rngI_mem {lo : Int} {n : Nat} {x : Int} (h : x ∈ rngI lo n) : lo ≤ x ∧ x < lo + n := by
  obtain ⟨k, hk, rfl⟩ := List.mem_map.mp h
  have := List.mem_range.mp hk
  omega
theorem NdOk.snoc : ∀ {ns : List (Str × Nat)} {b : Nat} {m : Str} {d : Nat}, NdOk b ns → isMkS m = true → d ≤ (match ns.getLast? with | some n => min (n.2 + 1) 12 | none => b) → NdOk b (ns ++ [(m, d)])
  | [], b, m, d, _, h2, h3 => ⟨h2, h3, trivial⟩
  | n :: ns, b, m, d, h1, h2, h3 => by
    refine ⟨h1.1, h1.2.1, NdOk.snoc h1.2.2 h2 ?_⟩
    cases ns with
    | nil => simpa using h3
    | cons x xs =>
      simp only [List.getLast?_cons_cons] at h3
      simp only [List.getLast?_cons] at h3 ⊢
      exact h3
theorem rngIC_mem {i j c x : Int} (hc : 0 < c) (h : x ∈ rngIC i c (stepN i j c)) : i ≤ x ∧ x < j := by
  obtain ⟨k, hk, rfl⟩ := List.mem_map.mp h
  have hk := List.mem_range.mp hk
  unfold stepN at hk
  split at hk
  · rename_i hij
    have h1 : (k : Int) ≤ (j - i - 1) / c := by omega
    have h2 : (k : Int) * c ≤ (j - i - 1) / c * c := Int.mul_le_mul_of_nonneg_right h1 (by omega)
    have h3 : (j - i - 1) / c * c ≤ j - i - 1 := Int.ediv_mul_le _ (by omega)
    have h4 : 0 ≤ (k : Int) * c := Int.mul_nonneg (by omega) (by omega)
    omega
  · omega

end PM
set_option maxHeartbeats 1000000
namespace PM
open PySem PySem.Spec PyProof.Rows L2
/-! drawing -/
def howMany (n : Int) : Int := if n / 6 % 8 = 5 then 7 + n / 48 % 19 else 1 + n % 6
theorem howMany_in (n : Int) : 1 ≤ howMany n ∧ howMany n ≤ 25 := by unfold howMany; split <;> omega
theorem mof_lett : ∀ c ∈ Sl (Str.ofString "marksof"), c ∈ lett := by
  have : (Sl (Str.ofString "marksof")).all (fun c => decide (c ∈ lett)) = true := by decide +kernel
  intro c hc
  simpa using List.all_eq_true.mp this c hc
def cell (ns : List Int) (k : Int) : Int := if k < ns.length then ns.getD k.toNat 0 else 0
theorem cell_at_ok {ns : List Int} {k : Int} (hk : 0 ≤ k) : f_l_cell_at ns k = M.pure (cell ns k) := by
  unfold f_l_cell_at cell
  by_cases h : k < ns.length
  · simp only [M.pure_bind, M.bind_assoc, M.exc_bind, M.opt_some, bindO_nx, bindO_rt, bindO_bk, bindO_ct, bindO_exc, bindO_bind, runO_nx, runO_rt, runO_exc, runO_bind, h, decide_true, if_true, gIx_getD 0 (show 0 ≤ k ∧ k < ns.length from ⟨hk, h⟩)]
  · simp only [M.pure_bind, M.bind_assoc, M.exc_bind, M.opt_some, bindO_nx, bindO_rt, bindO_bk, bindO_ct, bindO_exc, bindO_bind, runO_nx, runO_rt, runO_exc, runO_bind, h, decide_false, Bool.false_eq_true, if_false]
def mix (a k : Int) : Int := ((a % 100000000000000000000 + 17*k + k*k*k + 5) * 48271 % 1000003) * 69621 % 999983
theorem mix_ok {a k : Int} (hk : 0 ≤ k ∧ k < 1000000) : f_l_mix a k = M.pure (mix a k) := by
  unfold f_l_mix mix
  simp only [M.pure_bind, M.bind_assoc, M.exc_bind, M.opt_some, bindO_nx, bindO_rt, bindO_bk, bindO_ct, bindO_exc, bindO_bind, runO_nx, runO_rt, runO_exc, runO_bind, gMul_okR (show -(2 ^ 64) < k ∧ k < 2 ^ 64 by omega)]
theorem mix_nn (a k : Int) : 0 ≤ mix a k := by unfold mix; omega
theorem how_many_ok (n : Int) : f_l_how_many n = M.pure (howMany n) := by
  unfold f_l_how_many howMany
  by_cases h : n / 6 % 8 = 5 <;> simp only [M.pure_bind, M.bind_assoc, M.exc_bind, M.opt_some, bindO_nx, bindO_rt, bindO_bk, bindO_ct, bindO_exc, bindO_bind, runO_nx, runO_rt, runO_exc, runO_bind, h, decide_true, decide_false, if_true, Bool.false_eq_true, if_false]
theorem marks_ok {c many : Int} (hm : 0 ≤ many ∧ many ≤ 26) : Ret (f_l_marks c many) fun ms => MksOk ms ∧ ms.length = many.toNat := by
  have hb := cutS_len ("marksof" : Str) none (some (c % 8))
  have hb7 : ("marksof" : Str).length = 7 := by simp [lit_len]
  have hlt : ("abcdefghijklmnopqrstuvwxyz" : Str).length = 26 := by simp [lit_len]
  have hcb : ∀ z ∈ Sl (cutS ("marksof" : Str) none (some (c % 8))), z ∈ lett := by
    intro z hz
    rw [cutS_Sl] at hz
    exact mof_lett z (cutD_mem hz)
  rw [hb7] at hb
  unfold f_l_marks
  simp only [M.pure_bind, M.bind_assoc, M.exc_bind, M.opt_some, bindO_nx, bindO_rt, bindO_bk, bindO_ct, bindO_exc, bindO_bind, runO_nx, runO_rt, runO_exc, runO_bind, gCutS_ok (x := ("marksof" : Str)) (show ("marksof" : Str).length ≤ 1000000 by rw [hb7]; omega)]
  generalize cutS ("marksof" : Str) none (some (c % 8)) = b at hb hcb ⊢
  simp only [M.pure_bind, M.bind_assoc, M.exc_bind, M.opt_some, bindO_nx, bindO_rt, bindO_bk, bindO_ct, bindO_exc, bindO_bind, runO_nx, runO_rt, runO_exc, runO_bind, gLenS_ok (show b.length ≤ 1000000 by omega), gMod_ok (show (0 : Int) < (b.length : Int) + 1 by omega), gR1_ok (show -1000000000 ≤ many ∧ many ≤ 1000000000 by omega)]
  have hi : 0 ≤ c / 8 % ((b.length : Int) + 1) ∧ c / 8 % ((b.length : Int) + 1) ≤ b.length := by
    have := emod_in (c / 8) (show 0 < b.length + 1 by omega)
    push_cast at this
    omega
  generalize c / 8 % ((b.length : Int) + 1) = i at hi
  have h3 := cutS_len b none (some i)
  have h4 := cutS_len b (some i) none
  have h5 := cutS_halves b i hi
  refine Ret.runO (Ret.bindO (P := fun s => 0 ≤ s ∧ s ≤ 8) ?_ ?_)
  · refine Ret.ite (fun _ => ⟨_, rfl, _, rfl, by omega⟩) (fun _ => ⟨_, rfl, _, rfl, by omega⟩)
  · intro step hstep
    have hlc : Ret (lcO (fun _ => M.pure true) (fun x5 => M.bind (M.bind (M.opt (gCutS b none (some i))) fun t10 => M.bind (M.bind (M.bind (M.bind (M.bind (M.opt (gMul x5 step)) fun t6 => M.pure (c / 64 % 26 + t6)) fun t7 => M.pure (t7 % 26)) fun t8 => M.opt (gIxS ("abcdefghijklmnopqrstuvwxyz" : Str) t8)) fun t9 => M.pure (S1 t9)) fun t11 => M.opt (gCatS t10 t11)) fun t12 => M.bind (M.opt (gCutS b (some i) none)) fun t13 => M.opt (gCatS t12 t13)) (rngI 0 many.toNat) []) fun ys => ys.length = (rngI 0 many.toNat).length ∧ ∀ y ∈ ys, isMkS y = true := by
      refine Ret.lc (fun x hx => ?_) (by rw [rngI_len]; omega)
      have := rngI_mem hx
      have hidx : 0 ≤ (c / 64 % 26 + x * step) % 26 ∧ (c / 64 % 26 + x * step) % 26 < ("abcdefghijklmnopqrstuvwxyz" : Str).length ∧ ("abcdefghijklmnopqrstuvwxyz" : Str).length ≤ 1000000 := by rw [hlt]; omega
      simp only [M.pure_bind, M.bind_assoc, M.exc_bind, M.opt_some, bindO_nx, bindO_rt, bindO_bk, bindO_ct, bindO_exc, bindO_bind, runO_nx, runO_rt, runO_exc, runO_bind, gCutS_ok (x := b) (show b.length ≤ 1000000 by omega), gMul_okR (i := x) (show -(2 ^ 64) < step ∧ step < 2 ^ 64 by omega), gIxS_ok hidx]
      generalize hg : (Sl ("abcdefghijklmnopqrstuvwxyz" : Str)).getD ((c / 64 % 26 + x * step) % 26).toNat 0 = z
      have hz : z ∈ lett := by
        rw [← hg]
        have h26 : (Sl ("abcdefghijklmnopqrstuvwxyz" : Str)).length = 26 := by rw [Sl_len, hlt]
        exact getD_mem (l := lett) (by have h27 : lett.length = 26 := h26; rw [h27]; omega)
      simp only [M.pure_bind, M.bind_assoc, M.exc_bind, M.opt_some, bindO_nx, bindO_rt, bindO_bk, bindO_ct, bindO_exc, bindO_bind, runO_nx, runO_rt, runO_exc, runO_bind, gCatS_ok (x := cutS b none (some i)) (y := S1 z) (by simp; omega), gCatS_ok (x := cutS b none (some i) ++ S1 z) (y := cutS b (some i) none) (by simp; omega)]
      refine ⟨_, rfl, isMkS_of (by simp; omega) (by simp; omega) ?_⟩
      intro q hq
      simp only [Sl_add, Sl_one, cutS_Sl, List.mem_append, List.mem_singleton] at hq
      rcases hq with (hq | rfl) | hq
      · exact hcb q (cutD_mem hq)
      · exact hz
      · exact hcb q (cutD_mem hq)
    simp only [M.bind_assoc, M.pure_bind] at hlc
    refine Ret.bind hlc fun ys hys => ⟨_, rfl, _, rfl, hys.2, by rw [hys.1, rngI_len]⟩
def pickM (c : Int) (ms : List Str) : Str := ms.getD ((if 7 < ms.length then (5 * c + c / 7) % ms.length else c % 7 % ms.length).toNat) E0
theorem pick_ok {c : Int} {ms : List Str} (h : 0 < ms.length) : f_l_pick c ms = M.pure (pickM c ms) := by
  have h1 := emod_in (5 * c + c / 7) h
  have h2 := emod_in (c % 7) h
  unfold f_l_pick pickM
  by_cases h7 : 7 < ms.length
  · have h8 : (ms.length : Int) > 7 := by omega
    simp only [M.pure_bind, M.bind_assoc, M.exc_bind, M.opt_some, bindO_nx, bindO_rt, bindO_bk, bindO_ct, bindO_exc, bindO_bind, runO_nx, runO_rt, runO_exc, runO_bind, h8, h7, decide_true, if_true, gMod_ok (show (0 : Int) < (ms.length : Int) by omega), gIx_getD E0 h1]
  · have h8 : ¬ (ms.length : Int) > 7 := by omega
    simp only [M.pure_bind, M.bind_assoc, M.exc_bind, M.opt_some, bindO_nx, bindO_rt, bindO_bk, bindO_ct, bindO_exc, bindO_bind, runO_nx, runO_rt, runO_exc, runO_bind, h8, h7, decide_false, Bool.false_eq_true, if_false, gMod_ok (show (0 : Int) < (ms.length : Int) by omega), gIx_getD E0 h2]
theorem pickM_ok (c : Int) {ms : List Str} (h : 0 < ms.length) (hm : MksOk ms) : isMkS (pickM c ms) = true := by
  have h1 := emod_in (5 * c + c / 7) h
  have h2 := emod_in (c % 7) h
  exact hm _ (getD_mem (by split <;> omega))
def LsOk (w : Nat) (ls : List (List Str)) : Prop := ls.length ≤ 12 ∧ ∀ l ∈ ls, l.length = w ∧ MksOk l
theorem lines_ok {cs : List Int} {ms : List Str} {w : Nat} (h : 0 < ms.length) (hm : MksOk ms) (hc : cs.length ≤ 1000) (hw : w ≤ 12) : Ret (f_l_lines cs ms (w : Int)) (LsOk w) := by
  unfold f_l_lines
  simp only [M.pure_bind, M.bind_assoc, M.exc_bind, M.opt_some, bindO_nx, bindO_rt, bindO_bk, bindO_ct, bindO_exc, bindO_bind, runO_nx, runO_rt, runO_exc, runO_bind, gR3_ok (i := 0) (j := (cs.length : Int) - (w : Int) + 1) (c := max2 1 (w : Int)) (by unfold max2; split <;> omega)]
  have hst : 0 < max2 1 (w : Int) := by unfold max2; split <;> omega
  refine Ret.runO (Ret.bindO (P := LsOk w) ?_ fun s hs => ⟨_, rfl, _, rfl, hs⟩)
  refine Ret.for1 (fun _ s => LsOk w s) ⟨by simp, by simp⟩ ?_ (fun s hs => hs)
  rintro pre x post s e ⟨hs1, hs2⟩
  have hx := rngIC_mem hst (show x ∈ rngIC 0 (max2 1 (w : Int)) (stepN 0 ((cs.length : Int) - (w : Int) + 1) (max2 1 (w : Int))) by rw [e]; simp)
  unfold f_b1_l_lines
  by_cases hl : (s.length : Int) < 12
  · simp only [M.pure_bind, M.bind_assoc, M.exc_bind, M.opt_some, bindO_nx, bindO_rt, bindO_bk, bindO_ct, bindO_exc, bindO_bind, runO_nx, runO_rt, runO_exc, runO_bind, hl, decide_true, if_true]
    have hcut := cutD_len cs (lo := x) (hi := x + (w : Int)) (by omega)
    refine Ret.bind (Ret.lc (P := fun y => isMkS y = true) (fun y hy => ⟨_, pick_ok h, pickM_ok y h hm⟩) (by omega)) fun ys hys => ?_
    rw [gApp_ok (by omega)]
    refine ⟨_, rfl, _, rfl, by simp; omega, ?_⟩
    intro l hl'
    rcases List.mem_append.mp hl' with hl' | hl'
    · exact hs2 l hl'
    · simp at hl'
      subst hl'
      exact ⟨by rw [hys.1, hcut]; omega, hys.2⟩
  · simp only [M.pure_bind, M.bind_assoc, M.exc_bind, M.opt_some, bindO_nx, bindO_rt, bindO_bk, bindO_ct, bindO_exc, bindO_bind, runO_nx, runO_rt, runO_exc, runO_bind, hl, decide_false, Bool.false_eq_true, if_false]
    exact ⟨_, rfl, _, rfl, hs1, hs2⟩
end PM
set_option maxHeartbeats 1000000
namespace PM
open PySem PySem.Spec PyProof.Rows L2
/-! spots, where marks stand, what hangs -/
theorem rngI_range (n : Nat) : rngI 0 n = iPs (List.range n) := by simp [rngI, iPs]
theorem lc_range {n : Nat} {t : Int → M Bool} (p : Nat → Bool) (h : ∀ k, k < n → t (k : Int) = M.pure (p k)) (hn : n ≤ 1000000) : lcO t (fun x => M.pure x) (rngI 0 n) [] = M.pure (iPs ((List.range n).filter p)) := by
  rw [rngI_range, lc_filt (fun x : Int => p x.toNat) (fun x => x)]
  · congr 1
    unfold iPs
    rw [List.map_id', List.filter_map]
    congr 1
  · intro x hx
    obtain ⟨k, hk, rfl⟩ := List.mem_map.mp hx
    exact ⟨h k (List.mem_range.mp hk), fun _ => rfl⟩
  · simp [iPs, hn]
def n0 : Str × Nat := (E0, 0)
def Th.spots : Th → List Str
  | .row ms => ms
  | .forest ns => ns.map (·.1)
  | .table ls _ => ls.flatten
theorem flat_len {w : Nat} : ∀ {ls : List (List Str)}, (∀ l ∈ ls, l.length = w) → ls.flatten.length = ls.length * w
  | [], _ => by simp
  | l :: ls, h => by
    rw [List.flatten_cons, List.length_append, flat_len (fun x hx => h x (by simp [hx])), h l (by simp), List.length_cons, Nat.succ_mul, Nat.add_comm]
theorem Th.spots_len {t : Th} (h : t.Ok) : t.spots.length ≤ 144 := by
  cases t with
  | row ms => have := h.2; simp only [Th.spots]; omega
  | forest ns => have := h.2; simp only [Th.spots, List.length_map]; omega
  | table ls w =>
    have h1 := TbOk.len h
    have h2 := TbOk.wd h
    simp only [Th.spots, flat_len (w := w) (fun l hl => (TbOk.li h l hl).1)]
    calc ls.length * w ≤ 12 * 12 := Nat.mul_le_mul h1 h2
      _ = 144 := rfl
theorem Table_spots_T {ls : List (List Str)} {w : Nat} (h : TbOk ls w) : f_p_Table_spots (dTable ls w) = M.pure ls.flatten := by
  have hl := Th.spots_len (t := .table ls w) h
  simp only [Th.spots] at hl
  apply Ret.eq
  unfold f_p_Table_spots
  simp only [M.pure_bind, M.bind_assoc, M.exc_bind, M.opt_some, bindO_nx, bindO_rt, bindO_bk, bindO_ct, bindO_exc, bindO_bind, runO_nx, runO_rt, runO_exc, runO_bind, fld_lines, uLines]
  refine Ret.runO (Ret.bindO (P := fun s => s = ls.flatten) ?_ fun s hs => ⟨_, rfl, _, rfl, hs⟩)
  refine Ret.for1 (fun pre s => s = pre.flatten) rfl ?_ (fun s hs => hs)
  rintro pre x post s e rfl
  have e2 : ls.flatten.length = pre.flatten.length + x.length + post.flatten.length := by rw [e]; simp; omega
  unfold f_b1_p_Table_spots
  rw [gCatL_ok (by omega)]
  exact ⟨_, rfl, _, rfl, by simp⟩
def Th.count (t : Th) (m : Str) : Nat := (t.spots.filter fun x => decide (x = m)).length
def Th.stand (t : Th) (m : Str) : List Nat := match t with
  | .row ms => (List.range ms.length).filter fun k => decide (ms.getD k E0 = m)
  | .forest ns => (List.range ns.length).filter fun k => decide ((ns.getD k n0).1 = m)
  | .table ls _ => (List.range ls.length).filter fun k => decide (m ∈ ls.getD k [])
theorem gIx_nat {α : Type} {xs : List α} {k : Nat} (d : α) (h : k < xs.length) : gIx xs (k : Int) = some (xs.getD k d) := by
  rw [gIx_getD d (by omega), Int.toNat_natCast]
theorem iNd_getD {ns : List (Str × Nat)} {k : Nat} (h : k < ns.length) : gIx (ns.map iNd) (k : Int) = some (iNd (ns.getD k n0)) :=
  gIx_some rfl (by rw [List.getElem?_map, List.getElem?_eq_getElem h, List.getD_eq_getElem?_getD, List.getElem?_eq_getElem h]; rfl)
/-! what hangs on a node -/
def hangN (ns : List (Str × Nat)) (p : Nat) : Nat := ((ns.drop (p + 1)).takeWhile fun x => decide ((ns.getD p n0).2 < x.2)).length
def from_ (p c : Nat) : List Nat := (List.range (c + 1)).map (p + ·)
def Th.hang (t : Th) (p : Nat) : List Nat := match t with
  | .forest ns => from_ p (hangN ns p)
  | _ => [p]
theorem takeWhile_len {α : Type} {q : α → Bool} : ∀ {l : List α} {j : Nat}, j ≤ l.length → (∀ i x, i < j → l[i]? = some x → q x = true) → (∀ x, l[j]? = some x → q x = false) → (l.takeWhile q).length = j
  | [], j, h, _, _ => by simp at h; subst h; rfl
  | x :: l, 0, _, _, h3 => by rw [List.takeWhile_cons, h3 x rfl]; rfl
  | x :: l, j + 1, h1, h2, h3 => by
    rw [List.takeWhile_cons, h2 0 x (by omega) rfl, if_pos rfl, List.length_cons]
    congr 1
    exact takeWhile_len (by simpa using h1) (fun i y hi hy => h2 (i + 1) y (by omega) (by simpa using hy)) (fun y hy => h3 y (by simpa using hy))
theorem from_succ (p c : Nat) : iPs (from_ p (c + 1)) = iPs (from_ p c) ++ [((p + c + 1 : Nat) : Int)] := by
  unfold from_ iPs
  rw [List.range_succ, List.map_append, List.map_append]
  simp; omega
theorem hangN_of {ns : List (Str × Nat)} {p j : Nat} (hp : p + 1 + j ≤ ns.length) (h2 : ∀ i, i < j → (ns.getD p n0).2 < (ns.getD (p + 1 + i) n0).2) (h3 : p + 1 + j < ns.length → ¬ (ns.getD p n0).2 < (ns.getD (p + 1 + j) n0).2) : hangN ns p = j := by
  have g : ∀ i x, (ns.drop (p + 1))[i]? = some x → ns.getD (p + 1 + i) n0 = x ∧ p + 1 + i < ns.length := by
    intro i x hx
    rw [List.getElem?_drop] at hx
    exact ⟨by rw [List.getD_eq_getElem?_getD, hx]; rfl, (List.getElem?_eq_some_iff.mp hx).1⟩
  refine takeWhile_len (by simp; omega) (fun i x hi hx => ?_) (fun x hx => ?_)
  · have := h2 i hi
    rw [(g i x hx).1] at this
    simpa using this
  · have := h3 (g j x hx).2
    rw [(g j x hx).1] at this
    simpa using this
end PM
set_option maxHeartbeats 1000000
namespace PM
open PySem PySem.Spec PyProof.Rows L2
/-! forms, read by the law -/
theorem eqSS (a b : Str) : D.eq? (.str a) (.str b) = some (decide (a = b)) := eq?_dec eqS (by decide) a b
theorem neSS (a b : Str) : gNeD (.str a) (.str b) = some (!decide (a = b)) := by unfold gNeD; rw [eqSS]; rfl
theorem w_rr : D.eq? (.str ("row" : Str)) (.str ("row" : Str)) = some true := by rw [eqSS]; exact congrArg some (by decide +kernel)
theorem w_fr : D.eq? (.str ("forest" : Str)) (.str ("row" : Str)) = some false := by rw [eqSS]; exact congrArg some (by decide +kernel)
theorem w_tr : D.eq? (.str ("table" : Str)) (.str ("row" : Str)) = some false := by rw [eqSS]; exact congrArg some (by decide +kernel)
theorem w_rf : D.eq? (.str ("row" : Str)) (.str ("forest" : Str)) = some false := by rw [eqSS]; exact congrArg some (by decide +kernel)
theorem w_ff : D.eq? (.str ("forest" : Str)) (.str ("forest" : Str)) = some true := by rw [eqSS]; exact congrArg some (by decide +kernel)
theorem w_tf : D.eq? (.str ("table" : Str)) (.str ("forest" : Str)) = some false := by rw [eqSS]; exact congrArg some (by decide +kernel)
theorem w_rt : D.eq? (.str ("row" : Str)) (.str ("table" : Str)) = some false := by rw [eqSS]; exact congrArg some (by decide +kernel)
theorem w_ft : D.eq? (.str ("forest" : Str)) (.str ("table" : Str)) = some false := by rw [eqSS]; exact congrArg some (by decide +kernel)
theorem w_tt : D.eq? (.str ("table" : Str)) (.str ("table" : Str)) = some true := by rw [eqSS]; exact congrArg some (by decide +kernel)
theorem n_rt : gNeD (.str ("row" : Str)) (.str ("table" : Str)) = some true := by unfold gNeD; rw [w_rt]; rfl
theorem n_ft : gNeD (.str ("forest" : Str)) (.str ("table" : Str)) = some true := by unfold gNeD; rw [w_ft]; rfl
theorem n_tt : gNeD (.str ("table" : Str)) (.str ("table" : Str)) = some false := by unfold gNeD; rw [w_tt]; rfl
theorem n_rf : gNeD (.str ("row" : Str)) (.str ("forest" : Str)) = some true := by unfold gNeD; rw [w_rf]; rfl
theorem n_ff : gNeD (.str ("forest" : Str)) (.str ("forest" : Str)) = some false := by unfold gNeD; rw [w_ff]; rfl
theorem n_tf : gNeD (.str ("table" : Str)) (.str ("forest" : Str)) = some true := by unfold gNeD; rw [w_tf]; rfl
theorem fR0 (ms : List Str) : oIx (dvRowForm ms) (.int 0) = some (.str ("row" : Str)) := id rfl
theorem fR1' (ms : List Str) : oIx (dvRowForm ms) (.int 1) = some (.tup (ms.map .str)) := id rfl
theorem fF0 (ns : List (Str × Nat)) : oIx (dvForestForm ns) (.int 0) = some (.str ("forest" : Str)) := id rfl
theorem fF1 (ns : List (Str × Nat)) : oIx (dvForestForm ns) (.int 1) = some (.tup (ns.map dNode)) := id rfl
theorem fT0 (ls : List (List Str)) (w : Nat) : oIx (dvTableForm ls w) (.int 0) = some (.str ("table" : Str)) := id rfl
theorem fT1 (ls : List (List Str)) (w : Nat) : oIx (dvTableForm ls w) (.int 1) = some (.int (w : Int)) := id rfl
theorem fT2 (ls : List (List Str)) (w : Nat) : oIx (dvTableForm ls w) (.int 2) = some (.tup (ls.map fun l => .tup (l.map .str))) := id rfl
theorem lenT {α : Type} (f : α → D) (xs : List α) : gI (fLen [.tup (xs.map f)]) = some (xs.length : Int) := by simp [fLen, gI]
theorem ixTS {ms : List Str} {k : Nat} (h : k < ms.length) : oIx (.tup (ms.map .str)) (.int (k : Int)) = some (.str (ms.getD k E0)) := oo_ixTL (e := D.str) (gIx_nat E0 h)
theorem ixTN {ns : List (Str × Nat)} {k : Nat} (h : k < ns.length) : oIx (.tup (ns.map dNode)) (.int (k : Int)) = some (dNode (ns.getD k n0)) := oo_ixTL (e := dNode) (gIx_nat n0 h)
theorem ixTL {ls : List (List Str)} {k : Nat} (h : k < ls.length) : oIx (.tup (ls.map fun l => .tup (l.map .str))) (.int (k : Int)) = some (.tup ((ls.getD k []).map .str)) := oo_ixTL (e := fun l : List Str => D.tup (l.map .str)) (gIx_nat [] h)
theorem ixN0 (n : Str × Nat) : oIx (dNode n) (.int 0) = some (.str n.1) := id rfl
theorem ixN1 (n : Str × Nat) : oIx (dNode n) (.int 1) = some (.int (n.2 : Int)) := id rfl
theorem filt_range {α : Type} (d : α) (q : α → Bool) (l : List α) : ((List.range l.length).filter fun k => q (l.getD k d)).length = (l.filter q).length := by
  have h : l.filter q = ((List.range l.length).map fun k => l.getD k d).filter q := by rw [getD_range l d]
  rw [h, List.filter_map, List.length_map]
  rfl
theorem from_last (p c : Nat) : gIx (iPs (from_ p c)) (-1) = some ((p + c : Nat) : Int) := by
  have e : iPs (from_ p c) = iPs (from_ p c) := rfl
  unfold gIx L2.atI L2.ixN
  have hl : (iPs (from_ p c)).length = c + 1 := by simp [iPs, from_]
  rw [hl, if_neg (by omega), if_pos (by omega), Option.bind_some, show ((-1 : Int) + ((c + 1 : Nat) : Int)).toNat = c by omega]
  simp [iPs, from_]
end PM
set_option maxHeartbeats 1000000
namespace PM
open PySem PySem.Spec PyProof.Rows L2
/-! refusals -/
def okL (d : D) : Prop := (∀ ds, d = .lst ds → ∀ x ∈ ds, okD x) ∧ (∀ ds, d = .scr ds → False) ∧ d.isT "list" ≠ none
def asMks (most : Int) : D → Bool
  | .lst ds => decide ((ds.length : Int) ≤ most) && ds.all isMk
  | _ => false
theorem are_marks_g {d : D} {most : Int} (h : okL d) : f_p_are_marks d most = M.pure (asMks most d) := by
  cases d
  case lst ds => exact are_marks_ok (h.1 ds rfl)
  case scr ds => exact (h.2.1 ds rfl).elim
  case obj => exact absurd rfl h.2.2
  case rf => exact absurd rfl h.2.2
  case exn => exact absurd rfl h.2.2
  case dit => exact absurd rfl h.2.2
  case nst => exact absurd rfl h.2.2
  all_goals rfl
theorem okL_of {d : D} (h1 : ∀ ds, d = .lst ds → ∀ x ∈ ds, okD x) (h2 : ∀ ds, d ≠ .scr ds) (h3 : d.isT "list" ≠ none) : okL d := ⟨h1, fun ds e => h2 ds e, h3⟩
theorem okL_lst {ds : List D} (h : ∀ x ∈ ds, okD x) : okL (.lst ds) := ⟨fun _ e => (D.lst.inj e) ▸ h, (fun _ e => nomatch e), by simp [D.isT]⟩
theorem classes1 : f_l_classes (.exn 1) = M.pure [("NoThing" : Str)] := by
  unfold f_l_classes
  simp only [isXM, isx_NoThing_NoThing, isx_NoPlace_NoThing, isx_NoFault_NoThing, isx_NoRule_NoThing, isx_Spent_NoThing, isx_Healthy_NoThing, isx_NoText_NoThing, isx_NoRow_NoThing, isx_ValueError_NoThing]
  rfl
theorem ret_ix {α : Type} {xs : List α} {j : Int} {P : α → Prop} (h : 0 ≤ j ∧ j < xs.length) (hp : ∀ x ∈ xs, P x) : Ret (M.opt (gIx xs j)) P := by
  have h2 : j.toNat < xs.length := by omega
  rw [gIx_ok (n := j.toNat) (by omega) h2]
  exact ⟨_, rfl, hp _ (List.getElem_mem _)⟩
theorem all_ins {α : Type} {p : α → Bool} {xs : List α} {n : Nat} {x : α} (h : p x = false) : (xs.take n ++ [x] ++ xs.drop n).all p = false := by
  simp [h]
theorem mem_ins {α : Type} {xs : List α} {n : Nat} {x y : α} (h : y ∈ xs.take n ++ [x] ++ xs.drop n) : y = x ∨ y ∈ xs := by
  simp only [List.mem_append, List.mem_singleton] at h
  rcases h with (h | h) | h
  · exact .inr (List.mem_of_mem_take h)
  · exact .inl h
  · exact .inr (List.mem_of_mem_drop h)
theorem okD_flat {d : D} (h1 : ∀ x, d ≠ .str x) (h2 : d.isT "str" ≠ none) : okD d := ⟨fun x e => absurd e (h1 x), h2⟩
theorem isMkS_space {x : Str} : isMkS (x ++ (" " : Str)) = false := by
  unfold isMkS
  rw [Sl_add, List.all_append]
  have : (Sl (" " : Str)).all (fun c => decide (c ∈ lett)) = false := by decide +kernel
  rw [this]
  simp

end PM
set_option maxHeartbeats 1000000
namespace PM
open PySem PySem.Spec PyProof.Rows L2
/-! k04 -/
theorem init_flat (k : Nat) (xs : List D) : f_p_Table_init k (.nst xs) = f_p_Table_init k (.lst xs) := by
  unfold f_p_Table_init
  simp only [dFlat]
theorem refused_1 {d : D} (h : f_p_Table_init 12 d = M.exc 1) : f_l_refused d = M.pure true := by
  unfold f_l_refused
  simp only [M.pure_bind, M.bind_assoc, M.exc_bind, M.opt_some, bindO_nx, bindO_rt, bindO_bk, bindO_ct, bindO_exc, bindO_bind, runO_nx, runO_rt, runO_exc, runO_bind, h, tryO_exc hit_ShrinkError 1 _ hit_ShrinkError_NoThing, classes1]
  rfl
theorem init_F {d : D} (hd : dFlat d = d) (h : f_p_are_lines d = M.pure false) : f_p_Table_init 12 d = M.exc 1 := by
  unfold f_p_Table_init
  rw [hd, h]
  rfl
/-- no list of lines -/
def NoLs (d : D) : Prop := dFlat d = d ∧ f_p_are_lines d = M.pure false
theorem noLs_of {d : D} (hd : dFlat d = d) (h : d.isT "list" = some false) : NoLs d := ⟨hd, by
  unfold f_p_are_lines
  simp only [M.pure_bind, M.bind_assoc, M.exc_bind, M.opt_some, bindO_nx, bindO_rt, bindO_bk, bindO_ct, bindO_exc, bindO_bind, runO_nx, runO_rt, runO_exc, runO_bind, h, Bool.not_false, if_true]⟩
theorem noLs_many {ds : List D} (h : 12 < ds.length) : NoLs (.lst ds) := ⟨rfl, by
  have e5 : gI (fLen [.lst ds]) = some (ds.length : Int) := by simp [fLen, gI]
  have c0 : decide ((ds.length : Int) > k_MOST_LINES) = true := decide_eq_true (by show (ds.length : Int) > 12; omega)
  unfold f_p_are_lines
  simp only [M.pure_bind, M.bind_assoc, M.exc_bind, M.opt_some, bindO_nx, bindO_rt, bindO_bk, bindO_ct, bindO_exc, bindO_bind, runO_nx, runO_rt, runO_exc, runO_bind, D.isT, beq_self_eq_true, Bool.not_true, Bool.false_eq_true, if_false, e5, c0, if_true]⟩
theorem forO_first {α β : Type} {f : α → Unit → M (O Unit Unit β)} {b : β} : ∀ {pre : List α} {x : α} {post : List α}, (∀ y ∈ pre, f y () = M.pure (.nx ())) → f x () = M.pure (.rt b) → forO (τ' := Unit) f (pre ++ x :: post) () = M.pure (.rt b)
  | [], x, post, _, h => by
    show forO f (x :: post) () = _
    unfold forO
    rw [h]
    rfl
  | y :: pre, x, post, hp, h => by
    have ih := forO_first (post := post) (fun z hz => hp z (List.mem_cons_of_mem _ hz)) h
    rw [List.cons_append]
    unfold forO
    rw [hp y (by simp), M.pure_bind]
    exact ih
theorem oIx0 (d : D) (r : List D) : oIx (.lst (d :: r)) (.int 0) = some d := by simp [oIx, L2.atI, L2.ixN]
/-- good lines, and behind them one that is none -/
theorem noLs_line {pre : List (List Str)} {x : D} {post : List D} {w : Nat} (hp : ∀ l ∈ pre, l.length = w ∧ MksOk l) (hw : w ≤ 12) (hx : okL x) (hb : asMks 12 x = false ∨ (pre ≠ [] ∧ asMks 12 x = true ∧ ∃ n : Nat, gI (fLen [x]) = some (n : Int) ∧ n ≠ w)) : NoLs (.lst (pre.map dLine ++ x :: post)) := by
  by_cases hmany : 12 < (pre.map dLine ++ x :: post).length
  · exact noLs_many hmany
  · refine ⟨rfl, ?_⟩
    generalize hds : pre.map dLine ++ x :: post = ds at hmany
    have e5 : gI (fLen [.lst ds]) = some (ds.length : Int) := by simp [fLen, gI]
    have c0 : decide ((ds.length : Int) > k_MOST_LINES) = false := decide_eq_false (by show ¬ ((ds.length : Int) > 12); omega)
    have ht : uL some (.lst ds) = some ds := by
      have := (unL unAny).told ds
      simpa [eL, iN] using this
    have first : ∀ l r, pre = l :: r → oIx (.lst ds) (.int 0) = some (dLine l) := by
      rintro l r rfl
      rw [← hds]
      exact oIx0 _ _
    have good : ∀ y ∈ pre.map dLine, f_b1_p_are_lines (.lst ds) y = M.pure (.nx ()) := by
      intro y hy
      obtain ⟨l, hl, rfl⟩ := List.mem_map.mp hy
      obtain ⟨h1, h2⟩ := hp l hl
      cases hpre : pre with
      | nil => rw [hpre] at hl; cases hl
      | cons l0 r =>
        have h0 := (hp l0 (by rw [hpre]; simp)).1
        have e1 : gI (fLen [dLine l]) = some (w : Int) := by simp [fLen, gI, h1]
        have e2 : gI (fLen [dLine l0]) = some (w : Int) := by simp [fLen, gI, h0]
        unfold f_b1_p_are_lines
        simp only [M.pure_bind, M.bind_assoc, M.exc_bind, M.opt_some, bindO_nx, bindO_rt, bindO_bk, bindO_ct, bindO_exc, bindO_bind, runO_nx, runO_rt, runO_exc, runO_bind, are_marks_T h2 (show (l.length : Int) ≤ k_MOST_LINES by show (l.length : Int) ≤ 12; omega), Bool.not_true, Bool.false_eq_true, if_false, e1, first l0 r hpre, e2, decide_true]
    have bad : f_b1_p_are_lines (.lst ds) x = M.pure (.rt false) := by
      unfold f_b1_p_are_lines
      rw [are_marks_g hx]
      rcases hb with hb | ⟨hne, hb, n, hn, hnw⟩
      · rw [show asMks k_MOST_LINES x = false from hb]
        simp only [M.pure_bind, M.bind_assoc, M.exc_bind, M.opt_some, bindO_nx, bindO_rt, bindO_bk, bindO_ct, bindO_exc, bindO_bind, runO_nx, runO_rt, runO_exc, runO_bind, Bool.not_false, if_true]
      · cases hpre : pre with
        | nil => exact absurd hpre hne
        | cons l0 r =>
          have h0 := (hp l0 (by rw [hpre]; simp)).1
          have e2 : gI (fLen [dLine l0]) = some (w : Int) := by simp [fLen, gI, h0]
          have e3 : decide ((n : Int) = (w : Int)) = false := decide_eq_false (by omega)
          rw [show asMks k_MOST_LINES x = true from hb]
          simp only [M.pure_bind, M.bind_assoc, M.exc_bind, M.opt_some, bindO_nx, bindO_rt, bindO_bk, bindO_ct, bindO_exc, bindO_bind, runO_nx, runO_rt, runO_exc, runO_bind, Bool.not_true, Bool.false_eq_true, if_false, hn, first l0 r hpre, e2, e3, Bool.not_false, if_true]
    have loop := forO_first (f := fun c (_ : Unit) => f_b1_p_are_lines (.lst ds) c) (post := post) good bad
    rw [hds] at loop
    unfold f_p_are_lines
    simp only [M.pure_bind, M.bind_assoc, M.exc_bind, M.opt_some, bindO_nx, bindO_rt, bindO_bk, bindO_ct, bindO_exc, bindO_bind, runO_nx, runO_rt, runO_exc, runO_bind, D.isT, beq_self_eq_true, Bool.not_true, Bool.false_eq_true, if_false, e5, c0, ht, loop]
theorem mk_line {m : Str} (hm : isMkS m = true) (n : Nat) : okL (.lst (List.replicate n (D.str m))) := okL_lst fun x hx => by
  rw [List.eq_of_mem_replicate hx]
  exact okD_str (by have := isMk_len hm; omega)
theorem mk_all {m : Str} (hm : isMkS m = true) (n : Nat) : (List.replicate n (D.str m)).all isMk = true := by
  rw [List.all_eq_true]
  intro x hx
  rw [List.eq_of_mem_replicate hx]
  exact hm
theorem rng_rep {β : Type} {lo : Int} {n : Nat} (x : β) (h : n ≤ 1000000) : lcO (fun _ => M.pure true) (fun (_ : Int) => M.pure x) (rngI lo n) [] = M.pure (List.replicate n x) := by
  rw [lc_map' (fun _ => x) (fun _ _ => rfl) (by rw [rngI_len]; exact h)]
  congr 1
  rw [List.map_const', rngI_len]
theorem wrong_ok {ls : List (List Str)} {w : Nat} {c : Int} {m : Str} (h : LsOk w ls) (hw : w ≤ 12) (hm : isMkS m = true) : Ret (f_l_wrong ls (w : Int) c m) NoLs := by
  have hml := isMk_len hm
  have hll := h.1
  unfold f_l_wrong
  by_cases h0 : c % 4 = 0
  · simp only [M.pure_bind, M.bind_assoc, M.exc_bind, M.opt_some, bindO_nx, bindO_rt, bindO_bk, bindO_ct, bindO_exc, bindO_bind, runO_nx, runO_rt, runO_exc, runO_bind, h0, decide_true, if_true]
    refine Ret.bind (ret_ix (P := NoLs) (by simp only [List.length_cons, List.length_nil]; omega) ?_) fun d hd => ⟨_, rfl, hd⟩
    intro d hd
    have one : ∀ x : D, okL x → asMks 12 x = false → NoLs (.lst [x]) := fun x h1 h2 => noLs_line (pre := []) (w := 0) (post := []) (by simp) (by omega) h1 (.inl h2)
    simp only [List.mem_cons, List.not_mem_nil, or_false] at hd
    rcases hd with rfl | rfl | rfl | rfl | rfl | rfl | rfl | rfl | rfl | rfl
    iterate 6 exact noLs_of rfl rfl
    · exact one (.str m) (okL_of (fun _ e => nomatch e) (fun _ e => nomatch e) (by simp [D.isT])) rfl
    · exact one .non (okL_of (fun _ e => nomatch e) (fun _ e => nomatch e) (by simp [D.isT])) rfl
    · exact one (.tup [.str m]) (okL_of (fun _ e => nomatch e) (fun _ e => nomatch e) (by simp [D.isT])) rfl
    · have := noLs_line (pre := [[m]]) (x := .non) (post := []) (w := 1) (fun l hl => by simp at hl; subst hl; exact ⟨rfl, fun y hy => by simp at hy; subst hy; exact hm⟩) (by omega) (okL_of (fun _ e => nomatch e) (fun _ e => nomatch e) (by simp [D.isT])) (.inl rfl)
      exact this
  · have d0 := decide_eq_false h0
    have hdl : ∀ l ∈ ls, l.length = w ∧ MksOk l := h.2
    simp only [M.pure_bind, M.bind_assoc, M.exc_bind, M.opt_some, bindO_nx, bindO_rt, bindO_bk, bindO_ct, bindO_exc, bindO_bind, runO_nx, runO_rt, runO_exc, runO_bind, d0, Bool.false_eq_true, if_false]
    rw [lc_map' (fun l : List Str => l.map D.str) (fun _ _ => rfl) (by omega)]
    have hat : 0 ≤ c / 40 % ((ls.length : Int) + 1) ∧ c / 40 % ((ls.length : Int) + 1) < (ls.length : Int) + 1 := ⟨Int.emod_nonneg _ (by omega), Int.emod_lt_of_pos _ (by omega)⟩
    simp only [M.pure_bind, M.bind_assoc, M.exc_bind, M.opt_some, bindO_nx, bindO_rt, bindO_bk, bindO_ct, bindO_exc, bindO_bind, runO_nx, runO_rt, runO_exc, runO_bind, gMod_ok (i := c / 40) (show (0 : Int) < (ls.length : Int) + 1 by omega)]
    obtain ⟨at_, hat2⟩ : ∃ k : Nat, c / 40 % ((ls.length : Int) + 1) = (k : Int) := ⟨(c / 40 % ((ls.length : Int) + 1)).toNat, by omega⟩
    rw [hat2] at hat ⊢
    have heL : ∀ xs : List (List D), eL (eL iN) xs = .lst (xs.map D.lst) := fun xs => by simp [eL, iN]
    by_cases h1 : c % 4 = 1
    · have d1 := decide_eq_true h1
      simp only [M.pure_bind, M.bind_assoc, M.exc_bind, M.opt_some, bindO_nx, bindO_rt, bindO_bk, bindO_ct, bindO_exc, bindO_bind, runO_nx, runO_rt, runO_exc, runO_bind, d1, if_true]
      refine Ret.bind (ret_ix (P := fun d => okD d ∧ isMk d = false) (by simp only [List.length_cons, List.length_nil]; omega) ?_) ?_
      · intro d hd
        simp only [List.mem_cons, List.not_mem_nil, or_false] at hd
        rcases hd with rfl | rfl | rfl | rfl | rfl | rfl | rfl | rfl | rfl | rfl
        · exact ⟨okD_str (by simp [lit_len]), by decide +kernel⟩
        · exact ⟨okD_str (by simp [lit_len]), by decide +kernel⟩
        · exact ⟨okD_str (by simp [lit_len]), by decide +kernel⟩
        · exact ⟨okD_flat (fun _ e => nomatch e) (by simp [D.isT]), rfl⟩
        · exact ⟨okD_flat (fun _ e => nomatch e) (by simp [D.isT]), rfl⟩
        · exact ⟨okD_flat (fun _ e => nomatch e) (by simp [D.isT]), rfl⟩
        · exact ⟨okD_flat (fun _ e => nomatch e) (by simp [D.isT]), rfl⟩
        · exact ⟨okD_str (by simp [lit_len]), by decide +kernel⟩
        · exact ⟨okD_str (by simp [lit_len]), by decide +kernel⟩
        · exact ⟨okD_str (by simp [lit_len]), by decide +kernel⟩
      · rintro bad ⟨hb1, hb2⟩
        have emax : max2 (1 : Int) (w : Int) = ((max 1 w : Nat) : Int) := by unfold max2; split <;> omega
        simp only [M.pure_bind, M.bind_assoc, M.exc_bind, M.opt_some, bindO_nx, bindO_rt, bindO_bk, bindO_ct, bindO_exc, bindO_bind, runO_nx, runO_rt, runO_exc, runO_bind, emax, gR1_ok (show -1000000000 ≤ ((max 1 w : Nat) : Int) ∧ ((max 1 w : Nat) : Int) ≤ 1000000000 by omega), Int.toNat_natCast]
        rw [rng_rep (D.str m) (by omega)]
        simp only [M.pure_bind, M.bind_assoc, M.exc_bind, M.opt_some, bindO_nx, bindO_rt, bindO_bk, bindO_ct, bindO_exc, bindO_bind, runO_nx, runO_rt, runO_exc, runO_bind, List.length_replicate, gMod_ok (i := c / 600) (show (0 : Int) < ((max 1 w : Nat) : Int) by omega)]
        have hk : 0 ≤ c / 600 % ((max 1 w : Nat) : Int) ∧ c / 600 % ((max 1 w : Nat) : Int) < ((max 1 w : Nat) : Int) := ⟨Int.emod_nonneg _ (by omega), Int.emod_lt_of_pos _ (by omega)⟩
        obtain ⟨k, hk2⟩ : ∃ k : Nat, c / 600 % ((max 1 w : Nat) : Int) = (k : Int) := ⟨(c / 600 % ((max 1 w : Nat) : Int)).toNat, by omega⟩
        rw [hk2] at hk ⊢
        simp only [M.pure_bind, M.bind_assoc, M.exc_bind, M.opt_some, bindO_nx, bindO_rt, bindO_bk, bindO_ct, bindO_exc, bindO_bind, runO_nx, runO_rt, runO_exc, runO_bind, gSetIx_ok (xs := List.replicate (max 1 w) (D.str m)) (x := bad) (n := k) (i := (k : Int)) rfl (by rw [List.length_replicate]; omega)]
        have hline : okL (.lst ((List.replicate (max 1 w) (D.str m)).set k bad)) := okL_lst fun x hx => by
          rcases List.mem_or_eq_of_mem_set hx with hx | rfl
          · rw [List.eq_of_mem_replicate hx]
            exact okD_str (by omega)
          · exact hb1
        have hbad : asMks 12 (.lst ((List.replicate (max 1 w) (D.str m)).set k bad)) = false := by
          have : ((List.replicate (max 1 w) (D.str m)).set k bad).all isMk = false := by
            rw [List.all_eq_false]
            exact ⟨bad, List.mem_set (by rw [List.length_replicate]; omega) bad, by rw [hb2]; simp⟩
          simp only [asMks, this, Bool.and_false]
        generalize (List.replicate (max 1 w) (D.str m)).set k bad = line at hline hbad
        by_cases hw0 : w = 0
        · have e0 : decide ((w : Int) = 0) = true := decide_eq_true (by omega)
          simp only [M.pure_bind, M.bind_assoc, M.exc_bind, M.opt_some, bindO_nx, bindO_rt, bindO_bk, bindO_ct, bindO_exc, bindO_bind, runO_nx, runO_rt, runO_exc, runO_bind, e0, if_true]
          refine ⟨_, rfl, ?_⟩
          rw [heL]
          exact noLs_line (pre := []) (w := 0) (post := []) (by simp) (by omega) hline (.inl hbad)
        · have e0 : decide ((w : Int) = 0) = false := decide_eq_false (by omega)
          simp only [M.pure_bind, M.bind_assoc, M.exc_bind, M.opt_some, bindO_nx, bindO_rt, bindO_bk, bindO_ct, bindO_exc, bindO_bind, runO_nx, runO_rt, runO_exc, runO_bind, e0, Bool.false_eq_true, if_false, gIns_ok (xs := ls.map fun l => l.map D.str) (x := line) (j := (at_ : Int)) (by rw [List.length_map]; omega) hat.1 (by omega), Int.toNat_natCast]
          refine ⟨_, rfl, ?_⟩
          rw [heL]
          have ecut : cutD (List.take at_ (ls.map fun l => l.map D.str) ++ [line] ++ List.drop at_ (ls.map fun l => l.map D.str)) none (some (12 + (at_ : Int))) = (List.take at_ (ls.map fun l => l.map D.str)) ++ line :: ((List.drop at_ (ls.map fun l => l.map D.str)).take 11) := by
            have e1 : (12 + (at_ : Int)) = ((12 + at_ : Nat) : Int) := by omega
            unfold cutD
            rw [e1, HT.sIx_nat]
            simp only [HT.sIx, Nat.sub_zero, List.drop_zero]
            have e2 : min (12 + at_) (List.take at_ (ls.map fun l => l.map D.str) ++ [line] ++ List.drop at_ (ls.map fun l => l.map D.str)).length ≤ 12 + at_ := Nat.min_le_left _ _
            have e3 : (List.take at_ (ls.map fun l => l.map D.str)).length = at_ := by rw [List.length_take, List.length_map]; omega
            rw [List.take_eq_take_min, Nat.min_eq_left (Nat.min_le_right _ _), ← List.take_eq_take_min, List.append_assoc, List.singleton_append, List.take_append, e3, List.take_of_length_le (by omega), show 12 + at_ - at_ = 11 + 1 by omega, List.take_succ_cons]
          rw [ecut, List.map_append, List.map_cons]
          have e4 : (List.take at_ (ls.map fun l => l.map D.str)).map D.lst = (ls.take at_).map dLine := by
            rw [← List.map_take, List.map_map]; rfl
          rw [e4]
          exact noLs_line (w := w) (fun l hl => hdl l (List.mem_of_mem_take hl)) hw hline (.inl hbad)
    · have d1 := decide_eq_false h1
      simp only [M.pure_bind, M.bind_assoc, M.exc_bind, M.opt_some, bindO_nx, bindO_rt, bindO_bk, bindO_ct, bindO_exc, bindO_bind, runO_nx, runO_rt, runO_exc, runO_bind, d1, Bool.false_eq_true, if_false]
      by_cases h2 : (decide (c % 4 = 2) && decide ((ls.length : Int) > 0)) = true
      · have h2' : c % 4 = 2 ∧ (ls.length : Int) > 0 := by simpa using h2
        have hpos : 0 < ls.length := by omega
        have hkk : 0 ≤ c / 40 % (ls.length : Int) ∧ c / 40 % (ls.length : Int) < (ls.length : Int) := ⟨Int.emod_nonneg _ (by omega), Int.emod_lt_of_pos _ (by omega)⟩
        simp only [M.pure_bind, M.bind_assoc, M.exc_bind, M.opt_some, bindO_nx, bindO_rt, bindO_bk, bindO_ct, bindO_exc, bindO_bind, runO_nx, runO_rt, runO_exc, runO_bind, h2, if_true, gR1_ok (show -1000000000 ≤ (w : Int) + 1 ∧ (w : Int) + 1 ≤ 1000000000 by omega)]
        rw [rng_rep (D.str m) (by omega)]
        obtain ⟨k, hk2⟩ : ∃ k : Nat, c / 40 % (ls.length : Int) = (k : Int) := ⟨(c / 40 % (ls.length : Int)).toNat, by omega⟩
        simp only [M.pure_bind, M.bind_assoc, M.exc_bind, M.opt_some, bindO_nx, bindO_rt, bindO_bk, bindO_ct, bindO_exc, bindO_bind, runO_nx, runO_rt, runO_exc, runO_bind, gMod_ok (i := c / 40) (show (0 : Int) < (ls.length : Int) by omega), hk2, show ((w : Int) + 1).toNat = w + 1 by omega]
        rw [hk2] at hkk
        have hkl : k < ls.length := by omega
        simp only [M.pure_bind, M.bind_assoc, M.exc_bind, M.opt_some, bindO_nx, bindO_rt, bindO_bk, bindO_ct, bindO_exc, bindO_bind, runO_nx, runO_rt, runO_exc, runO_bind, gSetIx_ok (xs := ls.map fun l => l.map D.str) (x := List.replicate (w + 1) (D.str m)) (n := k) (i := (k : Int)) rfl (by rw [List.length_map]; omega)]
        by_cases h3 : (decide ((ls.length : Int) = 1) || decide ((w : Int) = 12)) = true
        · simp only [M.pure_bind, M.bind_assoc, M.exc_bind, M.opt_some, bindO_nx, bindO_rt, bindO_bk, bindO_ct, bindO_exc, bindO_bind, runO_nx, runO_rt, runO_exc, runO_bind, h3, if_true, gR1_ok (show -1000000000 ≤ (13 : Int) ∧ (13 : Int) ≤ 1000000000 by omega)]
          rw [rng_rep m (by omega)]
          simp only [M.pure_bind, M.bind_assoc, M.exc_bind, M.opt_some, bindO_nx, bindO_rt, bindO_bk, bindO_ct, bindO_exc, bindO_bind, runO_nx, runO_rt, runO_exc, runO_bind]
          refine ⟨_, rfl, ?_⟩
          have e5 : eL (eL D.str) [List.replicate (Int.toNat 13) m] = .lst [.lst (List.replicate 13 (D.str m))] := by simp [eL]
          rw [e5]
          exact noLs_line (pre := []) (w := 0) (post := []) (by simp) (by omega) (mk_line hm 13) (.inl (by simp [asMks]))
        · have h3' : (decide ((ls.length : Int) = 1) || decide ((w : Int) = 12)) = false := by simpa using h3
          have h3'' : ¬ ((ls.length : Int) = 1) ∧ ¬ ((w : Int) = 12) := by simpa using h3'
          simp only [M.pure_bind, M.bind_assoc, M.exc_bind, M.opt_some, bindO_nx, bindO_rt, bindO_bk, bindO_ct, bindO_exc, bindO_bind, runO_nx, runO_rt, runO_exc, runO_bind, h3', Bool.false_eq_true, if_false]
          refine ⟨_, rfl, ?_⟩
          rw [heL]
          have hrm : MksOk (List.replicate (w + 1) m) := fun x hx => by rw [List.eq_of_mem_replicate hx]; exact hm
          have eset : ((ls.map fun l => l.map D.str).set k (List.replicate (w + 1) (D.str m))).map D.lst = (ls.set k (List.replicate (w + 1) m)).map dLine := by
            rw [List.map_set, List.map_set, List.map_map]
            congr 1
            show D.lst _ = D.lst _
            rw [List.map_replicate]
          rw [eset]
          cases k with
          | zero =>
            obtain ⟨l0, l1, r, hls⟩ : ∃ l0 l1 r, ls = l0 :: l1 :: r := by
              cases ls with
              | nil => simp at hpos
              | cons l0 r =>
                cases r with
                | nil => simp at h3''
                | cons l1 r => exact ⟨l0, l1, r, rfl⟩
            subst hls
            have hl1 := hdl l1 (by simp)
            have := noLs_line (pre := [List.replicate (w + 1) m]) (x := dLine l1) (post := r.map dLine) (w := w + 1) (fun l hl => by simp at hl; subst hl; exact ⟨by simp, hrm⟩) (by omega) (okL_lst (okD_mks hl1.2)) (.inr ⟨by simp, by
              show (decide (((l1.map D.str).length : Int) ≤ 12) && (l1.map D.str).all isMk) = true
              have a1 : (l1.map D.str).all isMk = true := by
                rw [List.all_eq_true]
                intro x hx
                obtain ⟨y, hy, rfl⟩ := List.mem_map.mp hx
                exact hl1.2 y hy
              rw [a1, List.length_map, hl1.1, Bool.and_true]
              exact decide_eq_true (by omega), w, by simp [fLen, gI, hl1.1], by omega⟩)
            simpa using this
          | succ k =>
            have e6 : ls.set (k + 1) (List.replicate (w + 1) m) = ls.take (k + 1) ++ List.replicate (w + 1) m :: ls.drop (k + 1 + 1) := by
              rw [List.set_eq_take_append_cons_drop, if_pos hkl]
            rw [e6, List.map_append, List.map_cons]
            refine noLs_line (w := w) (fun l hl => hdl l (List.mem_of_mem_take hl)) hw (okL_lst (okD_mks hrm)) (.inr ⟨?_, ?_, w + 1, by simp [fLen, gI], by omega⟩)
            · intro e
              have := congrArg List.length e
              simp only [List.length_take, List.length_nil] at this
              omega
            · show (decide ((((List.replicate (w + 1) m).map D.str).length : Int) ≤ 12) && ((List.replicate (w + 1) m).map D.str).all isMk) = true
              rw [List.map_replicate, mk_all hm, List.length_replicate, Bool.and_true]
              exact decide_eq_true (by omega)
      · have h2' : (decide (c % 4 = 2) && decide ((ls.length : Int) > 0)) = false := by simpa using h2
        have emin : min2 (w : Int) (12 : Int) = (w : Int) := by unfold min2; split <;> omega
        simp only [M.pure_bind, M.bind_assoc, M.exc_bind, M.opt_some, bindO_nx, bindO_rt, bindO_bk, bindO_ct, bindO_exc, bindO_bind, runO_nx, runO_rt, runO_exc, runO_bind, h2', Bool.false_eq_true, if_false, emin, gR1_ok (show -1000000000 ≤ (13 : Int) ∧ (13 : Int) ≤ 1000000000 by omega), gR1_ok (show -1000000000 ≤ (w : Int) ∧ (w : Int) ≤ 1000000000 by omega), Int.toNat_natCast]
        rw [lc_map' (fun _ => List.replicate w m) (fun _ _ => rng_rep m (by omega)) (by rw [rngI_len]; omega)]
        simp only [M.pure_bind, M.bind_assoc, M.exc_bind, M.opt_some, bindO_nx, bindO_rt, bindO_bk, bindO_ct, bindO_exc, bindO_bind, runO_nx, runO_rt, runO_exc, runO_bind]
        refine ⟨_, rfl, noLs_many ?_⟩
        rw [List.length_map, List.length_map, rngI_len]
        decide
theorem lines_by_ok {ns : List Int} {ms : List Str} (hns : ns.length ≤ 63) (h : 0 < ms.length) (hm : MksOk ms) : Ret (f_l_lines_by ns ms) fun ls => ∃ w, w ≤ 12 ∧ LsOk w ls := by
  unfold f_l_lines_by
  rw [cell_at_ok (by omega), cell_at_ok (by omega)]
  simp only [M.pure_bind, M.bind_assoc, M.exc_bind, M.opt_some, bindO_nx, bindO_rt, bindO_bk, bindO_ct, bindO_exc, bindO_bind, runO_nx, runO_rt, runO_exc, runO_bind]
  generalize cell ns 2 = seed
  by_cases h1 : seed % 5 = 1
  · have hw : seed / 5 % 13 = (((seed / 5 % 13).toNat : Nat) : Int) := by omega
    have a1 : 0 ≤ seed / 65 % 13 ∧ seed / 65 % 13 ≤ 12 := by omega
    have a2 : 0 ≤ seed / 5 % 13 ∧ seed / 5 % 13 ≤ 12 := by omega
    have hmul : 0 ≤ (seed / 5 % 13) * (seed / 65 % 13) ∧ (seed / 5 % 13) * (seed / 65 % 13) ≤ 200 := by
      refine ⟨Int.mul_nonneg (by omega) a1.1, ?_⟩
      have := Int.mul_le_mul a2.2 a1.2 a1.1 (by omega)
      omega
    simp only [M.pure_bind, M.bind_assoc, M.exc_bind, M.opt_some, bindO_nx, bindO_rt, bindO_bk, bindO_ct, bindO_exc, bindO_bind, runO_nx, runO_rt, runO_exc, runO_bind, decide_eq_true h1, if_true, gMul_okR (i := seed / 5 % 13) (show -(2 ^ 64) < seed / 65 % 13 ∧ seed / 65 % 13 < 2 ^ 64 by omega), gR1_ok (show -1000000000 ≤ (seed / 5 % 13) * (seed / 65 % 13) ∧ (seed / 5 % 13) * (seed / 65 % 13) ≤ 1000000000 by omega)]
    refine Ret.bind (Ret.lc (P := fun _ => True) (fun x hx => ?_) ?_) fun ys hys => ?_
    · have := rngI_mem hx
      exact ⟨_, mix_ok (by omega), trivial⟩
    · rw [rngI_len]; omega
    · rw [hw]
      refine Ret.bind (lines_ok h hm (by rw [hys.1, rngI_len]; omega) (by omega)) fun ls hls => ⟨_, rfl, _, by omega, hls⟩
  · simp only [M.pure_bind, M.bind_assoc, M.exc_bind, M.opt_some, bindO_nx, bindO_rt, bindO_bk, bindO_ct, bindO_exc, bindO_bind, runO_nx, runO_rt, runO_exc, runO_bind, decide_eq_false h1, Bool.false_eq_true, if_false]
    generalize cell ns 4 = c4
    by_cases h2 : c4 % 5 = 0
    · simp only [M.pure_bind, M.bind_assoc, M.exc_bind, M.opt_some, bindO_nx, bindO_rt, bindO_bk, bindO_ct, bindO_exc, bindO_bind, runO_nx, runO_rt, runO_exc, runO_bind, decide_eq_true h2, if_true, gR1_ok (show -1000000000 ≤ c4 / 5 % 13 ∧ c4 / 5 % 13 ≤ 1000000000 by omega)]
      rw [rng_rep ([] : List Str) (by omega)]
      refine ⟨_, rfl, 0, by omega, by rw [List.length_replicate]; omega, ?_⟩
      intro l hl
      rw [List.eq_of_mem_replicate hl]
      exact ⟨rfl, by intro m hm'; simp at hm'⟩
    · simp only [M.pure_bind, M.bind_assoc, M.exc_bind, M.opt_some, bindO_nx, bindO_rt, bindO_bk, bindO_ct, bindO_exc, bindO_bind, runO_nx, runO_rt, runO_exc, runO_bind, decide_eq_false h2, Bool.false_eq_true, if_false]
      have hw : c4 % 5 = (((c4 % 5).toNat : Nat) : Int) := by omega
      rw [hw]
      refine Ret.bind (lines_ok (w := (c4 % 5).toNat) h hm ?_ (by omega)) fun ls hls => ⟨_, rfl, _, by omega, hls⟩
      unfold cutD
      simp only [List.length_take, List.length_drop]
      omega
theorem m_spots_T {ls : List (List Str)} {w : Nat} (h : TbOk ls w) : methM "spots" mt_spots resN (dTable ls w) (M.pure []) = M.pure (.lst (ls.flatten.map .str)) :=
  meth_N (e := eL D.str) (lkn (by decide +kernel) (lkn (by decide +kernel) lkn0)) rfl (tyN_p_Table_spots (dTable ls w)) (Table_spots_T h)
theorem m_spotsF_T {ls : List (List Str)} {w : Nat} (h : TbOk ls w) : methM "spots" mt_spots resF (dTable ls w) (M.pure []) = M.pure (.lst (ls.flatten.map .str)) :=
  meth_F (e := eL D.str) (lkn (by decide +kernel) (lkn (by decide +kernel) lkn0)) rfl (ty_p_Table_spots (dTable ls w)) (Table_spots_T h)
theorem wide_ok {β τ : Type} {ls : List (List Str)} {w : Nat} (h : TbOk ls w) (h0 : ls = [] → w = 0) : (if (decide ((ls.length : Int) > (0 : Int))) = true then
      (M.bind (M.opt (gIx ls (0 : Int))) fun a => (M.pure (.nx ((List.length a : Nat) : Int)) : M (O Int τ β)))
      else (M.pure (.nx (0 : Int)))) = M.pure (.nx (w : Int)) := by
  cases ls with
  | nil => rw [h0 rfl]; rfl
  | cons l r =>
    have := (h.li l (by simp)).1
    rw [if_pos (decide_eq_true (by simp)), gIx_getD [] (by simp)]
    simp only [M.pure_bind, M.bind_assoc, M.exc_bind, M.opt_some, bindO_nx, bindO_rt, bindO_bk, bindO_ct, bindO_exc, bindO_bind, runO_nx, runO_rt, runO_exc, runO_bind]
    rw [show (List.getD (l :: r) (Int.toNat 0) []) = l from rfl, this]
theorem holds_ok {ls : List (List Str)} {w : Nat} (h : TbOk ls w) (h0 : ls = [] → w = 0) : f_l_holds (dTable ls w) ls = M.pure true := by
  have hl := h.len
  have hs := Th.spots_len (t := .table ls w) h
  simp only [Th.spots] at hs
  have e1 : isOM sub 9 (dTable ls w) = M.pure true := id rfl
  have e2 : ∀ n : Nat, f_l_whole (.int (n : Int)) = M.pure true := fun n => id rfl
  have e3 : D.eq? (dvTableForm ls w) (eP3 D.str D.int (eTL (eTL D.str)) (("table" : Str), (w : Int), ls)) = some true := eq_same (Th.form_pl (.table ls w))
  have e4 : D.isT "tuple" (dvTableForm ls w) = some true := id rfl
  have e5 : gI (fLen [dvTableForm ls w]) = some 3 := id rfl
  have loop : forO (τ' := Unit) (fun x s5 => f_b1_l_holds x s5) ls ([] : List Str) = M.pure (.nx ls.flatten) := by
    refine Ret.eq ((Ret.for1 (P := fun s => s = ls.flatten) (fun pre s => s = pre.flatten) rfl ?_ (fun s hs => hs)).mono ?_)
    · rintro pre x post s e rfl
      have e2 : ls.flatten.length = pre.flatten.length + x.length + post.flatten.length := by rw [e]; simp; omega
      unfold f_b1_l_holds
      rw [gCatL_ok (by omega)]
      exact ⟨_, rfl, _, rfl, by simp⟩
    · rintro _ ⟨s, rfl, rfl⟩
      rfl
  have e7 : decide (((ls.length + w : Nat) : Int) = (ls.length : Int) + (w : Int)) = true := decide_eq_true (by omega)
  unfold f_l_holds
  simp only [M.pure_bind, M.bind_assoc, M.exc_bind, M.opt_some, bindO_nx, bindO_rt, bindO_bk, bindO_ct, bindO_exc, bindO_bind, runO_nx, runO_rt, runO_exc, runO_bind, wide_ok h h0, loop, m_many_T, uI_told, e1, e2, e7, m_spots_T h, uLS_told, Bool.not_true, Bool.or_false, Bool.or_self, decide_true, Bool.false_eq_true, if_false]
  rw [gApp_ok (by omega)]
  simp only [M.pure_bind, M.bind_assoc, M.exc_bind, M.opt_some, bindO_nx, bindO_rt, bindO_bk, bindO_ct, bindO_exc, bindO_bind, runO_nx, runO_rt, runO_exc, runO_bind, m_form_T hl, e4, e5, fT1, e2, Bool.not_true, decide_true, Bool.false_eq_true, if_false]
  rw [lc_map' (fun x => x) (fun _ _ => rfl) (by omega), List.map_id']
  simp only [M.pure_bind, M.bind_assoc, M.exc_bind, M.opt_some, bindO_nx, bindO_rt, bindO_bk, bindO_ct, bindO_exc, bindO_bind, runO_nx, runO_rt, runO_exc, runO_bind, e3, if_true, m_spotsF_T h, uLS_told, decide_true]
theorem appEach_ok {x : Str} : ∀ {gs : List (List Str)}, (∀ g ∈ gs, g.length ≤ 1000) → appEach (M.pure x) gs = M.pure (gs.map (· ++ [x]))
  | [], _ => rfl
  | g :: r, h => by
    have h1 := h g (by simp)
    unfold appEach
    rw [appEach_ok fun y hy => h y (List.mem_cons_of_mem _ hy)]
    simp only [M.pure_bind, M.bind_assoc, M.exc_bind, M.opt_some, bindO_nx, bindO_rt, bindO_bk, bindO_ct, bindO_exc, bindO_bind, runO_nx, runO_rt, runO_exc, runO_bind]
    rw [gApp_ok (by omega)]
    rfl
theorem law_ok : LawOk := by
  intro ns hns
  refine law_by (ty_p_law ns) (Ret.end ?_)
  unfold f_p_law
  rw [cell_at_ok (by omega), cell_at_ok (by omega), cell_at_ok (by omega)]
  simp only [M.pure_bind, M.bind_assoc, M.exc_bind, M.opt_some, bindO_nx, bindO_rt, bindO_bk, bindO_ct, bindO_exc, bindO_bind, runO_nx, runO_rt, runO_exc, runO_bind, how_many_ok]
  generalize cell ns 0 = seed
  refine Ret.bind (marks_ok (by have := howMany_in (seed / 2); omega)) fun ms ⟨hm, hml⟩ => ?_
  have hm0 : 0 < ms.length := by have := howMany_in (seed / 2); omega
  refine Ret.bind (lines_by_ok hns hm0 hm) ?_
  rintro ls ⟨w0, hw0, hls⟩
  obtain ⟨w, hw, htb, hz, hlsw⟩ : ∃ w, w ≤ 12 ∧ TbOk ls w ∧ (ls = [] → w = 0) ∧ LsOk w ls := by
    by_cases he : ls = []
    · subst he
      exact ⟨0, by omega, ⟨by simp, by omega, by simp⟩, fun _ => rfl, ⟨by simp, by simp⟩⟩
    · exact ⟨w0, hw0, ⟨hls.1, hw0, hls.2⟩, fun h => absurd h he, hls⟩
  have hll := hlsw.1
  have hm1 : isMkS (ms.getD (0 : Int).toNat E0) = true := hm _ (getD_mem (by simpa using hm0))
  have g0 := gIx_getD (xs := ms) (i := 0) E0 (by omega)
  simp only [M.pure_bind, M.bind_assoc, M.exc_bind, M.opt_some, bindO_nx, bindO_rt, bindO_bk, bindO_ct, bindO_exc, bindO_bind, runO_nx, runO_rt, runO_exc, runO_bind, wide_ok htb hz]
  refine Ret.runO (Ret.bindO (P := fun _ => True) ?_ ?_)
  · refine Ret.ite (fun _ => ?_) fun _ => ⟨_, rfl, _, rfl, trivial⟩
    simp only [M.pure_bind, M.bind_assoc, M.exc_bind, M.opt_some, bindO_nx, bindO_rt, bindO_bk, bindO_ct, bindO_exc, bindO_bind, runO_nx, runO_rt, runO_exc, runO_bind, g0]
    refine Ret.bind (wrong_ok hlsw hw hm1) ?_
    rintro d ⟨h1, h2⟩
    simp only [M.pure_bind, M.bind_assoc, M.exc_bind, M.opt_some, bindO_nx, bindO_rt, bindO_bk, bindO_ct, bindO_exc, bindO_bind, runO_nx, runO_rt, runO_exc, runO_bind, refused_1 (init_F h1 h2), Bool.not_true, Bool.false_eq_true, if_false]
    exact ⟨_, rfl, _, rfl, trivial⟩
  · intro _ _
    rw [lc_map' (fun x => x) (fun _ _ => rfl) (by omega), List.map_id']
    have e1 : f_p_Table_init 12 (eNL D.str ls) = M.pure (dTable ls w) := by
      rw [show eNL D.str ls = .nst (ls.map dLine) from rfl, init_flat, Table_init_T htb]
      by_cases he : ls = []
      · rw [if_pos he, hz he]
      · rw [if_neg he]
    simp only [M.pure_bind, M.bind_assoc, M.exc_bind, M.opt_some, bindO_nx, bindO_rt, bindO_bk, bindO_ct, bindO_exc, bindO_bind, runO_nx, runO_rt, runO_exc, runO_bind, e1, decide_true, Bool.not_true, Bool.false_eq_true, if_false, holds_ok htb hz, g0]
    rw [appEach_ok fun g hg => by have := (hlsw.2 g hg).1; omega]
    simp only [M.pure_bind, M.bind_assoc, M.exc_bind, M.opt_some, bindO_nx, bindO_rt, bindO_bk, bindO_ct, bindO_exc, bindO_bind, runO_nx, runO_rt, runO_exc, runO_bind]
    rw [gApp_ok (by rw [List.length_map]; omega)]
    exact ⟨_, rfl, _, rfl, rfl⟩

end PM
set_option maxHeartbeats 4000000
namespace PM
open PySem PySem.Spec PyProof.Rows L2
def top (i : Nat) : Stmt := PySem.Challenge.pw_shrinkhouse_k04_tables_made.main.body.getD i (.Pass ⟨0, 0, 0, 0⟩)
/-- what the walk asks of the names -/
structure Fs (P : Program) (w : World) (K : PySem.W.Frag) (mg : Str → Option Value) (cl : ClsP) : Type where
  hP : cl.P = P
  hw : cl.w = w
  n_isinstance : mg "isinstance" = none
  n_str : mg "str" = none
  n_len : mg "len" = none
  n_list : mg "list" = none
  n_tuple : mg "tuple" = none
  n_int : mg "int" = none
  n_bool : mg "bool" = none
  n_range : mg "range" = none
  n_max : mg "max" = none
  n_ValueError : mg "ValueError" = none
  n_min : mg "min" = none
  k_LETTERS : ∃ u, mg "LETTERS" = some u ∧ RelV (.str "abcdefghijklmnopqrstuvwxyz") u
  k_MOST_LETTERS : ∃ u, mg "MOST_LETTERS" = some u ∧ RelV (.int 8) u
  k_MOST_LINES : ∃ u, mg "MOST_LINES" = some u ∧ RelV (.int 12) u
  a_p_is_mark : Addr
  d_p_is_mark : FuncData
  F_p_is_mark : Fun K "is_mark" "is_mark" (top 14) a_p_is_mark d_p_is_mark
  b_p_is_mark : Binds K d_p_is_mark ["thing"] []
  g_p_is_mark : mg "is_mark" = some (.ref a_p_is_mark)
  a_p_are_marks : Addr
  d_p_are_marks : FuncData
  F_p_are_marks : Fun K "are_marks" "are_marks" (top 17) a_p_are_marks d_p_are_marks
  b_p_are_marks : Binds K d_p_are_marks ["some", "most"] []
  g_p_are_marks : mg "are_marks" = some (.ref a_p_are_marks)
  a_p_are_lines : Addr
  d_p_are_lines : FuncData
  F_p_are_lines : Fun K "are_lines" "are_lines" (top 18) a_p_are_lines d_p_are_lines
  b_p_are_lines : Binds K d_p_are_lines ["some"] []
  g_p_are_lines : mg "are_lines" = some (.ref a_p_are_lines)
  a_p_Table_init : Addr
  d_p_Table_init : FuncData
  F_p_Table_init : Fun K "__init__" "Table.__init__" (inClass (top 20) 0) a_p_Table_init d_p_Table_init
  b_p_Table_init : Binds K d_p_Table_init ["self", "lines"] []
  a_p_Table_many : Addr
  d_p_Table_many : FuncData
  F_p_Table_many : Fun K "many" "Table.many" (inClass (top 20) 1) a_p_Table_many d_p_Table_many
  b_p_Table_many : Binds K d_p_Table_many ["self"] []
  a_p_Table_spots : Addr
  d_p_Table_spots : FuncData
  F_p_Table_spots : Fun K "spots" "Table.spots" (inClass (top 20) 2) a_p_Table_spots d_p_Table_spots
  b_p_Table_spots : Binds K d_p_Table_spots ["self"] []
  a_p_Table_form : Addr
  d_p_Table_form : FuncData
  F_p_Table_form : Fun K "form" "Table.form" (inClass (top 20) 4) a_p_Table_form d_p_Table_form
  b_p_Table_form : Binds K d_p_Table_form ["self"] []
  a_l_cell_at : Addr
  d_l_cell_at : FuncData
  F_l_cell_at : Fun K "_law_cell_at" "_law_cell_at" (top 22) a_l_cell_at d_l_cell_at
  b_l_cell_at : Binds K d_l_cell_at ["_law_script", "_law_k"] []
  g_l_cell_at : mg "_law_cell_at" = some (.ref a_l_cell_at)
  a_l_mix : Addr
  d_l_mix : FuncData
  F_l_mix : Fun K "_law_mix" "_law_mix" (top 23) a_l_mix d_l_mix
  b_l_mix : Binds K d_l_mix ["_law_seed", "_law_k"] []
  g_l_mix : mg "_law_mix" = some (.ref a_l_mix)
  a_l_whole : Addr
  d_l_whole : FuncData
  F_l_whole : Fun K "_law_whole" "_law_whole" (top 24) a_l_whole d_l_whole
  b_l_whole : Binds K d_l_whole ["_law_found"] []
  g_l_whole : mg "_law_whole" = some (.ref a_l_whole)
  a_l_how_many : Addr
  d_l_how_many : FuncData
  F_l_how_many : Fun K "_law_how_many" "_law_how_many" (top 25) a_l_how_many d_l_how_many
  b_l_how_many : Binds K d_l_how_many ["_law_number"] []
  g_l_how_many : mg "_law_how_many" = some (.ref a_l_how_many)
  a_l_marks : Addr
  d_l_marks : FuncData
  F_l_marks : Fun K "_law_marks" "_law_marks" (top 26) a_l_marks d_l_marks
  b_l_marks : Binds K d_l_marks ["_law_cell", "_law_many"] []
  g_l_marks : mg "_law_marks" = some (.ref a_l_marks)
  a_l_pick : Addr
  d_l_pick : FuncData
  F_l_pick : Fun K "_law_pick" "_law_pick" (top 27) a_l_pick d_l_pick
  b_l_pick : Binds K d_l_pick ["_law_cell", "_law_marks_here"] []
  g_l_pick : mg "_law_pick" = some (.ref a_l_pick)
  a_l_lines : Addr
  d_l_lines : FuncData
  F_l_lines : Fun K "_law_lines" "_law_lines" (top 28) a_l_lines d_l_lines
  b_l_lines : Binds K d_l_lines ["_law_cells", "_law_marks_here", "_law_wide"] []
  g_l_lines : mg "_law_lines" = some (.ref a_l_lines)
  a_l_classes : Addr
  d_l_classes : FuncData
  F_l_classes : Fun K "_law_classes" "_law_classes" (top 29) a_l_classes d_l_classes
  b_l_classes : Binds K d_l_classes ["_law_e"] []
  g_l_classes : mg "_law_classes" = some (.ref a_l_classes)
  a_l_refused : Addr
  d_l_refused : FuncData
  F_l_refused : Fun K "_law_refused" "_law_refused" (top 30) a_l_refused d_l_refused
  b_l_refused : Binds K d_l_refused ["_law_thing"] []
  g_l_refused : mg "_law_refused" = some (.ref a_l_refused)
  a_l_wrong : Addr
  d_l_wrong : FuncData
  F_l_wrong : Fun K "_law_wrong" "_law_wrong" (top 31) a_l_wrong d_l_wrong
  b_l_wrong : Binds K d_l_wrong ["_law_lines_here", "_law_wide", "_law_cell", "_law_mark"] []
  g_l_wrong : mg "_law_wrong" = some (.ref a_l_wrong)
  a_l_holds : Addr
  d_l_holds : FuncData
  F_l_holds : Fun K "_law_holds" "_law_holds" (top 32) a_l_holds d_l_holds
  b_l_holds : Binds K d_l_holds ["_law_one", "_law_lines_here"] []
  g_l_holds : mg "_law_holds" = some (.ref a_l_holds)
  a_l_lines_by : Addr
  d_l_lines_by : FuncData
  F_l_lines_by : Fun K "_law_lines_by" "_law_lines_by" (top 33) a_l_lines_by d_l_lines_by
  b_l_lines_by : Binds K d_l_lines_by ["_law_script", "_law_marks_here"] []
  g_l_lines_by : mg "_law_lines_by" = some (.ref a_l_lines_by)
  a_p_law : Addr
  d_p_law : FuncData
  F_p_law : Fun K "law" "law" (top 34) a_p_law d_p_law
  b_p_law : Binds K d_p_law ["_law_script"] []
  g_p_law : mg "law" = some (.ref a_p_law)
  gc_ShrinkError : mg "ShrinkError" = some (.ref (cl 0))
  gc_NoThing : mg "NoThing" = some (.ref (cl 1))
  gc_NoPlace : mg "NoPlace" = some (.ref (cl 2))
  gc_NoFault : mg "NoFault" = some (.ref (cl 3))
  gc_NoRule : mg "NoRule" = some (.ref (cl 4))
  gc_Spent : mg "Spent" = some (.ref (cl 5))
  gc_Healthy : mg "Healthy" = some (.ref (cl 6))
  gc_NoText : mg "NoText" = some (.ref (cl 7))
  gc_NoRow : mg "NoRow" = some (.ref (cl 8))
  gc_Thing : mg "Thing" = some (.ref (cl 9))
  gc_Table : mg "Table" = some (.ref (cl 12))
  ex_NoThing : ExCls K (cl 1)
  hb_ShrinkError : PySem.W.subIn K (.ref (cl 0)) (.type "BaseException") = some true
  hd_ShrinkError : PySem.W.hasDictIn K (cl 0) = true
  ht_ShrinkError : PySem.W.typeIn K (.ref (cl 0)) = some (.type "type")
  hs_NoThing_ShrinkError : PySem.W.subIn K (.ref (cl 1)) (.ref (cl 0)) = some true
  xc_NoThing : ExcC K (cl 1)
  xk_NoThing_NoThing : PySem.W.kitOne K (.ref (cl 1)) (.ref (cl 1)) = some true
  xk_NoThing_NoPlace : PySem.W.kitOne K (.ref (cl 1)) (.ref (cl 2)) = some false
  xk_NoThing_NoFault : PySem.W.kitOne K (.ref (cl 1)) (.ref (cl 3)) = some false
  xk_NoThing_NoRule : PySem.W.kitOne K (.ref (cl 1)) (.ref (cl 4)) = some false
  xk_NoThing_Spent : PySem.W.kitOne K (.ref (cl 1)) (.ref (cl 5)) = some false
  xk_NoThing_Healthy : PySem.W.kitOne K (.ref (cl 1)) (.ref (cl 6)) = some false
  xk_NoThing_NoText : PySem.W.kitOne K (.ref (cl 1)) (.ref (cl 7)) = some false
  xk_NoThing_NoRow : PySem.W.kitOne K (.ref (cl 1)) (.ref (cl 8)) = some false
  xk_NoThing_ValueError : PySem.W.kitOne K (.ref (cl 1)) (.type "ValueError") = some true
  cls_Table : Cls K (cl 12)
  mk_Table : Mk K (cl 12) a_p_Table_init
  na_Table_lines : NoAttr K (cl 12) "lines"
  na_Table_wide : NoAttr K (cl 12) "wide"
  me_Table_form : Meth K (cl 12) "form" a_p_Table_form
  me_Table_many : Meth K (cl 12) "many" a_p_Table_many
  me_Table_spots : Meth K (cl 12) "spots" a_p_Table_spots
  ob_Table : ObCls K (cl 12)
  is_Table_Thing : PySem.W.kitOne K (.ref (cl 12)) (.ref (cl 9)) = some true
theorem info {P : Program} {w : World} {K : PySem.W.Frag} {mg : Str → Option Value} {cl : ClsP} (T : Fs P w K mg cl) : CInfo K cl fl := by
  intro c f h
  simp only [fl, Bool.or_eq_true, Bool.and_eq_true, beq_iff_eq] at h
  rcases h with ⟨rfl, rfl⟩ | ⟨rfl, rfl⟩
  · exact ⟨T.cls_Table, T.na_Table_lines⟩
  · exact ⟨T.cls_Table, T.na_Table_wide⟩
theorem sub_ok {P : Program} {w : World} {K : PySem.W.Frag} {mg : Str → Option Value} {cl : ClsP} (T : Fs P w K mg cl) : SubOk K cl sub := by
  intro c t b h
  unfold sub at h
  split at h
  · rename_i e; obtain ⟨rfl, rfl⟩ := e; cases h; exact ⟨T.ob_Table, T.is_Table_Thing⟩
  cases h
theorem hit_ok_ShrinkError {P : Program} {w : World} {K : PySem.W.Frag} {mg : Str → Option Value} {cl : ClsP} (T : Fs P w K mg cl) : HitOk K cl hit_ShrinkError (.ref (cl 0)) := by
  intro n b h
  unfold hit_ShrinkError at h
  split at h
  · rename_i e; subst e; cases h; exact PySem.W.exm_ref T.hb_ShrinkError T.hd_ShrinkError T.ht_ShrinkError T.hs_NoThing_ShrinkError
  cases h
theorem isx_ok_NoThing {P : Program} {w : World} {K : PySem.W.Frag} {mg : Str → Option Value} {cl : ClsP} (T : Fs P w K mg cl) : IsXOk K cl isx_NoThing (.ref (cl 1)) := by
  intro n b h
  unfold isx_NoThing at h
  split at h
  · rename_i e; subst e; cases h; exact ⟨T.xc_NoThing, T.xk_NoThing_NoThing⟩
  cases h
theorem isx_ok_NoPlace {P : Program} {w : World} {K : PySem.W.Frag} {mg : Str → Option Value} {cl : ClsP} (T : Fs P w K mg cl) : IsXOk K cl isx_NoPlace (.ref (cl 2)) := by
  intro n b h
  unfold isx_NoPlace at h
  split at h
  · rename_i e; subst e; cases h; exact ⟨T.xc_NoThing, T.xk_NoThing_NoPlace⟩
  cases h
theorem isx_ok_NoFault {P : Program} {w : World} {K : PySem.W.Frag} {mg : Str → Option Value} {cl : ClsP} (T : Fs P w K mg cl) : IsXOk K cl isx_NoFault (.ref (cl 3)) := by
  intro n b h
  unfold isx_NoFault at h
  split at h
  · rename_i e; subst e; cases h; exact ⟨T.xc_NoThing, T.xk_NoThing_NoFault⟩
  cases h
theorem isx_ok_NoRule {P : Program} {w : World} {K : PySem.W.Frag} {mg : Str → Option Value} {cl : ClsP} (T : Fs P w K mg cl) : IsXOk K cl isx_NoRule (.ref (cl 4)) := by
  intro n b h
  unfold isx_NoRule at h
  split at h
  · rename_i e; subst e; cases h; exact ⟨T.xc_NoThing, T.xk_NoThing_NoRule⟩
  cases h
theorem isx_ok_Spent {P : Program} {w : World} {K : PySem.W.Frag} {mg : Str → Option Value} {cl : ClsP} (T : Fs P w K mg cl) : IsXOk K cl isx_Spent (.ref (cl 5)) := by
  intro n b h
  unfold isx_Spent at h
  split at h
  · rename_i e; subst e; cases h; exact ⟨T.xc_NoThing, T.xk_NoThing_Spent⟩
  cases h
theorem isx_ok_Healthy {P : Program} {w : World} {K : PySem.W.Frag} {mg : Str → Option Value} {cl : ClsP} (T : Fs P w K mg cl) : IsXOk K cl isx_Healthy (.ref (cl 6)) := by
  intro n b h
  unfold isx_Healthy at h
  split at h
  · rename_i e; subst e; cases h; exact ⟨T.xc_NoThing, T.xk_NoThing_Healthy⟩
  cases h
theorem isx_ok_NoText {P : Program} {w : World} {K : PySem.W.Frag} {mg : Str → Option Value} {cl : ClsP} (T : Fs P w K mg cl) : IsXOk K cl isx_NoText (.ref (cl 7)) := by
  intro n b h
  unfold isx_NoText at h
  split at h
  · rename_i e; subst e; cases h; exact ⟨T.xc_NoThing, T.xk_NoThing_NoText⟩
  cases h
theorem isx_ok_NoRow {P : Program} {w : World} {K : PySem.W.Frag} {mg : Str → Option Value} {cl : ClsP} (T : Fs P w K mg cl) : IsXOk K cl isx_NoRow (.ref (cl 8)) := by
  intro n b h
  unfold isx_NoRow at h
  split at h
  · rename_i e; subst e; cases h; exact ⟨T.xc_NoThing, T.xk_NoThing_NoRow⟩
  cases h
theorem isx_ok_ValueError {P : Program} {w : World} {K : PySem.W.Frag} {mg : Str → Option Value} {cl : ClsP} (T : Fs P w K mg cl) : IsXOk K cl isx_ValueError (.type "ValueError") := by
  intro n b h
  unfold isx_ValueError at h
  split at h
  · rename_i e; subst e; cases h; exact ⟨T.xc_NoThing, T.xk_NoThing_ValueError⟩
  cases h
theorem k_LETTERS_rep {K : PySem.W.Frag} {cl : ClsP} (mu : List Addr) (Z : Hp) : Rep K cl mu Z (.str "abcdefghijklmnopqrstuvwxyz") D.k_LETTERS := by exact .str _
theorem k_MOST_LETTERS_rep {K : PySem.W.Frag} {cl : ClsP} (mu : List Addr) (Z : Hp) : Rep K cl mu Z (.int 8) D.k_MOST_LETTERS := by exact .int _
theorem k_MOST_LINES_rep {K : PySem.W.Frag} {cl : ClsP} (mu : List Addr) (Z : Hp) : Rep K cl mu Z (.int 12) D.k_MOST_LINES := by exact .int _
theorem sc_p_is_mark : FnScope ["thing", "sign"] ["thing"] (defScope (top 14)) := ⟨rfl, rfl, rfl, by decide +kernel, rfl, by decide +kernel, by decide +kernel⟩
theorem ok_p_is_mark {P : Program} {w : World} {K : PySem.W.Frag} {mg : Str → Option Value} {base : Heap} {cl : ClsP} (T : Fs P w K mg cl) : FnOk P w K mg base (L2.CX P w) 1 T.a_p_is_mark T.d_p_is_mark ["thing"] (spOf K cl [true] m_p_is_mark) := by
  have nd := sc_p_is_mark.nd
  refine fn_ok (k := 1) (body := c_p_is_mark) T.F_p_is_mark sc_p_is_mark rfl rfl fun cdv A outer s H E hr tk => ?_
  refine ss_cons ?_ ?_
  · refine ss_if ?_ ?_ ?_
    · refine st_w ?_
      refine sw_or ?_ ?_
      · refine st_not ?_
        refine st_val ?_ (fun _ => rfl)
        refine SE.toB ?_
        refine se_isT (by decide) (by rfl) T.n_isinstance (by decide +kernel) ?_ (by rfl) T.n_str (by decide +kernel)
        exact sb_v (pv 0)
      · refine sw_or ?_ ?_
        · refine st_eq hr.units ?_ ?_
          · exact sb_v (pv 0)
          · refine SE.toB ?_
            exact se_str
        · refine sw_or1 ?_
          refine st_gt ?_ ?_
          · refine SE.toB ?_
            refine sx_callB pfM call_len cs_len (by rfl) T.n_len (by decide +kernel) ?_
            refine sa_b ?_ ?_
            · exact sb_v (pv 0)
            · exact sa_nil
          · refine SE.toB ?_
            exact se_glE (by rfl) T.k_MOST_LETTERS k_MOST_LETTERS_rep
    · refine ss_cons ?_ ?_
      · refine ss_ret ?_
        exact se_bl
      · exact ss_nil
    · exact ss_nil
  · refine ss_wipe ?_
    refine ss_cons ?_ ?_
    · refine ss_for (by exact passes_of rfl) (by rfl) ?_ (pg_name (i := 1) nd (by rfl) (by first | exact Or.inl rfl | exact Or.inr rfl)) (tg_name) ?_
      · refine si_str ?_
        exact sb_v (pv 0)
      · refine ss_cons ?_ ?_
        · refine ss_if ?_ ?_ ?_
          · refine st_nin hr.u65 ?_ ?_ (by rfl)
            · exact sb_v (pv 1)
            · refine SE.toB ?_
              exact se_glE (by rfl) T.k_LETTERS k_LETTERS_rep
          · refine ss_cons ?_ ?_
            · refine ss_ret ?_
              exact se_bl
            · exact ss_nil
          · exact ss_nil
        · refine ss_wipe ?_
          exact ss_nil
    · refine ss_cons ?_ ?_
      · refine ss_ret ?_
        exact se_bl
      · exact ss_nil
theorem sc_p_are_marks : FnScope ["some", "most", "mark"] ["some", "most"] (defScope (top 17)) := ⟨rfl, rfl, rfl, by decide +kernel, rfl, by decide +kernel, by decide +kernel⟩
theorem ok_p_are_marks {P : Program} {w : World} {K : PySem.W.Frag} {mg : Str → Option Value} {base : Heap} {cl : ClsP} (T : Fs P w K mg cl) : FnOk P w K mg base (L2.CX P w) 2 T.a_p_are_marks T.d_p_are_marks ["some", "most"] (spOf K cl [true, true] m_p_are_marks) := by
  have nd := sc_p_are_marks.nd
  refine fn_ok (k := 1) (body := c_p_are_marks) T.F_p_are_marks sc_p_are_marks rfl rfl fun cdv A outer s H E hr tk => ?_
  refine ss_cons ?_ ?_
  · refine ss_if ?_ ?_ ?_
    · refine st_w ?_
      refine sw_or ?_ ?_
      · refine st_not ?_
        refine st_val ?_ (fun _ => rfl)
        refine SE.toB ?_
        refine se_isT (by decide) (by rfl) T.n_isinstance (by decide +kernel) ?_ (by rfl) T.n_list (by decide +kernel)
        exact sb_v (pv 0)
      · refine sw_or1 ?_
        refine st_gt ?_ ?_
        · refine SE.toB ?_
          refine sx_callB pfM call_len cs_len (by rfl) T.n_len (by decide +kernel) ?_
          refine sa_b ?_ ?_
          · exact sb_v (pv 0)
          · exact sa_nil
        · exact sb_v (pv 1)
    · refine ss_cons ?_ ?_
      · refine ss_ret ?_
        exact se_bl
      · exact ss_nil
    · exact ss_nil
  · refine ss_wipe ?_
    refine ss_cons ?_ ?_
    · refine ss_for (by exact passes_of rfl) (by rfl) ?_ (pg_name (i := 2) nd (by rfl) (by first | exact Or.inl rfl | exact Or.inr rfl)) (tg_name) ?_
      · exact si_bor (pv 0)
      · refine ss_cons ?_ ?_
        · refine ss_if ?_ ?_ ?_
          · refine st_not ?_
            refine st_val ?_ (fun _ => rfl)
            refine SE.toB ?_
            refine se_call (ok_p_is_mark T) (hr.mono (by decide)) (by rfl) T.g_p_is_mark T.F_p_is_mark.kp T.b_p_is_mark tk ?_
            refine sa_b ?_ ?_
            · exact sb_v (pv 2)
            · exact sa_nil
          · refine ss_cons ?_ ?_
            · refine ss_ret ?_
              exact se_bl
            · exact ss_nil
          · exact ss_nil
        · refine ss_wipe ?_
          exact ss_nil
    · refine ss_cons ?_ ?_
      · refine ss_ret ?_
        exact se_bl
      · exact ss_nil
theorem sc_p_are_lines : FnScope ["some", "line"] ["some"] (defScope (top 18)) := ⟨rfl, rfl, rfl, by decide +kernel, rfl, by decide +kernel, by decide +kernel⟩
theorem ok_p_are_lines {P : Program} {w : World} {K : PySem.W.Frag} {mg : Str → Option Value} {base : Heap} {cl : ClsP} (T : Fs P w K mg cl) : FnOk P w K mg base (L2.CX P w) 3 T.a_p_are_lines T.d_p_are_lines ["some"] (spOf K cl [true] m_p_are_lines) := by
  have nd := sc_p_are_lines.nd
  refine fn_ok (k := 1) (body := c_p_are_lines) T.F_p_are_lines sc_p_are_lines rfl rfl fun cdv A outer s H E hr tk => ?_
  refine ss_cons ?_ ?_
  · refine ss_if ?_ ?_ ?_
    · refine st_w ?_
      refine sw_or ?_ ?_
      · refine st_not ?_
        refine st_val ?_ (fun _ => rfl)
        refine SE.toB ?_
        refine se_isT (by decide) (by rfl) T.n_isinstance (by decide +kernel) ?_ (by rfl) T.n_list (by decide +kernel)
        exact sb_v (pv 0)
      · refine sw_or1 ?_
        refine st_gt ?_ ?_
        · refine SE.toB ?_
          refine sx_callB pfM call_len cs_len (by rfl) T.n_len (by decide +kernel) ?_
          refine sa_b ?_ ?_
          · exact sb_v (pv 0)
          · exact sa_nil
        · refine SE.toB ?_
          exact se_glE (by rfl) T.k_MOST_LINES k_MOST_LINES_rep
    · refine ss_cons ?_ ?_
      · refine ss_ret ?_
        exact se_bl
      · exact ss_nil
    · exact ss_nil
  · refine ss_wipe ?_
    refine ss_cons ?_ ?_
    · refine ss_for (by exact passes_of rfl) (by rfl) ?_ (pg_name (i := 1) nd (by rfl) (by first | exact Or.inl rfl | exact Or.inr rfl)) (tg_name) ?_
      · exact si_bor (pv 0)
      · refine ss_cons ?_ ?_
        · refine ss_if ?_ ?_ ?_
          · refine st_w ?_
            refine sw_or ?_ ?_
            · refine st_not ?_
              refine st_val ?_ (fun _ => rfl)
              refine SE.toB ?_
              refine se_call (ok_p_are_marks T) (hr.mono (by decide)) (by rfl) T.g_p_are_marks T.F_p_are_marks.kp T.b_p_are_marks tk ?_
              refine sa_b ?_ ?_
              · exact sb_v (pv 1)
              · refine sa_b ?_ ?_
                · refine SE.toB ?_
                  exact se_glE (by rfl) T.k_MOST_LINES k_MOST_LINES_rep
                · exact sa_nil
            · refine sw_or1 ?_
              refine st_ne hr.units ?_ ?_
              · refine SE.toB ?_
                refine sx_callB pfM call_len cs_len (by rfl) T.n_len (by decide +kernel) ?_
                refine sa_b ?_ ?_
                · exact sb_v (pv 1)
                · exact sa_nil
              · refine SE.toB ?_
                refine sx_callB pfM call_len cs_len (by rfl) T.n_len (by decide +kernel) ?_
                refine sa_b ?_ ?_
                · refine SE.toB ?_
                  refine se_ix ?_ ?_
                  · exact sb_v (pv 0)
                  · refine SE.toB ?_
                    exact se_int
                · exact sa_nil
          · refine ss_cons ?_ ?_
            · refine ss_ret ?_
              exact se_bl
            · exact ss_nil
          · exact ss_nil
        · refine ss_wipe ?_
          exact ss_nil
    · refine ss_cons ?_ ?_
      · refine ss_ret ?_
        exact se_bl
      · exact ss_nil
theorem sc_p_Table_init : FnScope ["self", "lines", "line"] ["self", "lines"] (defScope (inClass (top 20) 0)) := ⟨rfl, rfl, rfl, by decide +kernel, rfl, by decide +kernel, by decide +kernel⟩
theorem ok_p_Table_init {P : Program} {w : World} {K : PySem.W.Frag} {mg : Str → Option Value} {base : Heap} {cl : ClsP} (T : Fs P w K mg cl) (c : Nat) : FnOk P w K mg base (L2.CX P w) 4 T.a_p_Table_init T.d_p_Table_init ["self", "lines"] (spIni K cl c [true] m_p_Table_init) := by
  have nd := sc_p_Table_init.nd
  refine ini_ok (k := 1) (body := c_p_Table_init) T.F_p_Table_init sc_p_Table_init rfl rfl fun cdv A outer s H E hr tk => ?_
  refine ss_cons ?_ ?_
  · refine ss_if ?_ ?_ ?_
    · refine st_lendB 1 ?_
      refine st_not ?_
      refine st_val ?_ (fun _ => rfl)
      refine SE.toB ?_
      refine se_call (ok_p_are_lines T) (hr.mono (by decide)) (by rfl) T.g_p_are_lines T.F_p_are_lines.kp T.b_p_are_lines tk ?_
      refine sa_b ?_ ?_
      · exact sb_v (pv 1)
      · exact sa_nil
    · refine ss_cons ?_ ?_
      · exact ss_raise (by rfl) tk T.ex_NoThing T.gc_NoThing (by rfl)
      · exact ss_nil
    · exact ss_nil
  · refine ss_cons ?_ ?_
    · refine ss_fldMe (info T) (pv 0) ?_
      refine SN.toE ?_
      refine sn_lcB (own := [("line", 2)]) (by decide) rfl nd (pv 1) ?_ (fun _ _ _ _ _ => pg_name (i := 2) nd (by rfl) (by first | exact Or.inl rfl | exact Or.inr rfl)) ?_ ?_
      · exact blkOk_by (N := ["self", "lines", "line"]) (sc := defScope (inClass (top 20) 0)) (own := [("line", 2)]) (by decide +kernel)
      · intro _ _ _ _ _
        exact sts_nil
      · intro _ _ _ _ _
        refine SN.toE ?_
        refine sx_callTy pnM call_list_of cs_list (by rfl) T.n_list (by decide +kernel) ?_
        refine sa_b ?_ ?_
        · exact sb_v (pv 2)
        · exact sa_nil
    · refine ss_cons ?_ ?_
      · refine ss_fldMe (info T) (pv 0) ?_
        exact se_int
      · refine ss_cons ?_ ?_
        · refine ss_if ?_ ?_ ?_
          · refine st_lendB 1 ?_
            refine st_gt ?_ ?_
            · refine SE.toB ?_
              refine sx_callB pfM call_len cs_len (by rfl) T.n_len (by decide +kernel) ?_
              refine sa_b ?_ ?_
              · exact sb_v (pv 1)
              · exact sa_nil
            · refine SE.toB ?_
              exact se_int
          · refine ss_cons ?_ ?_
            · refine ss_fldMe (info T) (pv 0) ?_
              refine se_lendB 1 ?_
              refine sx_callB pfM call_len cs_len (by rfl) T.n_len (by decide +kernel) ?_
              refine sa_b ?_ ?_
              · refine SE.toB ?_
                refine se_ix ?_ ?_
                · exact sb_v (pv 1)
                · refine SE.toB ?_
                  exact se_int
              · exact sa_nil
            · exact ss_nil
          · exact ss_nil
        · refine ss_wipe ?_
          exact ss_nil
theorem sc_p_Table_many : FnScope ["self"] ["self"] (defScope (inClass (top 20) 1)) := ⟨rfl, rfl, rfl, by decide +kernel, rfl, by decide +kernel, by decide +kernel⟩
theorem ok_p_Table_many {P : Program} {w : World} {K : PySem.W.Frag} {mg : Str → Option Value} {base : Heap} {cl : ClsP} (T : Fs P w K mg cl) : FnOk P w K mg base (L2.CX P w) 1 T.a_p_Table_many T.d_p_Table_many ["self"] (spOf K cl [true] m_p_Table_many) := by
  have nd := sc_p_Table_many.nd
  refine fn_ok (k := 0) (body := c_p_Table_many) T.F_p_Table_many sc_p_Table_many rfl rfl fun cdv A outer s H E hr tk => ?_
  refine ss_cons ?_ ?_
  · refine ss_ret ?_
    refine se_add ?_ ?_
    · refine SE.toB ?_
      refine sx_callB pfM call_len cs_len (by rfl) T.n_len (by decide +kernel) ?_
      refine sa_b ?_ ?_
      · refine SE.toB ?_
        refine se_fld (info T) ?_
        exact sb_v (pv 0)
      · exact sa_nil
    · refine SE.toB ?_
      refine se_fld (info T) ?_
      exact sb_v (pv 0)
  · exact ss_nil
theorem sc_p_Table_spots : FnScope ["self", "found", "line"] ["self"] (defScope (inClass (top 20) 2)) := ⟨rfl, rfl, rfl, by decide +kernel, rfl, by decide +kernel, by decide +kernel⟩
theorem ok_p_Table_spots {P : Program} {w : World} {K : PySem.W.Frag} {mg : Str → Option Value} {base : Heap} {cl : ClsP} (T : Fs P w K mg cl) : FnOk P w K mg base (L2.CX P w) 1 T.a_p_Table_spots T.d_p_Table_spots ["self"] (spOf K cl [true] m_p_Table_spots) := by
  have nd := sc_p_Table_spots.nd
  refine fn_ok (k := 2) (body := c_p_Table_spots) T.F_p_Table_spots sc_p_Table_spots rfl rfl fun cdv A outer s H E hr tk => ?_
  refine ss_cons ?_ ?_
  · refine ss_setN (i := 1) nd (by rfl) (Or.inl rfl) ?_
    refine sn_lst (bm := []) ?_
    exact sa_nil
  · refine ss_wipe ?_
    refine ss_cons ?_ ?_
    · refine ss_for (by exact passes_of rfl) (by rfl) ?_ (pg_name (i := 2) nd (by rfl) (by first | exact Or.inl rfl | exact Or.inr rfl)) (tg_name) ?_
      · refine si_list ?_
        refine se_fld (info T) ?_
        exact sb_v (pv 0)
      · refine ss_cons ?_ ?_
        · refine ss_setN (i := 1) nd (by rfl) (Or.inl rfl) ?_
          refine sn_add ?_ ?_
          · exact sb_v (pv 1)
          · exact sb_v (pv 2)
        · refine ss_wipe ?_
          exact ss_nil
    · refine ss_cons ?_ ?_
      · exact ss_retV (pv 1)
      · exact ss_nil
theorem sc_p_Table_form : FnScope ["self", "line"] ["self"] (defScope (inClass (top 20) 4)) := ⟨rfl, rfl, rfl, by decide +kernel, rfl, by decide +kernel, by decide +kernel⟩
theorem ok_p_Table_form {P : Program} {w : World} {K : PySem.W.Frag} {mg : Str → Option Value} {base : Heap} {cl : ClsP} (T : Fs P w K mg cl) : FnOk P w K mg base (L2.CX P w) 1 T.a_p_Table_form T.d_p_Table_form ["self"] (spOf K cl [true] m_p_Table_form) := by
  have nd := sc_p_Table_form.nd
  refine fn_ok (k := 1) (body := c_p_Table_form) T.F_p_Table_form sc_p_Table_form rfl rfl fun cdv A outer s H E hr tk => ?_
  refine ss_cons ?_ ?_
  · refine ss_ret ?_
    refine se_tup (bm := [false, false, false]) ?_
    refine sa_f ?_ ?_
    · exact se_str
    · refine sa_f ?_ ?_
      · refine se_fld (info T) ?_
        exact sb_v (pv 0)
      · refine sa_f ?_ ?_
        · refine sx_callTy pfM call_tuple_of cs_tuple (by rfl) T.n_tuple (by decide +kernel) ?_
          refine sa_b ?_ ?_
          · refine SE.toB ?_
            refine SN.toE ?_
            refine sn_lc (own := [("line", 1)]) rfl nd ?_ ?_ (fun _ _ _ _ _ => pg_name (i := 1) nd (by rfl) (by first | exact Or.inl rfl | exact Or.inr rfl)) (tg_name) (tgo_name (by decide)) ?_ ?_
            · refine si_list ?_
              refine se_fld (info T) ?_
              exact sb_v (pv 0)
            · exact blkOk_by (N := ["self", "line"]) (sc := defScope (inClass (top 20) 4)) (own := [("line", 1)]) (by decide +kernel)
            · intro _ _ _ _ _
              exact sts_nil
            · intro _ _ _ _ _
              refine sx_callTy pfM call_tuple_of cs_tuple (by rfl) T.n_tuple (by decide +kernel) ?_
              refine sa_b ?_ ?_
              · exact sb_v (pv 1)
              · exact sa_nil
          · exact sa_nil
        · exact sa_nil
  · exact ss_nil
theorem sc_l_cell_at : FnScope ["_law_script", "_law_k"] ["_law_script", "_law_k"] (defScope (top 22)) := ⟨rfl, rfl, rfl, by decide +kernel, rfl, by decide +kernel, by decide +kernel⟩
theorem ok_l_cell_at {P : Program} {w : World} {K : PySem.W.Frag} {mg : Str → Option Value} {base : Heap} {cl : ClsP} (T : Fs P w K mg cl) : FnOk P w K mg base (L2.CX P w) 1 T.a_l_cell_at T.d_l_cell_at ["_law_script", "_law_k"] (spOf K cl [true, true] m_l_cell_at) := by
  have nd := sc_l_cell_at.nd
  refine fn_ok (k := 0) (body := c_l_cell_at) T.F_l_cell_at sc_l_cell_at rfl rfl fun cdv A outer s H E hr tk => ?_
  refine ss_cons ?_ ?_
  · refine ss_if ?_ ?_ ?_
    · refine st_lt ?_ ?_
      · exact sb_v (pv 1)
      · refine SE.toB ?_
        refine sx_callB pfM call_len cs_len (by rfl) T.n_len (by decide +kernel) ?_
        refine sa_b ?_ ?_
        · exact sb_v (pv 0)
        · exact sa_nil
    · refine ss_cons ?_ ?_
      · refine ss_ret ?_
        refine se_ix ?_ ?_
        · exact sb_v (pv 0)
        · exact sb_v (pv 1)
      · exact ss_nil
    · exact ss_nil
  · refine ss_cons ?_ ?_
    · refine ss_ret ?_
      exact se_int
    · exact ss_nil
theorem sc_l_mix : FnScope ["_law_seed", "_law_k", "_law_number"] ["_law_seed", "_law_k"] (defScope (top 23)) := ⟨rfl, rfl, rfl, by decide +kernel, rfl, by decide +kernel, by decide +kernel⟩
theorem ok_l_mix {P : Program} {w : World} {K : PySem.W.Frag} {mg : Str → Option Value} {base : Heap} {cl : ClsP} (T : Fs P w K mg cl) : FnOk P w K mg base (L2.CX P w) 1 T.a_l_mix T.d_l_mix ["_law_seed", "_law_k"] (spOf K cl [true, true] m_l_mix) := by
  have nd := sc_l_mix.nd
  refine fn_ok (k := 1) (body := c_l_mix) T.F_l_mix sc_l_mix rfl rfl fun cdv A outer s H E hr tk => ?_
  refine ss_cons ?_ ?_
  · refine ss_set (i := 2) nd (by rfl) (Or.inl rfl) ?_
    refine se_mod ?_ ?_
    · refine SE.toB ?_
      refine se_mul ?_ ?_
      · refine SE.toB ?_
        refine se_add ?_ ?_
        · refine SE.toB ?_
          refine se_add ?_ ?_
          · refine SE.toB ?_
            refine se_add ?_ ?_
            · refine SE.toB ?_
              refine se_mod ?_ ?_
              · exact sb_v (pv 0)
              · refine SE.toB ?_
                refine se_pow ?_ ?_
                · refine SE.toB ?_
                  exact se_int
                · refine SE.toB ?_
                  exact se_int
            · refine SE.toB ?_
              refine se_mul ?_ ?_
              · refine SE.toB ?_
                exact se_int
              · exact sb_v (pv 1)
          · refine SE.toB ?_
            refine se_mul ?_ ?_
            · refine SE.toB ?_
              refine se_mul ?_ ?_
              · exact sb_v (pv 1)
              · exact sb_v (pv 1)
            · exact sb_v (pv 1)
        · refine SE.toB ?_
          exact se_int
      · refine SE.toB ?_
        exact se_int
    · refine SE.toB ?_
      exact se_int
  · refine ss_cons ?_ ?_
    · refine ss_ret ?_
      refine se_mod ?_ ?_
      · refine SE.toB ?_
        refine se_mul ?_ ?_
        · exact sb_v (pv 2)
        · refine SE.toB ?_
          exact se_int
      · refine SE.toB ?_
        exact se_int
    · exact ss_nil
theorem sc_l_whole : FnScope ["_law_found"] ["_law_found"] (defScope (top 24)) := ⟨rfl, rfl, rfl, by decide +kernel, rfl, by decide +kernel, by decide +kernel⟩
theorem ok_l_whole {P : Program} {w : World} {K : PySem.W.Frag} {mg : Str → Option Value} {base : Heap} {cl : ClsP} (T : Fs P w K mg cl) : FnOk P w K mg base (L2.CX P w) 1 T.a_l_whole T.d_l_whole ["_law_found"] (spOf K cl [true] m_l_whole) := by
  have nd := sc_l_whole.nd
  refine fn_ok (k := 0) (body := c_l_whole) T.F_l_whole sc_l_whole rfl rfl fun cdv A outer s H E hr tk => ?_
  refine ss_cons ?_ ?_
  · refine ss_ret ?_
    refine se_and ?_ ?_
    · refine SE.toB ?_
      refine se_isT (by decide) (by rfl) T.n_isinstance (by decide +kernel) ?_ (by rfl) T.n_int (by decide +kernel)
      exact sb_v (pv 0)
    · refine se_one ?_
      refine se_not ?_
      refine SE.toB ?_
      refine se_isT (by decide) (by rfl) T.n_isinstance (by decide +kernel) ?_ (by rfl) T.n_bool (by decide +kernel)
      exact sb_v (pv 0)
  · exact ss_nil
theorem sc_l_how_many : FnScope ["_law_number"] ["_law_number"] (defScope (top 25)) := ⟨rfl, rfl, rfl, by decide +kernel, rfl, by decide +kernel, by decide +kernel⟩
theorem ok_l_how_many {P : Program} {w : World} {K : PySem.W.Frag} {mg : Str → Option Value} {base : Heap} {cl : ClsP} (T : Fs P w K mg cl) : FnOk P w K mg base (L2.CX P w) 1 T.a_l_how_many T.d_l_how_many ["_law_number"] (spOf K cl [true] m_l_how_many) := by
  have nd := sc_l_how_many.nd
  refine fn_ok (k := 0) (body := c_l_how_many) T.F_l_how_many sc_l_how_many rfl rfl fun cdv A outer s H E hr tk => ?_
  refine ss_cons ?_ ?_
  · refine ss_if ?_ ?_ ?_
    · refine st_eq hr.units ?_ ?_
      · refine SE.toB ?_
        refine se_mod ?_ ?_
        · refine SE.toB ?_
          refine se_div ?_ ?_
          · exact sb_v (pv 0)
          · refine SE.toB ?_
            exact se_int
        · refine SE.toB ?_
          exact se_int
      · refine SE.toB ?_
        exact se_int
    · refine ss_cons ?_ ?_
      · refine ss_ret ?_
        refine se_add ?_ ?_
        · refine SE.toB ?_
          exact se_int
        · refine SE.toB ?_
          refine se_mod ?_ ?_
          · refine SE.toB ?_
            refine se_div ?_ ?_
            · exact sb_v (pv 0)
            · refine SE.toB ?_
              exact se_int
          · refine SE.toB ?_
            exact se_int
      · exact ss_nil
    · exact ss_nil
  · refine ss_cons ?_ ?_
    · refine ss_ret ?_
      refine se_add ?_ ?_
      · refine SE.toB ?_
        exact se_int
      · refine SE.toB ?_
        refine se_mod ?_ ?_
        · exact sb_v (pv 0)
        · refine SE.toB ?_
          exact se_int
    · exact ss_nil
theorem sc_l_marks : FnScope ["_law_cell", "_law_many", "_law_letters", "_law_base", "_law_at", "_law_first", "_law_step", "_law_k"] ["_law_cell", "_law_many"] (defScope (top 26)) := ⟨rfl, rfl, rfl, by decide +kernel, rfl, by decide +kernel, by decide +kernel⟩
theorem ok_l_marks {P : Program} {w : World} {K : PySem.W.Frag} {mg : Str → Option Value} {base : Heap} {cl : ClsP} (T : Fs P w K mg cl) : FnOk P w K mg base (L2.CX P w) 1 T.a_l_marks T.d_l_marks ["_law_cell", "_law_many"] (spOf K cl [true, true] m_l_marks) := by
  have nd := sc_l_marks.nd
  refine fn_ok (k := 6) (body := c_l_marks) T.F_l_marks sc_l_marks rfl rfl fun cdv A outer s H E hr tk => ?_
  refine ss_cons ?_ ?_
  · refine ss_set (i := 2) nd (by rfl) (Or.inr rfl) ?_
    exact se_str
  · refine ss_cons ?_ ?_
    · refine ss_set (i := 3) nd (by rfl) (Or.inr rfl) ?_
      refine se_cut ?_ ?_ ?_
      · refine SE.toB ?_
        exact se_str
      · exact so_no
      · refine so_at ?_
        refine SE.toB ?_
        refine se_mod ?_ ?_
        · exact sb_v (pv 0)
        · refine SE.toB ?_
          exact se_int
    · refine ss_cons ?_ ?_
      · refine ss_set (i := 4) nd (by rfl) (Or.inr rfl) ?_
        refine se_mod ?_ ?_
        · refine SE.toB ?_
          refine se_div ?_ ?_
          · exact sb_v (pv 0)
          · refine SE.toB ?_
            exact se_int
        · refine SE.toB ?_
          refine se_add ?_ ?_
          · refine SE.toB ?_
            refine sx_callB pfM call_len cs_len (by rfl) T.n_len (by decide +kernel) ?_
            refine sa_b ?_ ?_
            · exact sb_v (pv 3)
            · exact sa_nil
          · refine SE.toB ?_
            exact se_int
      · refine ss_cons ?_ ?_
        · refine ss_set (i := 5) nd (by rfl) (Or.inr rfl) ?_
          refine se_mod ?_ ?_
          · refine SE.toB ?_
            refine se_div ?_ ?_
            · exact sb_v (pv 0)
            · refine SE.toB ?_
              exact se_int
          · refine SE.toB ?_
            exact se_int
        · refine ss_cons ?_ ?_
          · refine ss_set (i := 6) nd (by rfl) (Or.inr rfl) ?_
            refine se_add ?_ ?_
            · refine SE.toB ?_
              exact se_int
            · refine SE.toB ?_
              refine se_mod ?_ ?_
              · refine SE.toB ?_
                refine se_div ?_ ?_
                · exact sb_v (pv 0)
                · refine SE.toB ?_
                  exact se_int
              · refine SE.toB ?_
                exact se_int
          · refine ss_cons ?_ ?_
            · refine ss_if ?_ ?_ ?_
              · refine st_gt ?_ ?_
                · exact sb_v (pv 1)
                · refine SE.toB ?_
                  exact se_int
              · refine ss_cons ?_ ?_
                · refine ss_set (i := 6) nd (by rfl) (Or.inr rfl) ?_
                  exact se_int
                · refine ss_wipe ?_
                  exact ss_nil
              · refine ss_wipe ?_
                exact ss_nil
            · refine ss_cons ?_ ?_
              · refine ss_retN ?_
                refine sn_lc (own := [("_law_k", 7)]) rfl nd ?_ ?_ (fun _ _ _ _ _ => pg_name (i := 7) nd (by rfl) (by first | exact Or.inl rfl | exact Or.inr rfl)) (tg_name) (tgo_name (by decide)) ?_ ?_
                · refine si_range1 (by rfl) T.n_range ?_
                  refine sa_b ?_ ?_
                  · exact sb_v (pv 1)
                  · exact sa_nil
                · exact blkOk_by (N := ["_law_cell", "_law_many", "_law_letters", "_law_base", "_law_at", "_law_first", "_law_step", "_law_k"]) (sc := defScope (top 26)) (own := [("_law_k", 7)]) (by decide +kernel)
                · intro _ _ _ _ _
                  exact sts_nil
                · intro _ _ _ _ _
                  refine se_add ?_ ?_
                  · refine SE.toB ?_
                    refine se_add ?_ ?_
                    · refine SE.toB ?_
                      refine se_cut ?_ ?_ ?_
                      · exact sb_v (pv 3)
                      · exact so_no
                      · refine so_at ?_
                        exact sb_v (pv 4)
                    · refine SE.toB ?_
                      refine se_ix ?_ ?_
                      · exact sb_v (pv 2)
                      · refine SE.toB ?_
                        refine se_mod ?_ ?_
                        · refine SE.toB ?_
                          refine se_add ?_ ?_
                          · exact sb_v (pv 5)
                          · refine SE.toB ?_
                            refine se_mul ?_ ?_
                            · exact sb_v (pv 7)
                            · exact sb_v (pv 6)
                        · refine SE.toB ?_
                          exact se_int
                  · refine SE.toB ?_
                    refine se_cut ?_ ?_ ?_
                    · exact sb_v (pv 3)
                    · refine so_at ?_
                      exact sb_v (pv 4)
                    · exact so_no
              · exact ss_nil
theorem sc_l_pick : FnScope ["_law_cell", "_law_marks_here"] ["_law_cell", "_law_marks_here"] (defScope (top 27)) := ⟨rfl, rfl, rfl, by decide +kernel, rfl, by decide +kernel, by decide +kernel⟩
theorem ok_l_pick {P : Program} {w : World} {K : PySem.W.Frag} {mg : Str → Option Value} {base : Heap} {cl : ClsP} (T : Fs P w K mg cl) : FnOk P w K mg base (L2.CX P w) 1 T.a_l_pick T.d_l_pick ["_law_cell", "_law_marks_here"] (spOf K cl [true, true] m_l_pick) := by
  have nd := sc_l_pick.nd
  refine fn_ok (k := 0) (body := c_l_pick) T.F_l_pick sc_l_pick rfl rfl fun cdv A outer s H E hr tk => ?_
  refine ss_cons ?_ ?_
  · refine ss_if ?_ ?_ ?_
    · refine st_gt ?_ ?_
      · refine SE.toB ?_
        refine sx_callB pfM call_len cs_len (by rfl) T.n_len (by decide +kernel) ?_
        refine sa_b ?_ ?_
        · exact sb_v (pv 1)
        · exact sa_nil
      · refine SE.toB ?_
        exact se_int
    · refine ss_cons ?_ ?_
      · refine ss_ret ?_
        refine se_ix ?_ ?_
        · exact sb_v (pv 1)
        · refine SE.toB ?_
          refine se_mod ?_ ?_
          · refine SE.toB ?_
            refine se_add ?_ ?_
            · refine SE.toB ?_
              refine se_mul ?_ ?_
              · refine SE.toB ?_
                exact se_int
              · exact sb_v (pv 0)
            · refine SE.toB ?_
              refine se_div ?_ ?_
              · exact sb_v (pv 0)
              · refine SE.toB ?_
                exact se_int
          · refine SE.toB ?_
            refine sx_callB pfM call_len cs_len (by rfl) T.n_len (by decide +kernel) ?_
            refine sa_b ?_ ?_
            · exact sb_v (pv 1)
            · exact sa_nil
      · exact ss_nil
    · exact ss_nil
  · refine ss_cons ?_ ?_
    · refine ss_ret ?_
      refine se_ix ?_ ?_
      · exact sb_v (pv 1)
      · refine SE.toB ?_
        refine se_mod ?_ ?_
        · refine SE.toB ?_
          refine se_mod ?_ ?_
          · exact sb_v (pv 0)
          · refine SE.toB ?_
            exact se_int
        · refine SE.toB ?_
          refine sx_callB pfM call_len cs_len (by rfl) T.n_len (by decide +kernel) ?_
          refine sa_b ?_ ?_
          · exact sb_v (pv 1)
          · exact sa_nil
    · exact ss_nil
theorem sc_l_lines : FnScope ["_law_cells", "_law_marks_here", "_law_wide", "_law_lines_here", "_law_k", "_law_cell"] ["_law_cells", "_law_marks_here", "_law_wide"] (defScope (top 28)) := ⟨rfl, rfl, rfl, by decide +kernel, rfl, by decide +kernel, by decide +kernel⟩
theorem ok_l_lines {P : Program} {w : World} {K : PySem.W.Frag} {mg : Str → Option Value} {base : Heap} {cl : ClsP} (T : Fs P w K mg cl) : FnOk P w K mg base (L2.CX P w) 2 T.a_l_lines T.d_l_lines ["_law_cells", "_law_marks_here", "_law_wide"] (spOf K cl [true, true, true] m_l_lines) := by
  have nd := sc_l_lines.nd
  refine fn_ok (k := 3) (body := c_l_lines) T.F_l_lines sc_l_lines rfl rfl fun cdv A outer s H E hr tk => ?_
  refine ss_cons ?_ ?_
  · refine ss_setN (i := 3) nd (by rfl) (Or.inl rfl) ?_
    refine sn_lst (bm := []) ?_
    exact sa_nil
  · refine ss_wipe ?_
    refine ss_cons ?_ ?_
    · refine ss_for (by exact passes_of rfl) (by rfl) ?_ (pg_name (i := 4) nd (by rfl) (by first | exact Or.inl rfl | exact Or.inr rfl)) (tg_name) ?_
      · refine si_range3 (by rfl) T.n_range ?_
        refine sa_b ?_ ?_
        · refine SE.toB ?_
          exact se_int
        · refine sa_b ?_ ?_
          · refine SE.toB ?_
            refine se_add ?_ ?_
            · refine SE.toB ?_
              refine se_sub ?_ ?_
              · refine SE.toB ?_
                refine sx_callB pfM call_len cs_len (by rfl) T.n_len (by decide +kernel) ?_
                refine sa_b ?_ ?_
                · exact sb_v (pv 0)
                · exact sa_nil
              · exact sb_v (pv 2)
            · refine SE.toB ?_
              exact se_int
          · refine sa_b ?_ ?_
            · refine SE.toB ?_
              refine sx_callB pfM (call_max2 rfl) cs_max2 (by rfl) T.n_max (by decide +kernel) ?_
              refine sa_b ?_ ?_
              · refine SE.toB ?_
                exact se_int
              · refine sa_b ?_ ?_
                · exact sb_v (pv 2)
                · exact sa_nil
            · exact sa_nil
      · refine ss_cons ?_ ?_
        · refine ss_if ?_ ?_ ?_
          · refine st_lt ?_ ?_
            · refine SE.toB ?_
              refine sx_callB pfM call_len cs_len (by rfl) T.n_len (by decide +kernel) ?_
              refine sa_b ?_ ?_
              · exact sb_v (pv 3)
              · exact sa_nil
            · refine SE.toB ?_
              exact se_int
          · refine ss_cons ?_ ?_
            · refine ss_lm PySem.F.slot_list_append PySem.F.type_list_append mt_append lm_append (pv 3) ?_
              refine sa_f ?_ ?_
              · refine SN.toE ?_
                refine sn_lc (own := [("_law_cell", 5)]) rfl nd ?_ ?_ (fun _ _ _ _ _ => pg_name (i := 5) nd (by rfl) (by first | exact Or.inl rfl | exact Or.inr rfl)) (tg_name) (tgo_name (by decide)) ?_ ?_
                · refine si_list ?_
                  refine se_cut ?_ ?_ ?_
                  · exact sb_v (pv 0)
                  · refine so_at ?_
                    exact sb_v (pv 4)
                  · refine so_at ?_
                    refine SE.toB ?_
                    refine se_add ?_ ?_
                    · exact sb_v (pv 4)
                    · exact sb_v (pv 2)
                · exact blkOk_by (N := ["_law_cells", "_law_marks_here", "_law_wide", "_law_lines_here", "_law_k", "_law_cell"]) (sc := defScope (top 28)) (own := [("_law_cell", 5)]) (by decide +kernel)
                · intro _ _ _ _ _
                  exact sts_nil
                · intro _ _ _ _ _
                  refine se_call (ok_l_pick T) (hr.mono (by decide)) (by rfl) T.g_l_pick T.F_l_pick.kp T.b_l_pick takes0 ?_
                  refine sa_b ?_ ?_
                  · exact sb_v (pv 5)
                  · refine sa_b ?_ ?_
                    · exact sb_v (pv 1)
                    · exact sa_nil
              · exact sa_nil
            · exact ss_nil
          · exact ss_nil
        · refine ss_wipe ?_
          exact ss_nil
    · refine ss_cons ?_ ?_
      · exact ss_retV (pv 3)
      · exact ss_nil
theorem sc_l_classes : FnScope ["_law_e", "_law_told"] ["_law_e"] (defScope (top 29)) := ⟨rfl, rfl, rfl, by decide +kernel, rfl, by decide +kernel, by decide +kernel⟩
theorem ok_l_classes {P : Program} {w : World} {K : PySem.W.Frag} {mg : Str → Option Value} {base : Heap} {cl : ClsP} (T : Fs P w K mg cl) : FnOk P w K mg base (L2.CX P w) 1 T.a_l_classes T.d_l_classes ["_law_e"] (spOf K cl [true] m_l_classes) := by
  have nd := sc_l_classes.nd
  refine fn_ok (k := 1) (body := c_l_classes) T.F_l_classes sc_l_classes rfl rfl fun cdv A outer s H E hr tk => ?_
  refine ss_cons ?_ ?_
  · refine ss_setN (i := 1) nd (by rfl) (Or.inl rfl) ?_
    refine sn_lst (bm := []) ?_
    exact sa_nil
  · refine ss_cons ?_ ?_
    · refine ss_if ?_ ?_ ?_
      · refine st_val ?_ (fun _ => rfl)
        refine SE.toB ?_
        refine se_isX (isx_ok_NoThing T) (by rfl) T.n_isinstance (by decide +kernel) ?_ (by rfl) T.gc_NoThing
        exact sb_v (pv 0)
      · refine ss_cons ?_ ?_
        · refine ss_lm PySem.F.slot_list_append PySem.F.type_list_append mt_append lm_append (pv 1) ?_
          refine sa_f ?_ ?_
          · exact se_str
          · exact sa_nil
        · refine ss_wipe ?_
          exact ss_nil
      · refine ss_wipe ?_
        exact ss_nil
    · refine ss_cons ?_ ?_
      · refine ss_if ?_ ?_ ?_
        · refine st_val ?_ (fun _ => rfl)
          refine SE.toB ?_
          refine se_isX (isx_ok_NoPlace T) (by rfl) T.n_isinstance (by decide +kernel) ?_ (by rfl) T.gc_NoPlace
          exact sb_v (pv 0)
        · refine ss_cons ?_ ?_
          · refine ss_lm PySem.F.slot_list_append PySem.F.type_list_append mt_append lm_append (pv 1) ?_
            refine sa_f ?_ ?_
            · exact se_str
            · exact sa_nil
          · refine ss_wipe ?_
            exact ss_nil
        · refine ss_wipe ?_
          exact ss_nil
      · refine ss_cons ?_ ?_
        · refine ss_if ?_ ?_ ?_
          · refine st_w ?_
            refine sw_or ?_ ?_
            · refine st_val ?_ (fun _ => rfl)
              refine SE.toB ?_
              refine se_isX (isx_ok_NoFault T) (by rfl) T.n_isinstance (by decide +kernel) ?_ (by rfl) T.gc_NoFault
              exact sb_v (pv 0)
            · refine sw_or ?_ ?_
              · refine st_val ?_ (fun _ => rfl)
                refine SE.toB ?_
                refine se_isX (isx_ok_NoRule T) (by rfl) T.n_isinstance (by decide +kernel) ?_ (by rfl) T.gc_NoRule
                exact sb_v (pv 0)
              · refine sw_or ?_ ?_
                · refine st_val ?_ (fun _ => rfl)
                  refine SE.toB ?_
                  refine se_isX (isx_ok_Spent T) (by rfl) T.n_isinstance (by decide +kernel) ?_ (by rfl) T.gc_Spent
                  exact sb_v (pv 0)
                · refine sw_or1 ?_
                  refine st_val ?_ (fun _ => rfl)
                  refine SE.toB ?_
                  refine se_isX (isx_ok_Healthy T) (by rfl) T.n_isinstance (by decide +kernel) ?_ (by rfl) T.gc_Healthy
                  exact sb_v (pv 0)
          · refine ss_cons ?_ ?_
            · refine ss_lm PySem.F.slot_list_append PySem.F.type_list_append mt_append lm_append (pv 1) ?_
              refine sa_f ?_ ?_
              · exact se_str
              · exact sa_nil
            · refine ss_wipe ?_
              exact ss_nil
          · refine ss_wipe ?_
            exact ss_nil
        · refine ss_cons ?_ ?_
          · refine ss_if ?_ ?_ ?_
            · refine st_w ?_
              refine sw_or ?_ ?_
              · refine st_val ?_ (fun _ => rfl)
                refine SE.toB ?_
                refine se_isX (isx_ok_NoText T) (by rfl) T.n_isinstance (by decide +kernel) ?_ (by rfl) T.gc_NoText
                exact sb_v (pv 0)
              · refine sw_or ?_ ?_
                · refine st_val ?_ (fun _ => rfl)
                  refine SE.toB ?_
                  refine se_isX (isx_ok_NoRow T) (by rfl) T.n_isinstance (by decide +kernel) ?_ (by rfl) T.gc_NoRow
                  exact sb_v (pv 0)
                · refine sw_or1 ?_
                  refine st_not ?_
                  refine st_val ?_ (fun _ => rfl)
                  refine SE.toB ?_
                  refine se_isXv (isx_ok_ValueError T) (by rfl) T.n_isinstance (by decide +kernel) ?_ (by rfl) T.n_ValueError (by decide +kernel)
                  exact sb_v (pv 0)
            · refine ss_cons ?_ ?_
              · refine ss_lm PySem.F.slot_list_append PySem.F.type_list_append mt_append lm_append (pv 1) ?_
                refine sa_f ?_ ?_
                · exact se_str
                · exact sa_nil
              · refine ss_wipe ?_
                exact ss_nil
            · refine ss_wipe ?_
              exact ss_nil
          · refine ss_cons ?_ ?_
            · exact ss_retV (pv 1)
            · exact ss_nil
theorem okQ_l_classes {P : Program} {w : World} {K : PySem.W.Frag} {mg : Str → Option Value} {base : Heap} {cl : ClsP} (T : Fs P w K mg cl) : FnQ P w K mg base 1 T.a_l_classes T.d_l_classes ["_law_e"] (spOf K cl [true] m_l_classes) := by
  have nd := sc_l_classes.nd
  refine fnq_ok (k := 1) (body := c_l_classes) T.F_l_classes sc_l_classes rfl rfl fun cdv A outer s H p hr => ?_
  refine ss_cons ?_ ?_
  · refine ss_setN (i := 1) nd (by rfl) (Or.inl rfl) ?_
    refine sn_lst (bm := []) ?_
    exact sa_nil
  · refine ss_cons ?_ ?_
    · refine ss_if ?_ ?_ ?_
      · refine st_val ?_ (fun _ => rfl)
        refine SE.toB ?_
        refine se_isX (isx_ok_NoThing T) (by rfl) T.n_isinstance (by decide +kernel) ?_ (by rfl) T.gc_NoThing
        exact sb_v (pv 0)
      · refine ss_cons ?_ ?_
        · refine ss_lm PySem.F.slot_list_append PySem.F.type_list_append mt_append lm_append (pv 1) ?_
          refine sa_f ?_ ?_
          · exact se_str
          · exact sa_nil
        · refine ss_wipe ?_
          exact ss_nil
      · refine ss_wipe ?_
        exact ss_nil
    · refine ss_cons ?_ ?_
      · refine ss_if ?_ ?_ ?_
        · refine st_val ?_ (fun _ => rfl)
          refine SE.toB ?_
          refine se_isX (isx_ok_NoPlace T) (by rfl) T.n_isinstance (by decide +kernel) ?_ (by rfl) T.gc_NoPlace
          exact sb_v (pv 0)
        · refine ss_cons ?_ ?_
          · refine ss_lm PySem.F.slot_list_append PySem.F.type_list_append mt_append lm_append (pv 1) ?_
            refine sa_f ?_ ?_
            · exact se_str
            · exact sa_nil
          · refine ss_wipe ?_
            exact ss_nil
        · refine ss_wipe ?_
          exact ss_nil
      · refine ss_cons ?_ ?_
        · refine ss_if ?_ ?_ ?_
          · refine st_w ?_
            refine sw_or ?_ ?_
            · refine st_val ?_ (fun _ => rfl)
              refine SE.toB ?_
              refine se_isX (isx_ok_NoFault T) (by rfl) T.n_isinstance (by decide +kernel) ?_ (by rfl) T.gc_NoFault
              exact sb_v (pv 0)
            · refine sw_or ?_ ?_
              · refine st_val ?_ (fun _ => rfl)
                refine SE.toB ?_
                refine se_isX (isx_ok_NoRule T) (by rfl) T.n_isinstance (by decide +kernel) ?_ (by rfl) T.gc_NoRule
                exact sb_v (pv 0)
              · refine sw_or ?_ ?_
                · refine st_val ?_ (fun _ => rfl)
                  refine SE.toB ?_
                  refine se_isX (isx_ok_Spent T) (by rfl) T.n_isinstance (by decide +kernel) ?_ (by rfl) T.gc_Spent
                  exact sb_v (pv 0)
                · refine sw_or1 ?_
                  refine st_val ?_ (fun _ => rfl)
                  refine SE.toB ?_
                  refine se_isX (isx_ok_Healthy T) (by rfl) T.n_isinstance (by decide +kernel) ?_ (by rfl) T.gc_Healthy
                  exact sb_v (pv 0)
          · refine ss_cons ?_ ?_
            · refine ss_lm PySem.F.slot_list_append PySem.F.type_list_append mt_append lm_append (pv 1) ?_
              refine sa_f ?_ ?_
              · exact se_str
              · exact sa_nil
            · refine ss_wipe ?_
              exact ss_nil
          · refine ss_wipe ?_
            exact ss_nil
        · refine ss_cons ?_ ?_
          · refine ss_if ?_ ?_ ?_
            · refine st_w ?_
              refine sw_or ?_ ?_
              · refine st_val ?_ (fun _ => rfl)
                refine SE.toB ?_
                refine se_isX (isx_ok_NoText T) (by rfl) T.n_isinstance (by decide +kernel) ?_ (by rfl) T.gc_NoText
                exact sb_v (pv 0)
              · refine sw_or ?_ ?_
                · refine st_val ?_ (fun _ => rfl)
                  refine SE.toB ?_
                  refine se_isX (isx_ok_NoRow T) (by rfl) T.n_isinstance (by decide +kernel) ?_ (by rfl) T.gc_NoRow
                  exact sb_v (pv 0)
                · refine sw_or1 ?_
                  refine st_not ?_
                  refine st_val ?_ (fun _ => rfl)
                  refine SE.toB ?_
                  refine se_isXv (isx_ok_ValueError T) (by rfl) T.n_isinstance (by decide +kernel) ?_ (by rfl) T.n_ValueError (by decide +kernel)
                  exact sb_v (pv 0)
            · refine ss_cons ?_ ?_
              · refine ss_lm PySem.F.slot_list_append PySem.F.type_list_append mt_append lm_append (pv 1) ?_
                refine sa_f ?_ ?_
                · exact se_str
                · exact sa_nil
              · refine ss_wipe ?_
                exact ss_nil
            · refine ss_wipe ?_
              exact ss_nil
          · refine ss_cons ?_ ?_
            · exact ss_retV (pv 1)
            · exact ss_nil
theorem sc_l_refused : FnScope ["_law_thing", "_law_e"] ["_law_thing"] (defScope (top 30)) := ⟨rfl, rfl, rfl, by decide +kernel, rfl, by decide +kernel, by decide +kernel⟩
theorem ok_l_refused {P : Program} {w : World} {K : PySem.W.Frag} {mg : Str → Option Value} {base : Heap} {cl : ClsP} (T : Fs P w K mg cl) : FnOk P w K mg base (L2.CX P w) 6 T.a_l_refused T.d_l_refused ["_law_thing"] (spOf K cl [true] m_l_refused) := by
  have nd := sc_l_refused.nd
  refine fn_ok (k := 1) (body := c_l_refused) T.F_l_refused sc_l_refused rfl rfl fun cdv A outer s H E hr tk => ?_
  refine ss_cons ?_ ?_
  · refine ss_tryT nd (by rfl) (by rfl) ⟨by rfl, by decide, .inl T.gc_ShrinkError⟩ tk (hit_ok_ShrinkError T) ?_ ?_
    · intro W pn xe tk ps
      refine ss_cons ?_ ?_
      · refine ss_drop (P := PF K cl) ?_
        refine SN.toE ?_
        refine sn_make T.mk_Table (ok_p_Table_init T 12) (hr.mono (by decide)) (by rfl) T.gc_Table T.b_p_Table_init tk ?_
        refine sa_b ?_ ?_
        · exact sb_v (pv 0)
        · exact sa_nil
      · refine ss_wipe ?_
        exact ss_nil
    · intro e pn
      refine ss_cons ?_ ?_
      · refine ss_ret ?_
        refine se_eq hr.units ?_ ?_
        · refine SE.toB ?_
          refine se_callQ (okQ_l_classes T) ((roomQ hr).mono (by decide)) (by rfl) T.g_l_classes T.F_l_classes.kp T.b_l_classes ?_
          refine sa_b ?_ ?_
          · exact sb_v (pv 1)
          · exact sa_nil
        · refine SE.toB ?_
          refine SN.toE ?_
          refine sn_lst (bm := [false]) ?_
          refine sa_f ?_ ?_
          · exact se_str
          · exact sa_nil
      · exact ss_nil
  · refine ss_cons ?_ ?_
    · refine ss_ret ?_
      exact se_bl
    · exact ss_nil
theorem sc_l_wrong : FnScope ["_law_lines_here", "_law_wide", "_law_cell", "_law_mark", "_law_way", "_law_wrong_here", "_law_at", "_law_bad", "_law_line", "_law_j", "_law_k"] ["_law_lines_here", "_law_wide", "_law_cell", "_law_mark"] (defScope (top 31)) := ⟨rfl, rfl, rfl, by decide +kernel, rfl, by decide +kernel, by decide +kernel⟩
theorem ok_l_wrong {P : Program} {w : World} {K : PySem.W.Frag} {mg : Str → Option Value} {base : Heap} {cl : ClsP} (T : Fs P w K mg cl) : FnOk P w K mg base (L2.CX P w) 1 T.a_l_wrong T.d_l_wrong ["_law_lines_here", "_law_wide", "_law_cell", "_law_mark"] (spOf K cl [true, true, true, false] m_l_wrong) := by
  have nd := sc_l_wrong.nd
  refine fn_ok (k := 7) (body := c_l_wrong) T.F_l_wrong sc_l_wrong rfl rfl fun cdv A outer s H E hr tk => ?_
  refine ss_cons ?_ ?_
  · refine ss_set (i := 4) nd (by rfl) (Or.inl rfl) ?_
    refine se_mod ?_ ?_
    · exact sb_v (pv 2)
    · refine SE.toB ?_
      exact se_int
  · refine ss_cons ?_ ?_
    · refine ss_if ?_ ?_ ?_
      · refine st_eq hr.units ?_ ?_
        · exact sb_v (pv 4)
        · refine SE.toB ?_
          exact se_int
      · refine ss_cons ?_ ?_
        · refine ss_ret ?_
          refine se_ix ?_ ?_
          · refine SE.toB ?_
            refine SN.toE ?_
            refine sn_lst (bm := [false, false, false, false, false, false, false, false, false, false]) ?_
            refine sa_f ?_ ?_
            · exact se_non
            · refine sa_f ?_ ?_
              · exact se_int
              · refine sa_f ?_ ?_
                · exact se_bl
                · refine sa_f ?_ ?_
                  · exact se_str
                  · refine sa_f ?_ ?_
                    · exact se_v (pv 3)
                    · refine sa_f ?_ ?_
                      · refine sx_callTy pfM call_tuple_of cs_tuple (by rfl) T.n_tuple (by decide +kernel) ?_
                        refine sa_b ?_ ?_
                        · exact sb_v (pv 0)
                        · exact sa_nil
                      · refine sa_f ?_ ?_
                        · refine SN.toE ?_
                          refine sn_lst (bm := [false]) ?_
                          refine sa_f ?_ ?_
                          · exact se_v (pv 3)
                          · exact sa_nil
                        · refine sa_f ?_ ?_
                          · refine SN.toE ?_
                            refine sn_lst (bm := [false]) ?_
                            refine sa_f ?_ ?_
                            · exact se_non
                            · exact sa_nil
                          · refine sa_f ?_ ?_
                            · refine SN.toE ?_
                              refine sn_lst (bm := [false]) ?_
                              refine sa_f ?_ ?_
                              · refine se_tup (bm := [false]) ?_
                                refine sa_f ?_ ?_
                                · exact se_v (pv 3)
                                · exact sa_nil
                              · exact sa_nil
                            · refine sa_f ?_ ?_
                              · refine SN.toE ?_
                                refine sn_lst (bm := [false, false]) ?_
                                refine sa_f ?_ ?_
                                · refine SN.toE ?_
                                  refine sn_lst (bm := [false]) ?_
                                  refine sa_f ?_ ?_
                                  · exact se_v (pv 3)
                                  · exact sa_nil
                                · refine sa_f ?_ ?_
                                  · exact se_non
                                  · exact sa_nil
                              · exact sa_nil
          · refine SE.toB ?_
            refine se_mod ?_ ?_
            · refine SE.toB ?_
              refine se_div ?_ ?_
              · exact sb_v (pv 2)
              · refine SE.toB ?_
                exact se_int
            · refine SE.toB ?_
              exact se_int
        · exact ss_nil
      · exact ss_nil
    · refine ss_cons ?_ ?_
      · refine ss_setLcN (own := [("_law_line", 8)]) rfl nd (i := 5) rfl rfl (sw_true rfl rfl rfl (by decide +kernel)) ?_ ?_ (fun _ _ _ _ _ => pg_name (i := 8) nd (by rfl) (by first | exact Or.inl rfl | exact Or.inr rfl)) (tg_name) (tgo_name (by decide)) ?_ ?_
        · exact si_bor (pv 0)
        · exact blkOk_by (N := ["_law_lines_here", "_law_wide", "_law_cell", "_law_mark", "_law_way", "_law_wrong_here", "_law_at", "_law_bad", "_law_line", "_law_j", "_law_k"]) (sc := defScope (top 31)) (own := [("_law_line", 8)]) (by decide +kernel)
        · intro _ _ _ _ _
          exact sts_nil
        · intro _ _ _ _ _
          refine SN.toE ?_
          refine sx_callTy pnM call_list_of cs_list (by rfl) T.n_list (by decide +kernel) ?_
          refine sa_b ?_ ?_
          · exact sb_v (pv 8)
          · exact sa_nil
      · refine ss_cons ?_ ?_
        · refine ss_set (i := 6) nd (by rfl) (Or.inl rfl) ?_
          refine se_mod ?_ ?_
          · refine SE.toB ?_
            refine se_div ?_ ?_
            · exact sb_v (pv 2)
            · refine SE.toB ?_
              exact se_int
          · refine SE.toB ?_
            refine se_add ?_ ?_
            · refine SE.toB ?_
              refine sx_callB pfM call_len cs_len (by rfl) T.n_len (by decide +kernel) ?_
              refine sa_b ?_ ?_
              · exact sb_v (pv 0)
              · exact sa_nil
            · refine SE.toB ?_
              exact se_int
        · refine ss_cons ?_ ?_
          · refine ss_if ?_ ?_ ?_
            · refine st_eq hr.units ?_ ?_
              · exact sb_v (pv 4)
              · refine SE.toB ?_
                exact se_int
            · refine ss_cons ?_ ?_
              · refine ss_set (i := 7) nd (by rfl) (Or.inl rfl) ?_
                refine se_ix ?_ ?_
                · refine SE.toB ?_
                  refine SN.toE ?_
                  refine sn_lst (bm := [false, false, false, false, false, false, false, false, false, false]) ?_
                  refine sa_f ?_ ?_
                  · exact se_str
                  · refine sa_f ?_ ?_
                    · exact se_str
                    · refine sa_f ?_ ?_
                      · exact se_str
                      · refine sa_f ?_ ?_
                        · exact se_non
                        · refine sa_f ?_ ?_
                          · exact se_int
                          · refine sa_f ?_ ?_
                            · exact se_bl
                            · refine sa_f ?_ ?_
                              · refine SN.toE ?_
                                refine sn_lst (bm := [false]) ?_
                                refine sa_f ?_ ?_
                                · exact se_v (pv 3)
                                · exact sa_nil
                              · refine sa_f ?_ ?_
                                · exact se_str
                                · refine sa_f ?_ ?_
                                  · exact se_str
                                  · refine sa_f ?_ ?_
                                    · exact se_str
                                    · exact sa_nil
                · refine SE.toB ?_
                  refine se_mod ?_ ?_
                  · refine SE.toB ?_
                    refine se_div ?_ ?_
                    · exact sb_v (pv 2)
                    · refine SE.toB ?_
                      exact se_int
                  · refine SE.toB ?_
                    exact se_int
              · refine ss_cons ?_ ?_
                · refine ss_setLcN (own := [("_law_k", 10)]) rfl nd (i := 8) rfl rfl (sw_true rfl rfl rfl (by decide +kernel)) ?_ ?_ (fun _ _ _ _ _ => pg_name (i := 10) nd (by rfl) (by first | exact Or.inl rfl | exact Or.inr rfl)) (tg_name) (tgo_name (by decide)) ?_ ?_
                  · refine si_range1 (by rfl) T.n_range ?_
                    refine sa_b ?_ ?_
                    · refine SE.toB ?_
                      refine sx_callB pfM (call_max2 rfl) cs_max2 (by rfl) T.n_max (by decide +kernel) ?_
                      refine sa_b ?_ ?_
                      · refine SE.toB ?_
                        exact se_int
                      · refine sa_b ?_ ?_
                        · exact sb_v (pv 1)
                        · exact sa_nil
                    · exact sa_nil
                  · exact blkOk_by (N := ["_law_lines_here", "_law_wide", "_law_cell", "_law_mark", "_law_way", "_law_wrong_here", "_law_at", "_law_bad", "_law_line", "_law_j", "_law_k"]) (sc := defScope (top 31)) (own := [("_law_k", 10)]) (by decide +kernel)
                  · intro _ _ _ _ _
                    exact sts_nil
                  · intro _ _ _ _ _
                    exact se_v (pv 3)
                · refine ss_cons ?_ ?_
                  · refine ss_setIx (pv 8) ?_ ?_
                    · refine SE.toB ?_
                      refine se_mod ?_ ?_
                      · refine SE.toB ?_
                        refine se_div ?_ ?_
                        · exact sb_v (pv 2)
                        · refine SE.toB ?_
                          exact se_int
                      · refine SE.toB ?_
                        refine sx_callB pfM call_len cs_len (by rfl) T.n_len (by decide +kernel) ?_
                        refine sa_b ?_ ?_
                        · exact sb_v (pv 8)
                        · exact sa_nil
                    · exact se_v (pv 7)
                  · refine ss_cons ?_ ?_
                    · refine ss_if ?_ ?_ ?_
                      · refine st_eq hr.units ?_ ?_
                        · exact sb_v (pv 1)
                        · refine SE.toB ?_
                          exact se_int
                      · refine ss_fz ?_
                        refine ss_cons ?_ ?_
                        · refine ss_retN ?_
                          refine sn_lst (bm := [false]) ?_
                          refine sa_f ?_ ?_
                          · exact se_v (pv 8)
                          · exact sa_nil
                        · exact ss_nil
                      · exact ss_nil
                    · refine ss_fz ?_
                      refine ss_cons ?_ ?_
                      · refine ss_lm PySem.F.slot_list_insert PySem.F.type_list_insert mt_insert lm_insert (pv 5) ?_
                        refine sa_b ?_ ?_
                        · exact sb_v (pv 6)
                        · refine sa_f ?_ ?_
                          · exact se_v (pv 8)
                          · exact sa_nil
                      · refine ss_cons ?_ ?_
                        · refine ss_retN ?_
                          refine sn_cut ?_ ?_ ?_
                          · exact sb_v (pv 5)
                          · exact so_no
                          · refine so_at ?_
                            refine SE.toB ?_
                            refine se_add ?_ ?_
                            · refine SE.toB ?_
                              exact se_int
                            · exact sb_v (pv 6)
                        · exact ss_nil
            · exact ss_nil
          · refine ss_cons ?_ ?_
            · refine ss_if ?_ ?_ ?_
              · refine st_w ?_
                refine sw_and ?_ ?_
                · refine st_eq hr.units ?_ ?_
                  · exact sb_v (pv 4)
                  · refine SE.toB ?_
                    exact se_int
                · refine sw_and1 ?_
                  refine st_gt ?_ ?_
                  · refine SE.toB ?_
                    refine sx_callB pfM call_len cs_len (by rfl) T.n_len (by decide +kernel) ?_
                    refine sa_b ?_ ?_
                    · exact sb_v (pv 0)
                    · exact sa_nil
                  · refine SE.toB ?_
                    exact se_int
              · refine ss_cons ?_ ?_
                · refine ss_setIx (pv 5) ?_ ?_
                  · refine SE.toB ?_
                    refine se_mod ?_ ?_
                    · refine SE.toB ?_
                      refine se_div ?_ ?_
                      · exact sb_v (pv 2)
                      · refine SE.toB ?_
                        exact se_int
                    · refine SE.toB ?_
                      refine sx_callB pfM call_len cs_len (by rfl) T.n_len (by decide +kernel) ?_
                      refine sa_b ?_ ?_
                      · exact sb_v (pv 0)
                      · exact sa_nil
                  · refine SN.toE ?_
                    refine sn_lc (own := [("_law_k", 10)]) rfl nd ?_ ?_ (fun _ _ _ _ _ => pg_name (i := 10) nd (by rfl) (by first | exact Or.inl rfl | exact Or.inr rfl)) (tg_name) (tgo_name (by decide)) ?_ ?_
                    · refine si_range1 (by rfl) T.n_range ?_
                      refine sa_b ?_ ?_
                      · refine SE.toB ?_
                        refine se_add ?_ ?_
                        · exact sb_v (pv 1)
                        · refine SE.toB ?_
                          exact se_int
                      · exact sa_nil
                    · exact blkOk_by (N := ["_law_lines_here", "_law_wide", "_law_cell", "_law_mark", "_law_way", "_law_wrong_here", "_law_at", "_law_bad", "_law_line", "_law_j", "_law_k"]) (sc := defScope (top 31)) (own := [("_law_k", 10)]) (by decide +kernel)
                    · intro _ _ _ _ _
                      exact sts_nil
                    · intro _ _ _ _ _
                      exact se_v (pv 3)
                · refine ss_cons ?_ ?_
                  · refine ss_if ?_ ?_ ?_
                    · refine st_w ?_
                      refine sw_or ?_ ?_
                      · refine st_eq hr.units ?_ ?_
                        · refine SE.toB ?_
                          refine sx_callB pfM call_len cs_len (by rfl) T.n_len (by decide +kernel) ?_
                          refine sa_b ?_ ?_
                          · exact sb_v (pv 0)
                          · exact sa_nil
                        · refine SE.toB ?_
                          exact se_int
                      · refine sw_or1 ?_
                        refine st_eq hr.units ?_ ?_
                        · exact sb_v (pv 1)
                        · refine SE.toB ?_
                          exact se_int
                    · refine ss_cons ?_ ?_
                      · refine ss_retN ?_
                        refine sn_lst (bm := [false]) ?_
                        refine sa_f ?_ ?_
                        · refine SN.toE ?_
                          refine sn_lc (own := [("_law_k", 10)]) rfl nd ?_ ?_ (fun _ _ _ _ _ => pg_name (i := 10) nd (by rfl) (by first | exact Or.inl rfl | exact Or.inr rfl)) (tg_name) (tgo_name (by decide)) ?_ ?_
                          · refine si_range1 (by rfl) T.n_range ?_
                            refine sa_b ?_ ?_
                            · refine SE.toB ?_
                              exact se_int
                            · exact sa_nil
                          · exact blkOk_by (N := ["_law_lines_here", "_law_wide", "_law_cell", "_law_mark", "_law_way", "_law_wrong_here", "_law_at", "_law_bad", "_law_line", "_law_j", "_law_k"]) (sc := defScope (top 31)) (own := [("_law_k", 10)]) (by decide +kernel)
                          · intro _ _ _ _ _
                            exact sts_nil
                          · intro _ _ _ _ _
                            exact se_v (pv 3)
                        · exact sa_nil
                      · exact ss_nil
                    · exact ss_nil
                  · refine ss_cons ?_ ?_
                    · exact ss_retV (pv 5)
                    · exact ss_nil
              · exact ss_nil
            · refine ss_cons ?_ ?_
              · refine ss_retN ?_
                refine sn_lc (own := [("_law_j", 9)]) rfl nd ?_ ?_ (fun _ _ _ _ _ => pg_name (i := 9) nd (by rfl) (by first | exact Or.inl rfl | exact Or.inr rfl)) (tg_name) (tgo_name (by decide)) ?_ ?_
                · refine si_range1 (by rfl) T.n_range ?_
                  refine sa_b ?_ ?_
                  · refine SE.toB ?_
                    exact se_int
                  · exact sa_nil
                · exact blkOk_by (N := ["_law_lines_here", "_law_wide", "_law_cell", "_law_mark", "_law_way", "_law_wrong_here", "_law_at", "_law_bad", "_law_line", "_law_j", "_law_k"]) (sc := defScope (top 31)) (own := [("_law_j", 9)]) (by decide +kernel)
                · intro _ _ _ _ _
                  exact sts_nil
                · intro _ _ _ _ _
                  refine SN.toE ?_
                  refine sn_lc (own := [("_law_k", 10)]) rfl nd ?_ (blkOk_in (N := ["_law_lines_here", "_law_wide", "_law_cell", "_law_mark", "_law_way", "_law_wrong_here", "_law_at", "_law_bad", "_law_line", "_law_j", "_law_k"]) (sc := defScope (top 31)) (own := [("_law_k", 10)]) rfl rfl (by decide +kernel)) (fun _ _ _ _ _ => pg_name (i := 10) nd (by rfl) (by first | exact Or.inl rfl | exact Or.inr rfl)) (tg_name) (tgo_name (by decide)) ?_ ?_
                  · refine si_range1 (by rfl) T.n_range ?_
                    refine sa_b ?_ ?_
                    · refine SE.toB ?_
                      refine sx_callB pfM (call_min2 rfl) cs_min2 (by rfl) T.n_min (by decide +kernel) ?_
                      refine sa_b ?_ ?_
                      · exact sb_v (pv 1)
                      · refine sa_b ?_ ?_
                        · refine SE.toB ?_
                          exact se_int
                        · exact sa_nil
                    · exact sa_nil
                  · intro _ _ _ _ _
                    exact sts_nil
                  · intro _ _ _ _ _
                    exact se_v (pv 3)
              · exact ss_nil
theorem mtok_form {X : Cx} {cl : ClsP} (T : Fs X.prog X.w X.K X.mg cl) (hr : Room 1 X.A) : MtOk X cl "form" [] mt_form := by
  intro c fn h
  unfold mt_form at h
  split at h
  · rename_i e; subst e; cases h; exact ⟨_, _, 1, _, T.cls_Table, T.me_Table_form, ok_p_Table_form T, hr.mono (by decide), T.b_p_Table_form⟩
  cases h
theorem mtok_many {X : Cx} {cl : ClsP} (T : Fs X.prog X.w X.K X.mg cl) (hr : Room 1 X.A) : MtOk X cl "many" [] mt_many := by
  intro c fn h
  unfold mt_many at h
  split at h
  · rename_i e; subst e; cases h; exact ⟨_, _, 1, _, T.cls_Table, T.me_Table_many, ok_p_Table_many T, hr.mono (by decide), T.b_p_Table_many⟩
  cases h
theorem mtok_spots {X : Cx} {cl : ClsP} (T : Fs X.prog X.w X.K X.mg cl) (hr : Room 1 X.A) : MtOk X cl "spots" [] mt_spots := by
  intro c fn h
  unfold mt_spots at h
  split at h
  · rename_i e; subst e; cases h; exact ⟨_, _, 1, _, T.cls_Table, T.me_Table_spots, ok_p_Table_spots T, hr.mono (by decide), T.b_p_Table_spots⟩
  cases h
theorem sc_l_holds : FnScope ["_law_one", "_law_lines_here", "_law_wide", "_law_spots", "_law_line", "_law_found", "_law_told", "_law_form"] ["_law_one", "_law_lines_here"] (defScope (top 32)) := ⟨rfl, rfl, rfl, by decide +kernel, rfl, by decide +kernel, by decide +kernel⟩
theorem ok_l_holds {P : Program} {w : World} {K : PySem.W.Frag} {mg : Str → Option Value} {base : Heap} {cl : ClsP} (T : Fs P w K mg cl) : FnOk P w K mg base (L2.CX P w) 2 T.a_l_holds T.d_l_holds ["_law_one", "_law_lines_here"] (spOf K cl [true, true] m_l_holds) := by
  have nd := sc_l_holds.nd
  refine fn_ok (k := 6) (body := c_l_holds) T.F_l_holds sc_l_holds rfl rfl fun cdv A outer s H E hr tk => ?_
  refine ss_cons ?_ ?_
  · refine ss_set (i := 2) nd (by rfl) (Or.inl rfl) ?_
    exact se_int
  · refine ss_cons ?_ ?_
    · refine ss_if ?_ ?_ ?_
      · refine st_gt ?_ ?_
        · refine SE.toB ?_
          refine sx_callB pfM call_len cs_len (by rfl) T.n_len (by decide +kernel) ?_
          refine sa_b ?_ ?_
          · exact sb_v (pv 1)
          · exact sa_nil
        · refine SE.toB ?_
          exact se_int
      · refine ss_cons ?_ ?_
        · refine ss_set (i := 2) nd (by rfl) (Or.inl rfl) ?_
          refine sx_callB pfM call_len cs_len (by rfl) T.n_len (by decide +kernel) ?_
          refine sa_b ?_ ?_
          · refine SE.toB ?_
            refine se_ix ?_ ?_
            · exact sb_v (pv 1)
            · refine SE.toB ?_
              exact se_int
          · exact sa_nil
        · refine ss_wipe ?_
          exact ss_nil
      · refine ss_wipe ?_
        exact ss_nil
    · refine ss_cons ?_ ?_
      · refine ss_set (i := 3) nd (by rfl) (Or.inl rfl) ?_
        refine SN.toE ?_
        refine sn_lst (bm := []) ?_
        exact sa_nil
      · refine ss_wipe ?_
        refine ss_cons ?_ ?_
        · refine ss_for (by exact passes_of rfl) (by rfl) ?_ (pg_name (i := 4) nd (by rfl) (by first | exact Or.inl rfl | exact Or.inr rfl)) (tg_name) ?_
          · exact si_bor (pv 1)
          · refine ss_cons ?_ ?_
            · refine ss_set (i := 3) nd (by rfl) (Or.inl rfl) ?_
              refine se_add ?_ ?_
              · exact sb_v (pv 3)
              · exact sb_v (pv 4)
            · refine ss_wipe ?_
              exact ss_nil
        · refine ss_cons ?_ ?_
          · refine ss_set (i := 5) nd (by rfl) (Or.inl rfl) ?_
            refine se_meth0 (mtok_many T (hr.mono (by decide))) ?_ tk
            exact sb_v (pv 0)
          · refine ss_cons ?_ ?_
            · refine ss_if ?_ ?_ ?_
              · refine st_w ?_
                refine sw_or ?_ ?_
                · refine st_not ?_
                  refine st_val ?_ (fun _ => rfl)
                  refine SE.toB ?_
                  refine se_isO (sub_ok T) (by rfl) T.n_isinstance (by decide +kernel) ?_ (by rfl) T.gc_Thing
                  exact sb_v (pv 0)
                · refine sw_or ?_ ?_
                  · refine st_not ?_
                    refine st_val ?_ (fun _ => rfl)
                    refine SE.toB ?_
                    refine se_call (ok_l_whole T) (hr.mono (by decide)) (by rfl) T.g_l_whole T.F_l_whole.kp T.b_l_whole tk ?_
                    refine sa_b ?_ ?_
                    · exact sb_v (pv 5)
                    · exact sa_nil
                  · refine sw_or1 ?_
                    refine st_ne hr.units ?_ ?_
                    · exact sb_v (pv 5)
                    · refine SE.toB ?_
                      refine se_add ?_ ?_
                      · refine SE.toB ?_
                        refine sx_callB pfM call_len cs_len (by rfl) T.n_len (by decide +kernel) ?_
                        refine sa_b ?_ ?_
                        · exact sb_v (pv 1)
                        · exact sa_nil
                      · exact sb_v (pv 2)
              · refine ss_cons ?_ ?_
                · refine ss_ret ?_
                  exact se_bl
                · exact ss_nil
              · exact ss_nil
            · refine ss_cons ?_ ?_
              · refine ss_setN (i := 6) nd (by rfl) (Or.inl rfl) ?_
                refine sn_meth0 (mtok_spots T (hr.mono (by decide))) ?_ tk
                exact sb_v (pv 0)
              · refine ss_cons ?_ ?_
                · refine ss_if ?_ ?_ ?_
                  · refine st_w ?_
                    refine sw_or ?_ ?_
                    · refine st_not ?_
                      refine st_val ?_ (fun _ => rfl)
                      refine SE.toB ?_
                      refine se_isT (by decide) (by rfl) T.n_isinstance (by decide +kernel) ?_ (by rfl) T.n_list (by decide +kernel)
                      exact sb_v (pv 6)
                    · refine sw_or1 ?_
                      refine st_ne hr.units ?_ ?_
                      · exact sb_v (pv 6)
                      · exact sb_v (pv 3)
                  · refine ss_cons ?_ ?_
                    · refine ss_ret ?_
                      exact se_bl
                    · exact ss_nil
                  · exact ss_nil
                · refine ss_cons ?_ ?_
                  · refine ss_lm PySem.F.slot_list_append PySem.F.type_list_append mt_append lm_append (pv 6) ?_
                    refine sa_f ?_ ?_
                    · exact se_str
                    · exact sa_nil
                  · refine ss_cons ?_ ?_
                    · refine ss_set (i := 7) nd (by rfl) (Or.inl rfl) ?_
                      refine se_meth0 (mtok_form T (hr.mono (by decide))) ?_ tk
                      exact sb_v (pv 0)
                    · refine ss_cons ?_ ?_
                      · refine ss_if ?_ ?_ ?_
                        · refine st_w ?_
                          refine sw_or ?_ ?_
                          · refine st_not ?_
                            refine st_val ?_ (fun _ => rfl)
                            refine SE.toB ?_
                            refine se_isT (by decide) (by rfl) T.n_isinstance (by decide +kernel) ?_ (by rfl) T.n_tuple (by decide +kernel)
                            exact sb_v (pv 7)
                          · refine sw_or ?_ ?_
                            · refine st_ne hr.units ?_ ?_
                              · refine SE.toB ?_
                                refine sx_callB pfM call_len cs_len (by rfl) T.n_len (by decide +kernel) ?_
                                refine sa_b ?_ ?_
                                · exact sb_v (pv 7)
                                · exact sa_nil
                              · refine SE.toB ?_
                                exact se_int
                            · refine sw_or1 ?_
                              refine st_not ?_
                              refine st_val ?_ (fun _ => rfl)
                              refine SE.toB ?_
                              refine se_call (ok_l_whole T) (hr.mono (by decide)) (by rfl) T.g_l_whole T.F_l_whole.kp T.b_l_whole tk ?_
                              refine sa_b ?_ ?_
                              · refine SE.toB ?_
                                refine se_ix ?_ ?_
                                · exact sb_v (pv 7)
                                · refine SE.toB ?_
                                  exact se_int
                              · exact sa_nil
                        · refine ss_cons ?_ ?_
                          · refine ss_ret ?_
                            exact se_bl
                          · exact ss_nil
                        · exact ss_nil
                      · refine ss_cons ?_ ?_
                        · refine ss_ret ?_
                          refine se_and ?_ ?_
                          · refine SE.toB ?_
                            refine se_eq hr.units ?_ ?_
                            · exact sb_v (pv 7)
                            · refine SE.toB ?_
                              refine se_tup (bm := [false, false, false]) ?_
                              refine sa_f ?_ ?_
                              · exact se_str
                              · refine sa_f ?_ ?_
                                · exact se_v (pv 2)
                                · refine sa_f ?_ ?_
                                  · refine sx_callTy pfM call_tuple_of cs_tuple (by rfl) T.n_tuple (by decide +kernel) ?_
                                    refine sa_b ?_ ?_
                                    · refine SE.toB ?_
                                      refine SN.toE ?_
                                      refine sn_lc (own := [("_law_line", 4)]) rfl nd ?_ ?_ (fun _ _ _ _ _ => pg_name (i := 4) nd (by rfl) (by first | exact Or.inl rfl | exact Or.inr rfl)) (tg_name) (tgo_name (by decide)) ?_ ?_
                                      · exact si_bor (pv 1)
                                      · exact blkOk_by (N := ["_law_one", "_law_lines_here", "_law_wide", "_law_spots", "_law_line", "_law_found", "_law_told", "_law_form"]) (sc := defScope (top 32)) (own := [("_law_line", 4)]) (by decide +kernel)
                                      · intro _ _ _ _ _
                                        exact sts_nil
                                      · intro _ _ _ _ _
                                        refine sx_callTy pfM call_tuple_of cs_tuple (by rfl) T.n_tuple (by decide +kernel) ?_
                                        refine sa_b ?_ ?_
                                        · exact sb_v (pv 4)
                                        · exact sa_nil
                                    · exact sa_nil
                                  · exact sa_nil
                          · refine se_one ?_
                            refine se_eq hr.units ?_ ?_
                            · refine SE.toB ?_
                              refine se_meth0 (mtok_spots T (hr.mono (by decide))) ?_ tk
                              exact sb_v (pv 0)
                            · exact sb_v (pv 3)
                        · exact ss_nil
theorem sc_l_lines_by : FnScope ["_law_script", "_law_marks_here", "_law_seed", "_law_wide", "_law_k"] ["_law_script", "_law_marks_here"] (defScope (top 33)) := ⟨rfl, rfl, rfl, by decide +kernel, rfl, by decide +kernel, by decide +kernel⟩
theorem ok_l_lines_by {P : Program} {w : World} {K : PySem.W.Frag} {mg : Str → Option Value} {base : Heap} {cl : ClsP} (T : Fs P w K mg cl) : FnOk P w K mg base (L2.CX P w) 3 T.a_l_lines_by T.d_l_lines_by ["_law_script", "_law_marks_here"] (spOf K cl [true, true] m_l_lines_by) := by
  have nd := sc_l_lines_by.nd
  refine fn_ok (k := 3) (body := c_l_lines_by) T.F_l_lines_by sc_l_lines_by rfl rfl fun cdv A outer s H E hr tk => ?_
  refine ss_cons ?_ ?_
  · refine ss_set (i := 2) nd (by rfl) (Or.inr rfl) ?_
    refine se_call (ok_l_cell_at T) (hr.mono (by decide)) (by rfl) T.g_l_cell_at T.F_l_cell_at.kp T.b_l_cell_at tk ?_
    refine sa_b ?_ ?_
    · exact sb_v (pv 0)
    · refine sa_b ?_ ?_
      · refine SE.toB ?_
        exact se_int
      · exact sa_nil
  · refine ss_cons ?_ ?_
    · refine ss_set (i := 3) nd (by rfl) (Or.inl rfl) ?_
      refine se_mod ?_ ?_
      · refine SE.toB ?_
        refine se_call (ok_l_cell_at T) (hr.mono (by decide)) (by rfl) T.g_l_cell_at T.F_l_cell_at.kp T.b_l_cell_at tk ?_
        refine sa_b ?_ ?_
        · exact sb_v (pv 0)
        · refine sa_b ?_ ?_
          · refine SE.toB ?_
            exact se_int
          · exact sa_nil
      · refine SE.toB ?_
        exact se_int
    · refine ss_cons ?_ ?_
      · refine ss_if ?_ ?_ ?_
        · refine st_eq hr.units ?_ ?_
          · refine SE.toB ?_
            refine se_mod ?_ ?_
            · exact sb_v (pv 2)
            · refine SE.toB ?_
              exact se_int
          · refine SE.toB ?_
            exact se_int
        · refine ss_cons ?_ ?_
          · refine ss_set (i := 3) nd (by rfl) (Or.inl rfl) ?_
            refine se_mod ?_ ?_
            · refine SE.toB ?_
              refine se_div ?_ ?_
              · exact sb_v (pv 2)
              · refine SE.toB ?_
                exact se_int
            · refine SE.toB ?_
              exact se_int
          · refine ss_cons ?_ ?_
            · refine ss_retN ?_
              refine sn_call (ok_l_lines T) (hr.mono (by decide)) (by rfl) T.g_l_lines T.F_l_lines.kp T.b_l_lines tk ?_
              refine sa_b ?_ ?_
              · refine SE.toB ?_
                refine SN.toE ?_
                refine sn_lc (own := [("_law_k", 4)]) rfl nd ?_ ?_ (fun _ _ _ _ _ => pg_name (i := 4) nd (by rfl) (by first | exact Or.inl rfl | exact Or.inr rfl)) (tg_name) (tgo_name (by decide)) ?_ ?_
                · refine si_range1 (by rfl) T.n_range ?_
                  refine sa_b ?_ ?_
                  · refine SE.toB ?_
                    refine se_mul ?_ ?_
                    · exact sb_v (pv 3)
                    · refine SE.toB ?_
                      refine se_mod ?_ ?_
                      · refine SE.toB ?_
                        refine se_div ?_ ?_
                        · exact sb_v (pv 2)
                        · refine SE.toB ?_
                          exact se_int
                      · refine SE.toB ?_
                        exact se_int
                  · exact sa_nil
                · exact blkOk_by (N := ["_law_script", "_law_marks_here", "_law_seed", "_law_wide", "_law_k"]) (sc := defScope (top 33)) (own := [("_law_k", 4)]) (by decide +kernel)
                · intro _ _ _ _ _
                  exact sts_nil
                · intro _ _ _ _ _
                  refine se_call (ok_l_mix T) (hr.mono (by decide)) (by rfl) T.g_l_mix T.F_l_mix.kp T.b_l_mix takes0 ?_
                  refine sa_b ?_ ?_
                  · refine SE.toB ?_
                    refine se_div ?_ ?_
                    · exact sb_v (pv 2)
                    · refine SE.toB ?_
                      exact se_int
                  · refine sa_b ?_ ?_
                    · exact sb_v (pv 4)
                    · exact sa_nil
              · refine sa_b ?_ ?_
                · exact sb_v (pv 1)
                · refine sa_b ?_ ?_
                  · exact sb_v (pv 3)
                  · exact sa_nil
            · exact ss_nil
        · exact ss_nil
      · refine ss_cons ?_ ?_
        · refine ss_if ?_ ?_ ?_
          · refine st_eq hr.units ?_ ?_
            · exact sb_v (pv 3)
            · refine SE.toB ?_
              exact se_int
          · refine ss_cons ?_ ?_
            · refine ss_retN ?_
              refine sn_lc (own := [("_law_k", 4)]) rfl nd ?_ ?_ (fun _ _ _ _ _ => pg_name (i := 4) nd (by rfl) (by first | exact Or.inl rfl | exact Or.inr rfl)) (tg_name) (tgo_name (by decide)) ?_ ?_
              · refine si_range1 (by rfl) T.n_range ?_
                refine sa_b ?_ ?_
                · refine SE.toB ?_
                  refine se_mod ?_ ?_
                  · refine SE.toB ?_
                    refine se_div ?_ ?_
                    · refine SE.toB ?_
                      refine se_call (ok_l_cell_at T) (hr.mono (by decide)) (by rfl) T.g_l_cell_at T.F_l_cell_at.kp T.b_l_cell_at tk ?_
                      refine sa_b ?_ ?_
                      · exact sb_v (pv 0)
                      · refine sa_b ?_ ?_
                        · refine SE.toB ?_
                          exact se_int
                        · exact sa_nil
                    · refine SE.toB ?_
                      exact se_int
                  · refine SE.toB ?_
                    exact se_int
                · exact sa_nil
              · exact blkOk_by (N := ["_law_script", "_law_marks_here", "_law_seed", "_law_wide", "_law_k"]) (sc := defScope (top 33)) (own := [("_law_k", 4)]) (by decide +kernel)
              · intro _ _ _ _ _
                exact sts_nil
              · intro _ _ _ _ _
                refine SN.toE ?_
                refine sn_lst (bm := []) ?_
                exact sa_nil
            · exact ss_nil
          · exact ss_nil
        · refine ss_cons ?_ ?_
          · refine ss_retN ?_
            refine sn_call (ok_l_lines T) (hr.mono (by decide)) (by rfl) T.g_l_lines T.F_l_lines.kp T.b_l_lines tk ?_
            refine sa_b ?_ ?_
            · refine SE.toB ?_
              refine se_cut ?_ ?_ ?_
              · exact sb_v (pv 0)
              · refine so_at ?_
                refine SE.toB ?_
                exact se_int
              · refine so_at ?_
                refine SE.toB ?_
                exact se_int
            · refine sa_b ?_ ?_
              · exact sb_v (pv 1)
              · refine sa_b ?_ ?_
                · exact sb_v (pv 3)
                · exact sa_nil
          · exact ss_nil
theorem sc_p_law : FnScope ["_law_script", "_law_marks_here", "_law_lines_here", "_law_wide", "_law_handed", "_law_one", "_law_line"] ["_law_script"] (defScope (top 34)) := ⟨rfl, rfl, rfl, by decide +kernel, rfl, by decide +kernel, by decide +kernel⟩
theorem ok_p_law {P : Program} {w : World} {K : PySem.W.Frag} {mg : Str → Option Value} {base : Heap} {cl : ClsP} (T : Fs P w K mg cl) : FnOk P w K mg base (L2.CX P w) 7 T.a_p_law T.d_p_law ["_law_script"] (spOf K cl [true] m_p_law) := by
  have nd := sc_p_law.nd
  refine fn_ok (k := 6) (body := c_p_law) T.F_p_law sc_p_law rfl rfl fun cdv A outer s H E hr tk => ?_
  refine ss_cons ?_ ?_
  · refine ss_set (i := 1) nd (by rfl) (Or.inl rfl) ?_
    refine se_call (ok_l_marks T) (hr.mono (by decide)) (by rfl) T.g_l_marks T.F_l_marks.kp T.b_l_marks tk ?_
    refine sa_b ?_ ?_
    · refine SE.toB ?_
      refine se_call (ok_l_cell_at T) (hr.mono (by decide)) (by rfl) T.g_l_cell_at T.F_l_cell_at.kp T.b_l_cell_at tk ?_
      refine sa_b ?_ ?_
      · exact sb_v (pv 0)
      · refine sa_b ?_ ?_
        · refine SE.toB ?_
          exact se_int
        · exact sa_nil
    · refine sa_b ?_ ?_
      · refine SE.toB ?_
        refine se_call (ok_l_how_many T) (hr.mono (by decide)) (by rfl) T.g_l_how_many T.F_l_how_many.kp T.b_l_how_many tk ?_
        refine sa_b ?_ ?_
        · refine SE.toB ?_
          refine se_div ?_ ?_
          · refine SE.toB ?_
            refine se_call (ok_l_cell_at T) (hr.mono (by decide)) (by rfl) T.g_l_cell_at T.F_l_cell_at.kp T.b_l_cell_at tk ?_
            refine sa_b ?_ ?_
            · exact sb_v (pv 0)
            · refine sa_b ?_ ?_
              · refine SE.toB ?_
                exact se_int
              · exact sa_nil
          · refine SE.toB ?_
            exact se_int
        · exact sa_nil
      · exact sa_nil
  · refine ss_cons ?_ ?_
    · refine ss_set (i := 2) nd (by rfl) (Or.inl rfl) ?_
      refine se_call (ok_l_lines_by T) (hr.mono (by decide)) (by rfl) T.g_l_lines_by T.F_l_lines_by.kp T.b_l_lines_by tk ?_
      refine sa_b ?_ ?_
      · exact sb_v (pv 0)
      · refine sa_b ?_ ?_
        · exact sb_v (pv 1)
        · exact sa_nil
    · refine ss_cons ?_ ?_
      · refine ss_set (i := 3) nd (by rfl) (Or.inl rfl) ?_
        exact se_int
      · refine ss_cons ?_ ?_
        · refine ss_if ?_ ?_ ?_
          · refine st_gt ?_ ?_
            · refine SE.toB ?_
              refine sx_callB pfM call_len cs_len (by rfl) T.n_len (by decide +kernel) ?_
              refine sa_b ?_ ?_
              · exact sb_v (pv 2)
              · exact sa_nil
            · refine SE.toB ?_
              exact se_int
          · refine ss_cons ?_ ?_
            · refine ss_set (i := 3) nd (by rfl) (Or.inl rfl) ?_
              refine sx_callB pfM call_len cs_len (by rfl) T.n_len (by decide +kernel) ?_
              refine sa_b ?_ ?_
              · refine SE.toB ?_
                refine se_ix ?_ ?_
                · exact sb_v (pv 2)
                · refine SE.toB ?_
                  exact se_int
              · exact sa_nil
            · refine ss_wipe ?_
              exact ss_nil
          · refine ss_wipe ?_
            exact ss_nil
        · refine ss_cons ?_ ?_
          · refine ss_if ?_ ?_ ?_
            · refine st_eq hr.units ?_ ?_
              · refine SE.toB ?_
                refine se_mod ?_ ?_
                · refine SE.toB ?_
                  refine se_call (ok_l_cell_at T) (hr.mono (by decide)) (by rfl) T.g_l_cell_at T.F_l_cell_at.kp T.b_l_cell_at tk ?_
                  refine sa_b ?_ ?_
                  · exact sb_v (pv 0)
                  · refine sa_b ?_ ?_
                    · refine SE.toB ?_
                      exact se_int
                    · exact sa_nil
                · refine SE.toB ?_
                  exact se_int
              · refine SE.toB ?_
                exact se_int
            · refine ss_cons ?_ ?_
              · refine ss_if ?_ ?_ ?_
                · refine st_not ?_
                  refine st_val ?_ (fun _ => rfl)
                  refine SE.toB ?_
                  refine se_call (ok_l_refused T) (hr.mono (by decide)) (by rfl) T.g_l_refused T.F_l_refused.kp T.b_l_refused tk ?_
                  refine sa_b ?_ ?_
                  · refine SE.toB ?_
                    refine se_call (ok_l_wrong T) (hr.mono (by decide)) (by rfl) T.g_l_wrong T.F_l_wrong.kp T.b_l_wrong tk ?_
                    refine sa_b ?_ ?_
                    · exact sb_v (pv 2)
                    · refine sa_b ?_ ?_
                      · exact sb_v (pv 3)
                      · refine sa_b ?_ ?_
                        · refine SE.toB ?_
                          refine se_call (ok_l_cell_at T) (hr.mono (by decide)) (by rfl) T.g_l_cell_at T.F_l_cell_at.kp T.b_l_cell_at tk ?_
                          refine sa_b ?_ ?_
                          · exact sb_v (pv 0)
                          · refine sa_b ?_ ?_
                            · refine SE.toB ?_
                              exact se_int
                            · exact sa_nil
                        · refine sa_f ?_ ?_
                          · refine se_ix ?_ ?_
                            · exact sb_v (pv 1)
                            · refine SE.toB ?_
                              exact se_int
                          · exact sa_nil
                  · exact sa_nil
                · refine ss_cons ?_ ?_
                  · refine ss_ret ?_
                    exact se_bl
                  · exact ss_nil
                · exact ss_nil
              · refine ss_wipe ?_
                exact ss_nil
            · refine ss_wipe ?_
              exact ss_nil
          · refine ss_cons ?_ ?_
            · refine ss_setNLc (own := [("_law_line", 6)]) rfl nd (i := 4) rfl rfl (sw_true rfl rfl rfl (by decide +kernel)) ?_ ?_ (fun _ _ _ _ _ => pg_name (i := 6) nd (by rfl) (by first | exact Or.inl rfl | exact Or.inr rfl)) (tg_name) (tgo_name (by decide)) ?_ ?_
              · refine si_list ?_
                exact se_v (pv 2)
              · exact blkOk_by (N := ["_law_script", "_law_marks_here", "_law_lines_here", "_law_wide", "_law_handed", "_law_one", "_law_line"]) (sc := defScope (top 34)) (own := [("_law_line", 6)]) (by decide +kernel)
              · intro _ _ _ _ _
                exact sts_nil
              · intro _ _ _ _ _
                refine sx_callTy pnM call_list_of cs_list (by rfl) T.n_list (by decide +kernel) ?_
                refine sa_b ?_ ?_
                · exact sb_v (pv 6)
                · exact sa_nil
            · refine ss_cons ?_ ?_
              · refine ss_set (i := 5) nd (by rfl) (Or.inl rfl) ?_
                refine SN.toE ?_
                refine sn_make T.mk_Table (ok_p_Table_init T 12) (hr.mono (by decide)) (by rfl) T.gc_Table T.b_p_Table_init tk ?_
                refine sa_b ?_ ?_
                · exact sb_v (pv 4)
                · exact sa_nil
              · refine ss_cons ?_ ?_
                · refine ss_if ?_ ?_ ?_
                  · refine st_lend 4 ?_
                    refine st_w ?_
                    refine sw_or ?_ ?_
                    · refine st_ne hr.units ?_ ?_
                      · exact sb_v (pv 4)
                      · exact sb_v (pv 2)
                    · refine sw_or1 ?_
                      refine st_not ?_
                      refine st_val ?_ (fun _ => rfl)
                      refine SE.toB ?_
                      refine se_call (ok_l_holds T) (hr.mono (by decide)) (by rfl) T.g_l_holds T.F_l_holds.kp T.b_l_holds tk ?_
                      refine sa_b ?_ ?_
                      · exact sb_v (pv 5)
                      · refine sa_b ?_ ?_
                        · exact sb_v (pv 2)
                        · exact sa_nil
                  · refine ss_cons ?_ ?_
                    · refine ss_ret ?_
                      exact se_bl
                    · exact ss_nil
                  · exact ss_nil
                · refine ss_cons ?_ ?_
                  · refine ss_forNA (by exact passes_of rfl) (by rfl) (by decide) (pv 4) (pg_name (i := 6) nd (by rfl) (by first | exact Or.inl rfl | exact Or.inr rfl)) (pv 6) ?_
                    refine se_ix ?_ ?_
                    · exact sb_v (pv 1)
                    · refine SE.toB ?_
                      exact se_int
                  · refine ss_cons ?_ ?_
                    · refine ss_napp (pv 4) ?_
                      refine sn_lst (bm := []) ?_
                      exact sa_nil
                    · refine ss_cons ?_ ?_
                      · refine ss_ret ?_
                        refine se_call (ok_l_holds T) (hr.mono (by decide)) (by rfl) T.g_l_holds T.F_l_holds.kp T.b_l_holds tk ?_
                        refine sa_b ?_ ?_
                        · exact sb_v (pv 5)
                        · refine sa_b ?_ ?_
                          · exact sb_v (pv 2)
                          · exact sa_nil
                      · exact ss_nil
theorem all_mk {l : PySem.W.OpenLaw} {w : World} {K : PySem.W.Frag} {h : Heap} {mg : Str → Option Value} {fa : Addr} (X : K.In h) (G : h.Ns mainGlobals mg) (hfa : mg "law" = some (.ref fa))
    {tk_LETTERS : Tok}
    {tk_MOST_LETTERS : Tok}
    {tk_MOST_LINES : Tok}
    {c_ShrinkError : Addr}
    {c_NoThing : Addr}
    {c_NoPlace : Addr}
    {c_NoFault : Addr}
    {c_NoRule : Addr}
    {c_Spent : Addr}
    {c_Healthy : Addr}
    {c_NoText : Addr}
    {c_NoRow : Addr}
    {c_Thing : Addr}
    {c_Table : Addr}
    {a_p_is_mark : Addr} {od_p_is_mark an_p_is_mark : Option Addr} {sl_p_is_mark : Array (Option Value)} {oc_p_is_mark kV_p_is_mark dc_p_is_mark pm_p_is_mark cd_p_is_mark ct_p_is_mark : Value}
    {a_p_are_marks : Addr} {od_p_are_marks an_p_are_marks : Option Addr} {sl_p_are_marks : Array (Option Value)} {oc_p_are_marks kV_p_are_marks dc_p_are_marks pm_p_are_marks cd_p_are_marks ct_p_are_marks : Value}
    {a_p_are_lines : Addr} {od_p_are_lines an_p_are_lines : Option Addr} {sl_p_are_lines : Array (Option Value)} {oc_p_are_lines kV_p_are_lines dc_p_are_lines pm_p_are_lines cd_p_are_lines ct_p_are_lines : Value}
    {a_p_Table_init : Addr} {od_p_Table_init an_p_Table_init : Option Addr} {sl_p_Table_init : Array (Option Value)} {oc_p_Table_init kV_p_Table_init dc_p_Table_init pm_p_Table_init cd_p_Table_init ct_p_Table_init : Value}
    {a_p_Table_many : Addr} {od_p_Table_many an_p_Table_many : Option Addr} {sl_p_Table_many : Array (Option Value)} {oc_p_Table_many kV_p_Table_many dc_p_Table_many pm_p_Table_many cd_p_Table_many ct_p_Table_many : Value}
    {a_p_Table_spots : Addr} {od_p_Table_spots an_p_Table_spots : Option Addr} {sl_p_Table_spots : Array (Option Value)} {oc_p_Table_spots kV_p_Table_spots dc_p_Table_spots pm_p_Table_spots cd_p_Table_spots ct_p_Table_spots : Value}
    {a_p_Table_form : Addr} {od_p_Table_form an_p_Table_form : Option Addr} {sl_p_Table_form : Array (Option Value)} {oc_p_Table_form kV_p_Table_form dc_p_Table_form pm_p_Table_form cd_p_Table_form ct_p_Table_form : Value}
    {a_l_cell_at : Addr} {od_l_cell_at an_l_cell_at : Option Addr} {sl_l_cell_at : Array (Option Value)} {oc_l_cell_at kV_l_cell_at dc_l_cell_at pm_l_cell_at cd_l_cell_at ct_l_cell_at : Value}
    {a_l_mix : Addr} {od_l_mix an_l_mix : Option Addr} {sl_l_mix : Array (Option Value)} {oc_l_mix kV_l_mix dc_l_mix pm_l_mix cd_l_mix ct_l_mix : Value}
    {a_l_whole : Addr} {od_l_whole an_l_whole : Option Addr} {sl_l_whole : Array (Option Value)} {oc_l_whole kV_l_whole dc_l_whole pm_l_whole cd_l_whole ct_l_whole : Value}
    {a_l_how_many : Addr} {od_l_how_many an_l_how_many : Option Addr} {sl_l_how_many : Array (Option Value)} {oc_l_how_many kV_l_how_many dc_l_how_many pm_l_how_many cd_l_how_many ct_l_how_many : Value}
    {a_l_marks : Addr} {od_l_marks an_l_marks : Option Addr} {sl_l_marks : Array (Option Value)} {oc_l_marks kV_l_marks dc_l_marks pm_l_marks cd_l_marks ct_l_marks : Value}
    {a_l_pick : Addr} {od_l_pick an_l_pick : Option Addr} {sl_l_pick : Array (Option Value)} {oc_l_pick kV_l_pick dc_l_pick pm_l_pick cd_l_pick ct_l_pick : Value}
    {a_l_lines : Addr} {od_l_lines an_l_lines : Option Addr} {sl_l_lines : Array (Option Value)} {oc_l_lines kV_l_lines dc_l_lines pm_l_lines cd_l_lines ct_l_lines : Value}
    {a_l_classes : Addr} {od_l_classes an_l_classes : Option Addr} {sl_l_classes : Array (Option Value)} {oc_l_classes kV_l_classes dc_l_classes pm_l_classes cd_l_classes ct_l_classes : Value}
    {a_l_refused : Addr} {od_l_refused an_l_refused : Option Addr} {sl_l_refused : Array (Option Value)} {oc_l_refused kV_l_refused dc_l_refused pm_l_refused cd_l_refused ct_l_refused : Value}
    {a_l_wrong : Addr} {od_l_wrong an_l_wrong : Option Addr} {sl_l_wrong : Array (Option Value)} {oc_l_wrong kV_l_wrong dc_l_wrong pm_l_wrong cd_l_wrong ct_l_wrong : Value}
    {a_l_holds : Addr} {od_l_holds an_l_holds : Option Addr} {sl_l_holds : Array (Option Value)} {oc_l_holds kV_l_holds dc_l_holds pm_l_holds cd_l_holds ct_l_holds : Value}
    {a_l_lines_by : Addr} {od_l_lines_by an_l_lines_by : Option Addr} {sl_l_lines_by : Array (Option Value)} {oc_l_lines_by kV_l_lines_by dc_l_lines_by pm_l_lines_by cd_l_lines_by ct_l_lines_by : Value}
    {a_p_law : Addr} {od_p_law an_p_law : Option Addr} {sl_p_law : Array (Option Value)} {oc_p_law kV_p_law dc_p_law pm_p_law cd_p_law ct_p_law : Value}
    (n_isinstance : PySem.W.nsIn K mainGlobals "isinstance" = some none)
    (n_str : PySem.W.nsIn K mainGlobals "str" = some none)
    (n_len : PySem.W.nsIn K mainGlobals "len" = some none)
    (n_list : PySem.W.nsIn K mainGlobals "list" = some none)
    (n_tuple : PySem.W.nsIn K mainGlobals "tuple" = some none)
    (n_int : PySem.W.nsIn K mainGlobals "int" = some none)
    (n_bool : PySem.W.nsIn K mainGlobals "bool" = some none)
    (n_range : PySem.W.nsIn K mainGlobals "range" = some none)
    (n_max : PySem.W.nsIn K mainGlobals "max" = some none)
    (n_ValueError : PySem.W.nsIn K mainGlobals "ValueError" = some none)
    (n_min : PySem.W.nsIn K mainGlobals "min" = some none)
    (k_LETTERS : PySem.W.nsIn K mainGlobals "LETTERS" = some (some (.str "abcdefghijklmnopqrstuvwxyz" tk_LETTERS)))
    (k_MOST_LETTERS : PySem.W.nsIn K mainGlobals "MOST_LETTERS" = some (some (.int 8 tk_MOST_LETTERS)))
    (k_MOST_LINES : PySem.W.nsIn K mainGlobals "MOST_LINES" = some (some (.int 12 tk_MOST_LINES)))
    (gc_ShrinkError : PySem.W.nsIn K mainGlobals "ShrinkError" = some (some (.ref c_ShrinkError)))
    (gc_NoThing : PySem.W.nsIn K mainGlobals "NoThing" = some (some (.ref c_NoThing)))
    (gc_NoPlace : PySem.W.nsIn K mainGlobals "NoPlace" = some (some (.ref c_NoPlace)))
    (gc_NoFault : PySem.W.nsIn K mainGlobals "NoFault" = some (some (.ref c_NoFault)))
    (gc_NoRule : PySem.W.nsIn K mainGlobals "NoRule" = some (some (.ref c_NoRule)))
    (gc_Spent : PySem.W.nsIn K mainGlobals "Spent" = some (some (.ref c_Spent)))
    (gc_Healthy : PySem.W.nsIn K mainGlobals "Healthy" = some (some (.ref c_Healthy)))
    (gc_NoText : PySem.W.nsIn K mainGlobals "NoText" = some (some (.ref c_NoText)))
    (gc_NoRow : PySem.W.nsIn K mainGlobals "NoRow" = some (some (.ref c_NoRow)))
    (gc_Thing : PySem.W.nsIn K mainGlobals "Thing" = some (some (.ref c_Thing)))
    (gc_Table : PySem.W.nsIn K mainGlobals "Table" = some (some (.ref c_Table)))
    (g_p_is_mark : PySem.W.nsIn K mainGlobals "is_mark" = some (some (.ref a_p_is_mark)))
    (l_p_is_mark : K.lookup a_p_is_mark = some ⟨oc_p_is_mark, od_p_is_mark, .func (PySem.W.fnOf "is_mark" "is_mark" (defArgs (top 14)) (defBody (top 14)) (defScope (top 14)) .none kV_p_is_mark dc_p_is_mark pm_p_is_mark an_p_is_mark cd_p_is_mark ct_p_is_mark), sl_p_is_mark⟩)
    (c_p_is_mark : PySem.W.codeIn K cd_p_is_mark "is_mark" = true)
    (p_p_is_mark : PySem.W.keepIn K (.ref a_p_is_mark) = true)
    (g_p_are_marks : PySem.W.nsIn K mainGlobals "are_marks" = some (some (.ref a_p_are_marks)))
    (l_p_are_marks : K.lookup a_p_are_marks = some ⟨oc_p_are_marks, od_p_are_marks, .func (PySem.W.fnOf "are_marks" "are_marks" (defArgs (top 17)) (defBody (top 17)) (defScope (top 17)) .none kV_p_are_marks dc_p_are_marks pm_p_are_marks an_p_are_marks cd_p_are_marks ct_p_are_marks), sl_p_are_marks⟩)
    (c_p_are_marks : PySem.W.codeIn K cd_p_are_marks "are_marks" = true)
    (p_p_are_marks : PySem.W.keepIn K (.ref a_p_are_marks) = true)
    (g_p_are_lines : PySem.W.nsIn K mainGlobals "are_lines" = some (some (.ref a_p_are_lines)))
    (l_p_are_lines : K.lookup a_p_are_lines = some ⟨oc_p_are_lines, od_p_are_lines, .func (PySem.W.fnOf "are_lines" "are_lines" (defArgs (top 18)) (defBody (top 18)) (defScope (top 18)) .none kV_p_are_lines dc_p_are_lines pm_p_are_lines an_p_are_lines cd_p_are_lines ct_p_are_lines), sl_p_are_lines⟩)
    (c_p_are_lines : PySem.W.codeIn K cd_p_are_lines "are_lines" = true)
    (p_p_are_lines : PySem.W.keepIn K (.ref a_p_are_lines) = true)
    (in_Table : PySem.W.findIn K (.ref c_Table) "__init__" = some (some (.ref a_p_Table_init)))
    (fn_p_Table_init : PySem.W.isFn K (.ref a_p_Table_init) = true)
    (l_p_Table_init : K.lookup a_p_Table_init = some ⟨oc_p_Table_init, od_p_Table_init, .func (PySem.W.fnOf "__init__" "Table.__init__" (defArgs (inClass (top 20) 0)) (defBody (inClass (top 20) 0)) (defScope (inClass (top 20) 0)) .none kV_p_Table_init dc_p_Table_init pm_p_Table_init an_p_Table_init cd_p_Table_init ct_p_Table_init), sl_p_Table_init⟩)
    (c_p_Table_init : PySem.W.codeIn K cd_p_Table_init "Table.__init__" = true)
    (p_p_Table_init : PySem.W.keepIn K (.ref a_p_Table_init) = true)
    (me_Table_many : PySem.W.findIn K (.ref c_Table) "many" = some (some (.ref a_p_Table_many)))
    (fn_p_Table_many : PySem.W.isFn K (.ref a_p_Table_many) = true)
    (l_p_Table_many : K.lookup a_p_Table_many = some ⟨oc_p_Table_many, od_p_Table_many, .func (PySem.W.fnOf "many" "Table.many" (defArgs (inClass (top 20) 1)) (defBody (inClass (top 20) 1)) (defScope (inClass (top 20) 1)) .none kV_p_Table_many dc_p_Table_many pm_p_Table_many an_p_Table_many cd_p_Table_many ct_p_Table_many), sl_p_Table_many⟩)
    (c_p_Table_many : PySem.W.codeIn K cd_p_Table_many "Table.many" = true)
    (p_p_Table_many : PySem.W.keepIn K (.ref a_p_Table_many) = true)
    (me_Table_spots : PySem.W.findIn K (.ref c_Table) "spots" = some (some (.ref a_p_Table_spots)))
    (fn_p_Table_spots : PySem.W.isFn K (.ref a_p_Table_spots) = true)
    (l_p_Table_spots : K.lookup a_p_Table_spots = some ⟨oc_p_Table_spots, od_p_Table_spots, .func (PySem.W.fnOf "spots" "Table.spots" (defArgs (inClass (top 20) 2)) (defBody (inClass (top 20) 2)) (defScope (inClass (top 20) 2)) .none kV_p_Table_spots dc_p_Table_spots pm_p_Table_spots an_p_Table_spots cd_p_Table_spots ct_p_Table_spots), sl_p_Table_spots⟩)
    (c_p_Table_spots : PySem.W.codeIn K cd_p_Table_spots "Table.spots" = true)
    (p_p_Table_spots : PySem.W.keepIn K (.ref a_p_Table_spots) = true)
    (me_Table_form : PySem.W.findIn K (.ref c_Table) "form" = some (some (.ref a_p_Table_form)))
    (fn_p_Table_form : PySem.W.isFn K (.ref a_p_Table_form) = true)
    (l_p_Table_form : K.lookup a_p_Table_form = some ⟨oc_p_Table_form, od_p_Table_form, .func (PySem.W.fnOf "form" "Table.form" (defArgs (inClass (top 20) 4)) (defBody (inClass (top 20) 4)) (defScope (inClass (top 20) 4)) .none kV_p_Table_form dc_p_Table_form pm_p_Table_form an_p_Table_form cd_p_Table_form ct_p_Table_form), sl_p_Table_form⟩)
    (c_p_Table_form : PySem.W.codeIn K cd_p_Table_form "Table.form" = true)
    (p_p_Table_form : PySem.W.keepIn K (.ref a_p_Table_form) = true)
    (g_l_cell_at : PySem.W.nsIn K mainGlobals "_law_cell_at" = some (some (.ref a_l_cell_at)))
    (l_l_cell_at : K.lookup a_l_cell_at = some ⟨oc_l_cell_at, od_l_cell_at, .func (PySem.W.fnOf "_law_cell_at" "_law_cell_at" (defArgs (top 22)) (defBody (top 22)) (defScope (top 22)) .none kV_l_cell_at dc_l_cell_at pm_l_cell_at an_l_cell_at cd_l_cell_at ct_l_cell_at), sl_l_cell_at⟩)
    (c_l_cell_at : PySem.W.codeIn K cd_l_cell_at "_law_cell_at" = true)
    (p_l_cell_at : PySem.W.keepIn K (.ref a_l_cell_at) = true)
    (g_l_mix : PySem.W.nsIn K mainGlobals "_law_mix" = some (some (.ref a_l_mix)))
    (l_l_mix : K.lookup a_l_mix = some ⟨oc_l_mix, od_l_mix, .func (PySem.W.fnOf "_law_mix" "_law_mix" (defArgs (top 23)) (defBody (top 23)) (defScope (top 23)) .none kV_l_mix dc_l_mix pm_l_mix an_l_mix cd_l_mix ct_l_mix), sl_l_mix⟩)
    (c_l_mix : PySem.W.codeIn K cd_l_mix "_law_mix" = true)
    (p_l_mix : PySem.W.keepIn K (.ref a_l_mix) = true)
    (g_l_whole : PySem.W.nsIn K mainGlobals "_law_whole" = some (some (.ref a_l_whole)))
    (l_l_whole : K.lookup a_l_whole = some ⟨oc_l_whole, od_l_whole, .func (PySem.W.fnOf "_law_whole" "_law_whole" (defArgs (top 24)) (defBody (top 24)) (defScope (top 24)) .none kV_l_whole dc_l_whole pm_l_whole an_l_whole cd_l_whole ct_l_whole), sl_l_whole⟩)
    (c_l_whole : PySem.W.codeIn K cd_l_whole "_law_whole" = true)
    (p_l_whole : PySem.W.keepIn K (.ref a_l_whole) = true)
    (g_l_how_many : PySem.W.nsIn K mainGlobals "_law_how_many" = some (some (.ref a_l_how_many)))
    (l_l_how_many : K.lookup a_l_how_many = some ⟨oc_l_how_many, od_l_how_many, .func (PySem.W.fnOf "_law_how_many" "_law_how_many" (defArgs (top 25)) (defBody (top 25)) (defScope (top 25)) .none kV_l_how_many dc_l_how_many pm_l_how_many an_l_how_many cd_l_how_many ct_l_how_many), sl_l_how_many⟩)
    (c_l_how_many : PySem.W.codeIn K cd_l_how_many "_law_how_many" = true)
    (p_l_how_many : PySem.W.keepIn K (.ref a_l_how_many) = true)
    (g_l_marks : PySem.W.nsIn K mainGlobals "_law_marks" = some (some (.ref a_l_marks)))
    (l_l_marks : K.lookup a_l_marks = some ⟨oc_l_marks, od_l_marks, .func (PySem.W.fnOf "_law_marks" "_law_marks" (defArgs (top 26)) (defBody (top 26)) (defScope (top 26)) .none kV_l_marks dc_l_marks pm_l_marks an_l_marks cd_l_marks ct_l_marks), sl_l_marks⟩)
    (c_l_marks : PySem.W.codeIn K cd_l_marks "_law_marks" = true)
    (p_l_marks : PySem.W.keepIn K (.ref a_l_marks) = true)
    (g_l_pick : PySem.W.nsIn K mainGlobals "_law_pick" = some (some (.ref a_l_pick)))
    (l_l_pick : K.lookup a_l_pick = some ⟨oc_l_pick, od_l_pick, .func (PySem.W.fnOf "_law_pick" "_law_pick" (defArgs (top 27)) (defBody (top 27)) (defScope (top 27)) .none kV_l_pick dc_l_pick pm_l_pick an_l_pick cd_l_pick ct_l_pick), sl_l_pick⟩)
    (c_l_pick : PySem.W.codeIn K cd_l_pick "_law_pick" = true)
    (p_l_pick : PySem.W.keepIn K (.ref a_l_pick) = true)
    (g_l_lines : PySem.W.nsIn K mainGlobals "_law_lines" = some (some (.ref a_l_lines)))
    (l_l_lines : K.lookup a_l_lines = some ⟨oc_l_lines, od_l_lines, .func (PySem.W.fnOf "_law_lines" "_law_lines" (defArgs (top 28)) (defBody (top 28)) (defScope (top 28)) .none kV_l_lines dc_l_lines pm_l_lines an_l_lines cd_l_lines ct_l_lines), sl_l_lines⟩)
    (c_l_lines : PySem.W.codeIn K cd_l_lines "_law_lines" = true)
    (p_l_lines : PySem.W.keepIn K (.ref a_l_lines) = true)
    (g_l_classes : PySem.W.nsIn K mainGlobals "_law_classes" = some (some (.ref a_l_classes)))
    (l_l_classes : K.lookup a_l_classes = some ⟨oc_l_classes, od_l_classes, .func (PySem.W.fnOf "_law_classes" "_law_classes" (defArgs (top 29)) (defBody (top 29)) (defScope (top 29)) .none kV_l_classes dc_l_classes pm_l_classes an_l_classes cd_l_classes ct_l_classes), sl_l_classes⟩)
    (c_l_classes : PySem.W.codeIn K cd_l_classes "_law_classes" = true)
    (p_l_classes : PySem.W.keepIn K (.ref a_l_classes) = true)
    (g_l_refused : PySem.W.nsIn K mainGlobals "_law_refused" = some (some (.ref a_l_refused)))
    (l_l_refused : K.lookup a_l_refused = some ⟨oc_l_refused, od_l_refused, .func (PySem.W.fnOf "_law_refused" "_law_refused" (defArgs (top 30)) (defBody (top 30)) (defScope (top 30)) .none kV_l_refused dc_l_refused pm_l_refused an_l_refused cd_l_refused ct_l_refused), sl_l_refused⟩)
    (c_l_refused : PySem.W.codeIn K cd_l_refused "_law_refused" = true)
    (p_l_refused : PySem.W.keepIn K (.ref a_l_refused) = true)
    (g_l_wrong : PySem.W.nsIn K mainGlobals "_law_wrong" = some (some (.ref a_l_wrong)))
    (l_l_wrong : K.lookup a_l_wrong = some ⟨oc_l_wrong, od_l_wrong, .func (PySem.W.fnOf "_law_wrong" "_law_wrong" (defArgs (top 31)) (defBody (top 31)) (defScope (top 31)) .none kV_l_wrong dc_l_wrong pm_l_wrong an_l_wrong cd_l_wrong ct_l_wrong), sl_l_wrong⟩)
    (c_l_wrong : PySem.W.codeIn K cd_l_wrong "_law_wrong" = true)
    (p_l_wrong : PySem.W.keepIn K (.ref a_l_wrong) = true)
    (g_l_holds : PySem.W.nsIn K mainGlobals "_law_holds" = some (some (.ref a_l_holds)))
    (l_l_holds : K.lookup a_l_holds = some ⟨oc_l_holds, od_l_holds, .func (PySem.W.fnOf "_law_holds" "_law_holds" (defArgs (top 32)) (defBody (top 32)) (defScope (top 32)) .none kV_l_holds dc_l_holds pm_l_holds an_l_holds cd_l_holds ct_l_holds), sl_l_holds⟩)
    (c_l_holds : PySem.W.codeIn K cd_l_holds "_law_holds" = true)
    (p_l_holds : PySem.W.keepIn K (.ref a_l_holds) = true)
    (g_l_lines_by : PySem.W.nsIn K mainGlobals "_law_lines_by" = some (some (.ref a_l_lines_by)))
    (l_l_lines_by : K.lookup a_l_lines_by = some ⟨oc_l_lines_by, od_l_lines_by, .func (PySem.W.fnOf "_law_lines_by" "_law_lines_by" (defArgs (top 33)) (defBody (top 33)) (defScope (top 33)) .none kV_l_lines_by dc_l_lines_by pm_l_lines_by an_l_lines_by cd_l_lines_by ct_l_lines_by), sl_l_lines_by⟩)
    (c_l_lines_by : PySem.W.codeIn K cd_l_lines_by "_law_lines_by" = true)
    (p_l_lines_by : PySem.W.keepIn K (.ref a_l_lines_by) = true)
    (g_p_law : PySem.W.nsIn K mainGlobals "law" = some (some (.ref a_p_law)))
    (l_p_law : K.lookup a_p_law = some ⟨oc_p_law, od_p_law, .func (PySem.W.fnOf "law" "law" (defArgs (top 34)) (defBody (top 34)) (defScope (top 34)) .none kV_p_law dc_p_law pm_p_law an_p_law cd_p_law ct_p_law), sl_p_law⟩)
    (c_p_law : PySem.W.codeIn K cd_p_law "law" = true)
    (p_p_law : PySem.W.keepIn K (.ref a_p_law) = true)
    (xi_NoThing : PySem.W.excIn K c_NoThing [.type "ValueError", .type "Exception", .type "BaseException", .type "object"] "ValueError.__new__" = true)
    (xk_NoThing : PySem.W.keepIn K (.ref c_NoThing) = true)
    (xs_NoThing : PySem.W.subIn K (.ref c_NoThing) (.type "BaseException") = some true)
    (xt_NoThing : PySem.W.typeIn K (.ref c_NoThing) = some (.type "type"))
    (hb_ShrinkError : PySem.W.subIn K (.ref c_ShrinkError) (.type "BaseException") = some true)
    (hd2_ShrinkError : PySem.W.hasDictIn K c_ShrinkError = true)
    (ht_ShrinkError : PySem.W.typeIn K (.ref c_ShrinkError) = some (.type "type"))
    (hs_NoThing_ShrinkError : PySem.W.subIn K (.ref c_NoThing) (.ref c_ShrinkError) = some true)
    (xa_NoThing : PySem.W.findIn K (.ref c_NoThing) "__getattribute__" = some (some (.builtin "BaseException.__getattribute__")))
    (xb_NoThing : PySem.W.findIn K (.ref c_NoThing) "__getattr__" = some none)
    (xd_NoThing : PySem.W.hasDictIn K c_NoThing = true)
    (xe_NoThing : PySem.W.findIn K (.ref c_NoThing) "__class__" = some (some (.builtin "object.__class__")))
    (xf_NoThing : PySem.W.specialIn K (.builtin "object.__class__") "__get__" = some (some (.builtin "getset_descriptor.__get__")))
    (xg_NoThing : PySem.W.takesIn K (.builtin "object.__class__") = some true)
    (xm_NoThing : PySem.W.mroIn K c_NoThing (.type "object") = some true)
    (xk_NoThing_NoThing : PySem.W.kitOne K (.ref c_NoThing) (.ref c_NoThing) = some true)
    (xk_NoThing_NoPlace : PySem.W.kitOne K (.ref c_NoThing) (.ref c_NoPlace) = some false)
    (xk_NoThing_NoFault : PySem.W.kitOne K (.ref c_NoThing) (.ref c_NoFault) = some false)
    (xk_NoThing_NoRule : PySem.W.kitOne K (.ref c_NoThing) (.ref c_NoRule) = some false)
    (xk_NoThing_Spent : PySem.W.kitOne K (.ref c_NoThing) (.ref c_Spent) = some false)
    (xk_NoThing_Healthy : PySem.W.kitOne K (.ref c_NoThing) (.ref c_Healthy) = some false)
    (xk_NoThing_NoText : PySem.W.kitOne K (.ref c_NoThing) (.ref c_NoText) = some false)
    (xk_NoThing_NoRow : PySem.W.kitOne K (.ref c_NoThing) (.ref c_NoRow) = some false)
    (xk_NoThing_ValueError : PySem.W.kitOne K (.ref c_NoThing) (.type "ValueError") = some true)
    (pg_Table : PySem.W.plainGet K c_Table Str.empty = true)
    (hd_Table : PySem.W.hasDictIn K c_Table = true)
    (po_Table : PySem.W.plainOver K c_Table = true)
    (sa_Table : PySem.W.findIn K (.ref c_Table) "__setattr__" = some (some (.builtin "object.__setattr__")))
    (mk_Table : PySem.W.makesIn K c_Table = true)
    (kp_Table : PySem.W.keepIn K (.ref c_Table) = true)
    (na_Table_lines : PySem.W.findIn K (.ref c_Table) "lines" = some none)
    (na_Table_wide : PySem.W.findIn K (.ref c_Table) "wide" = some none)
    (oa_Table : PySem.W.findIn K (.ref c_Table) "__class__" = some (some (.builtin "object.__class__")))
    (on_Table : PySem.W.specialIn K (.builtin "object.__class__") "__get__" = some (some (.builtin "getset_descriptor.__get__")))
    (ot_Table : PySem.W.takesIn K (.builtin "object.__class__") = some true)
    (om_Table : PySem.W.mroIn K c_Table (.type "object") = some true)
    (is_Table_Thing : PySem.W.kitOne K (.ref c_Table) (.ref c_Thing) = some true)
    : ∃ fd : FuncData, (∀ (s : Shared) (v : Value), BindsTo s fd ⟨[v], []⟩ [("_law_script", v)]) ∧ ∀ base : Heap, K.In base → base.Ns mainGlobals mg → FnOk l.prog w K mg base (L2.CX l.prog w) 7 fa fd ["_law_script"] (spOf K ⟨clOf K clsN, l.prog, w⟩ [true] m_p_law) := by
  have e := hfa.symm.trans (PySem.W.mg_of X G g_p_law)
  cases e
  have e_ShrinkError : clOf K clsN 0 = c_ShrinkError := clOf_eq rfl gc_ShrinkError
  subst e_ShrinkError
  have e_NoThing : clOf K clsN 1 = c_NoThing := clOf_eq rfl gc_NoThing
  subst e_NoThing
  have e_NoPlace : clOf K clsN 2 = c_NoPlace := clOf_eq rfl gc_NoPlace
  subst e_NoPlace
  have e_NoFault : clOf K clsN 3 = c_NoFault := clOf_eq rfl gc_NoFault
  subst e_NoFault
  have e_NoRule : clOf K clsN 4 = c_NoRule := clOf_eq rfl gc_NoRule
  subst e_NoRule
  have e_Spent : clOf K clsN 5 = c_Spent := clOf_eq rfl gc_Spent
  subst e_Spent
  have e_Healthy : clOf K clsN 6 = c_Healthy := clOf_eq rfl gc_Healthy
  subst e_Healthy
  have e_NoText : clOf K clsN 7 = c_NoText := clOf_eq rfl gc_NoText
  subst e_NoText
  have e_NoRow : clOf K clsN 8 = c_NoRow := clOf_eq rfl gc_NoRow
  subst e_NoRow
  have e_Thing : clOf K clsN 9 = c_Thing := clOf_eq rfl gc_Thing
  subst e_Thing
  have e_Table : clOf K clsN 12 = c_Table := clOf_eq rfl gc_Table
  subst e_Table
  let T : Fs l.prog w K mg ⟨clOf K clsN, l.prog, w⟩ := {
    hP := rfl
    hw := rfl
    n_isinstance := PySem.W.mg_none_of X G n_isinstance
    n_str := PySem.W.mg_none_of X G n_str
    n_len := PySem.W.mg_none_of X G n_len
    n_list := PySem.W.mg_none_of X G n_list
    n_tuple := PySem.W.mg_none_of X G n_tuple
    n_int := PySem.W.mg_none_of X G n_int
    n_bool := PySem.W.mg_none_of X G n_bool
    n_range := PySem.W.mg_none_of X G n_range
    n_max := PySem.W.mg_none_of X G n_max
    n_ValueError := PySem.W.mg_none_of X G n_ValueError
    n_min := PySem.W.mg_none_of X G n_min
    k_LETTERS := ⟨_, PySem.W.mg_of X G k_LETTERS, _, rfl⟩
    k_MOST_LETTERS := ⟨_, PySem.W.mg_of X G k_MOST_LETTERS, _, rfl⟩
    k_MOST_LINES := ⟨_, PySem.W.mg_of X G k_MOST_LINES, _, rfl⟩
    a_p_is_mark := a_p_is_mark
    d_p_is_mark := _
    F_p_is_mark := fun_mk l_p_is_mark c_p_is_mark p_p_is_mark
    b_p_is_mark := (fun_mk (st := top 14) l_p_is_mark c_p_is_mark p_p_is_mark).binds (ps := ["thing"]) fun _ _ _ _ _ _ us hl => match us, hl with | [_], _ => rfl
    g_p_is_mark := PySem.W.mg_of X G g_p_is_mark
    a_p_are_marks := a_p_are_marks
    d_p_are_marks := _
    F_p_are_marks := fun_mk l_p_are_marks c_p_are_marks p_p_are_marks
    b_p_are_marks := (fun_mk (st := top 17) l_p_are_marks c_p_are_marks p_p_are_marks).binds (ps := ["some", "most"]) fun _ _ _ _ _ _ us hl => match us, hl with | [_, _], _ => rfl
    g_p_are_marks := PySem.W.mg_of X G g_p_are_marks
    a_p_are_lines := a_p_are_lines
    d_p_are_lines := _
    F_p_are_lines := fun_mk l_p_are_lines c_p_are_lines p_p_are_lines
    b_p_are_lines := (fun_mk (st := top 18) l_p_are_lines c_p_are_lines p_p_are_lines).binds (ps := ["some"]) fun _ _ _ _ _ _ us hl => match us, hl with | [_], _ => rfl
    g_p_are_lines := PySem.W.mg_of X G g_p_are_lines
    a_p_Table_init := a_p_Table_init
    d_p_Table_init := _
    F_p_Table_init := fun_mk l_p_Table_init c_p_Table_init p_p_Table_init
    b_p_Table_init := (fun_mk (st := inClass (top 20) 0) l_p_Table_init c_p_Table_init p_p_Table_init).binds (ps := ["self", "lines"]) fun _ _ _ _ _ _ us hl => match us, hl with | [_, _], _ => rfl
    a_p_Table_many := a_p_Table_many
    d_p_Table_many := _
    F_p_Table_many := fun_mk l_p_Table_many c_p_Table_many p_p_Table_many
    b_p_Table_many := (fun_mk (st := inClass (top 20) 1) l_p_Table_many c_p_Table_many p_p_Table_many).binds (ps := ["self"]) fun _ _ _ _ _ _ us hl => match us, hl with | [_], _ => rfl
    a_p_Table_spots := a_p_Table_spots
    d_p_Table_spots := _
    F_p_Table_spots := fun_mk l_p_Table_spots c_p_Table_spots p_p_Table_spots
    b_p_Table_spots := (fun_mk (st := inClass (top 20) 2) l_p_Table_spots c_p_Table_spots p_p_Table_spots).binds (ps := ["self"]) fun _ _ _ _ _ _ us hl => match us, hl with | [_], _ => rfl
    a_p_Table_form := a_p_Table_form
    d_p_Table_form := _
    F_p_Table_form := fun_mk l_p_Table_form c_p_Table_form p_p_Table_form
    b_p_Table_form := (fun_mk (st := inClass (top 20) 4) l_p_Table_form c_p_Table_form p_p_Table_form).binds (ps := ["self"]) fun _ _ _ _ _ _ us hl => match us, hl with | [_], _ => rfl
    a_l_cell_at := a_l_cell_at
    d_l_cell_at := _
    F_l_cell_at := fun_mk l_l_cell_at c_l_cell_at p_l_cell_at
    b_l_cell_at := (fun_mk (st := top 22) l_l_cell_at c_l_cell_at p_l_cell_at).binds (ps := ["_law_script", "_law_k"]) fun _ _ _ _ _ _ us hl => match us, hl with | [_, _], _ => rfl
    g_l_cell_at := PySem.W.mg_of X G g_l_cell_at
    a_l_mix := a_l_mix
    d_l_mix := _
    F_l_mix := fun_mk l_l_mix c_l_mix p_l_mix
    b_l_mix := (fun_mk (st := top 23) l_l_mix c_l_mix p_l_mix).binds (ps := ["_law_seed", "_law_k"]) fun _ _ _ _ _ _ us hl => match us, hl with | [_, _], _ => rfl
    g_l_mix := PySem.W.mg_of X G g_l_mix
    a_l_whole := a_l_whole
    d_l_whole := _
    F_l_whole := fun_mk l_l_whole c_l_whole p_l_whole
    b_l_whole := (fun_mk (st := top 24) l_l_whole c_l_whole p_l_whole).binds (ps := ["_law_found"]) fun _ _ _ _ _ _ us hl => match us, hl with | [_], _ => rfl
    g_l_whole := PySem.W.mg_of X G g_l_whole
    a_l_how_many := a_l_how_many
    d_l_how_many := _
    F_l_how_many := fun_mk l_l_how_many c_l_how_many p_l_how_many
    b_l_how_many := (fun_mk (st := top 25) l_l_how_many c_l_how_many p_l_how_many).binds (ps := ["_law_number"]) fun _ _ _ _ _ _ us hl => match us, hl with | [_], _ => rfl
    g_l_how_many := PySem.W.mg_of X G g_l_how_many
    a_l_marks := a_l_marks
    d_l_marks := _
    F_l_marks := fun_mk l_l_marks c_l_marks p_l_marks
    b_l_marks := (fun_mk (st := top 26) l_l_marks c_l_marks p_l_marks).binds (ps := ["_law_cell", "_law_many"]) fun _ _ _ _ _ _ us hl => match us, hl with | [_, _], _ => rfl
    g_l_marks := PySem.W.mg_of X G g_l_marks
    a_l_pick := a_l_pick
    d_l_pick := _
    F_l_pick := fun_mk l_l_pick c_l_pick p_l_pick
    b_l_pick := (fun_mk (st := top 27) l_l_pick c_l_pick p_l_pick).binds (ps := ["_law_cell", "_law_marks_here"]) fun _ _ _ _ _ _ us hl => match us, hl with | [_, _], _ => rfl
    g_l_pick := PySem.W.mg_of X G g_l_pick
    a_l_lines := a_l_lines
    d_l_lines := _
    F_l_lines := fun_mk l_l_lines c_l_lines p_l_lines
    b_l_lines := (fun_mk (st := top 28) l_l_lines c_l_lines p_l_lines).binds (ps := ["_law_cells", "_law_marks_here", "_law_wide"]) fun _ _ _ _ _ _ us hl => match us, hl with | [_, _, _], _ => rfl
    g_l_lines := PySem.W.mg_of X G g_l_lines
    a_l_classes := a_l_classes
    d_l_classes := _
    F_l_classes := fun_mk l_l_classes c_l_classes p_l_classes
    b_l_classes := (fun_mk (st := top 29) l_l_classes c_l_classes p_l_classes).binds (ps := ["_law_e"]) fun _ _ _ _ _ _ us hl => match us, hl with | [_], _ => rfl
    g_l_classes := PySem.W.mg_of X G g_l_classes
    a_l_refused := a_l_refused
    d_l_refused := _
    F_l_refused := fun_mk l_l_refused c_l_refused p_l_refused
    b_l_refused := (fun_mk (st := top 30) l_l_refused c_l_refused p_l_refused).binds (ps := ["_law_thing"]) fun _ _ _ _ _ _ us hl => match us, hl with | [_], _ => rfl
    g_l_refused := PySem.W.mg_of X G g_l_refused
    a_l_wrong := a_l_wrong
    d_l_wrong := _
    F_l_wrong := fun_mk l_l_wrong c_l_wrong p_l_wrong
    b_l_wrong := (fun_mk (st := top 31) l_l_wrong c_l_wrong p_l_wrong).binds (ps := ["_law_lines_here", "_law_wide", "_law_cell", "_law_mark"]) fun _ _ _ _ _ _ us hl => match us, hl with | [_, _, _, _], _ => rfl
    g_l_wrong := PySem.W.mg_of X G g_l_wrong
    a_l_holds := a_l_holds
    d_l_holds := _
    F_l_holds := fun_mk l_l_holds c_l_holds p_l_holds
    b_l_holds := (fun_mk (st := top 32) l_l_holds c_l_holds p_l_holds).binds (ps := ["_law_one", "_law_lines_here"]) fun _ _ _ _ _ _ us hl => match us, hl with | [_, _], _ => rfl
    g_l_holds := PySem.W.mg_of X G g_l_holds
    a_l_lines_by := a_l_lines_by
    d_l_lines_by := _
    F_l_lines_by := fun_mk l_l_lines_by c_l_lines_by p_l_lines_by
    b_l_lines_by := (fun_mk (st := top 33) l_l_lines_by c_l_lines_by p_l_lines_by).binds (ps := ["_law_script", "_law_marks_here"]) fun _ _ _ _ _ _ us hl => match us, hl with | [_, _], _ => rfl
    g_l_lines_by := PySem.W.mg_of X G g_l_lines_by
    a_p_law := fa
    d_p_law := _
    F_p_law := fun_mk l_p_law c_p_law p_p_law
    b_p_law := (fun_mk (st := top 34) l_p_law c_p_law p_p_law).binds (ps := ["_law_script"]) fun _ _ _ _ _ _ us hl => match us, hl with | [_], _ => rfl
    g_p_law := PySem.W.mg_of X G g_p_law
    gc_ShrinkError := PySem.W.mg_of X G gc_ShrinkError
    gc_NoThing := PySem.W.mg_of X G gc_NoThing
    gc_NoPlace := PySem.W.mg_of X G gc_NoPlace
    gc_NoFault := PySem.W.mg_of X G gc_NoFault
    gc_NoRule := PySem.W.mg_of X G gc_NoRule
    gc_Spent := PySem.W.mg_of X G gc_Spent
    gc_Healthy := PySem.W.mg_of X G gc_Healthy
    gc_NoText := PySem.W.mg_of X G gc_NoText
    gc_NoRow := PySem.W.mg_of X G gc_NoRow
    gc_Thing := PySem.W.mg_of X G gc_Thing
    gc_Table := PySem.W.mg_of X G gc_Table
    ex_NoThing := ⟨xi_NoThing, xk_NoThing, xs_NoThing, xt_NoThing⟩
    hb_ShrinkError := hb_ShrinkError
    hd_ShrinkError := hd2_ShrinkError
    ht_ShrinkError := ht_ShrinkError
    hs_NoThing_ShrinkError := hs_NoThing_ShrinkError
    xc_NoThing := ⟨xa_NoThing, xb_NoThing, xs_NoThing, xd_NoThing, xe_NoThing, xf_NoThing, xg_NoThing, xm_NoThing⟩
    xk_NoThing_NoThing := xk_NoThing_NoThing
    xk_NoThing_NoPlace := xk_NoThing_NoPlace
    xk_NoThing_NoFault := xk_NoThing_NoFault
    xk_NoThing_NoRule := xk_NoThing_NoRule
    xk_NoThing_Spent := xk_NoThing_Spent
    xk_NoThing_Healthy := xk_NoThing_Healthy
    xk_NoThing_NoText := xk_NoThing_NoText
    xk_NoThing_NoRow := xk_NoThing_NoRow
    xk_NoThing_ValueError := xk_NoThing_ValueError
    cls_Table := ⟨pg_Table, hd_Table, po_Table, sa_Table⟩
    mk_Table := ⟨mk_Table, in_Table, fn_p_Table_init, kp_Table⟩
    na_Table_lines := na_Table_lines
    na_Table_wide := na_Table_wide
    me_Table_form := ⟨me_Table_form, fn_p_Table_form, p_p_Table_form⟩
    me_Table_many := ⟨me_Table_many, fn_p_Table_many, p_p_Table_many⟩
    me_Table_spots := ⟨me_Table_spots, fn_p_Table_spots, p_p_Table_spots⟩
    ob_Table := ⟨⟨pg_Table, hd_Table, po_Table, sa_Table⟩, oa_Table, on_Table, ot_Table, om_Table⟩
    is_Table_Thing := is_Table_Thing }
  exact ⟨T.d_p_law, fun s v => .of_eq rfl, fun base _ _ => ok_p_law T⟩
theorem walk {l : PySem.W.OpenLaw} {q : Program} {loose : List Str} {XP : (Str → Option Value) → Heap → Prop} {YP : World → Heap → Prop} {d : DefRec} {K : Params → PySem.W.Frag} (hlaw : LawOk) (hn : l.most = some 63) (hdf : d.params.defaults = [])
    (hY : ∀ (w : World) (h : Heap), YP w h → (K w.params).In h)
    (F : ∀ (w : World) (mg : Str → Option Value) (fa : Addr) (h : Heap), (K w.params).In h → h.Ns mainGlobals mg → mg d.name = some (.ref fa) →
      ∃ fd : FuncData, (∀ (s : Shared) (u : Value), BindsTo s fd ⟨[u], []⟩ [("_law_script", u)]) ∧ ∀ base : Heap, (K w.params).In base → base.Ns mainGlobals mg → FnOk l.prog w (K w.params) mg base (L2.CX l.prog w) 7 fa fd ["_law_script"] (spOf (K w.params) ⟨clOf (K w.params) clsN, l.prog, w⟩ [true] m_p_law)) :
    PySem.W.WalkO q loose XP YP l.row.toRowW d [] (fun f vs => PySem.call f vs) :=
  L2.walk_of (n := 63) (k := 7) (x := "_law_script") (CX := fun w => L2.CX l.prog w) (sp := fun w => spOf (K w.params) ⟨clOf (K w.params) clsN, l.prog, w⟩ [true] m_p_law) hn (by decide) hdf ⟨rfl, by decide, by decide⟩ hY F (fun w H a ns hl hO hS => sp_startR [true] (by simp) (hlaw ns hl) hS) fun _ _ _ _ _ z => cx_end z
end PM
open PySem PySem.W PyProof.Rows
set_option maxRecDepth 100000 in
set_option maxHeartbeats 0 in
theorem PySem.Challenge.cw_shrinkhouse_k04_tables_made_holds : PySem.Challenge.rw_shrinkhouse_k04_tables_made.Holds := by
  w_on; o_law; k_head; (case hw => w_witness2)
  k_fill
  refine PM.walk (l := PySem.Challenge.rw_shrinkhouse_k04_tables_made) PM.law_ok rfl rfl (fun w h Y => PySem.W.kIn_of Y) ?F
  case F =>
    intro w mg fa h KX G hmg
    refine' PM.all_mk KX G hmg ?n_isinstance ?n_str ?n_len ?n_list ?n_tuple ?n_int ?n_bool ?n_range ?n_max ?n_ValueError ?n_min ?k_LETTERS ?k_MOST_LETTERS ?k_MOST_LINES ?gc_ShrinkError ?gc_NoThing ?gc_NoPlace ?gc_NoFault ?gc_NoRule ?gc_Spent ?gc_Healthy ?gc_NoText ?gc_NoRow ?gc_Thing ?gc_Table ?g_p_is_mark ?l_p_is_mark ?c_p_is_mark ?p_p_is_mark ?g_p_are_marks ?l_p_are_marks ?c_p_are_marks ?p_p_are_marks ?g_p_are_lines ?l_p_are_lines ?c_p_are_lines ?p_p_are_lines ?in_Table ?fn_p_Table_init ?l_p_Table_init ?c_p_Table_init ?p_p_Table_init ?me_Table_many ?fn_p_Table_many ?l_p_Table_many ?c_p_Table_many ?p_p_Table_many ?me_Table_spots ?fn_p_Table_spots ?l_p_Table_spots ?c_p_Table_spots ?p_p_Table_spots ?me_Table_form ?fn_p_Table_form ?l_p_Table_form ?c_p_Table_form ?p_p_Table_form ?g_l_cell_at ?l_l_cell_at ?c_l_cell_at ?p_l_cell_at ?g_l_mix ?l_l_mix ?c_l_mix ?p_l_mix ?g_l_whole ?l_l_whole ?c_l_whole ?p_l_whole ?g_l_how_many ?l_l_how_many ?c_l_how_many ?p_l_how_many ?g_l_marks ?l_l_marks ?c_l_marks ?p_l_marks ?g_l_pick ?l_l_pick ?c_l_pick ?p_l_pick ?g_l_lines ?l_l_lines ?c_l_lines ?p_l_lines ?g_l_classes ?l_l_classes ?c_l_classes ?p_l_classes ?g_l_refused ?l_l_refused ?c_l_refused ?p_l_refused ?g_l_wrong ?l_l_wrong ?c_l_wrong ?p_l_wrong ?g_l_holds ?l_l_holds ?c_l_holds ?p_l_holds ?g_l_lines_by ?l_l_lines_by ?c_l_lines_by ?p_l_lines_by ?g_p_law ?l_p_law ?c_p_law ?p_p_law ?xi_NoThing ?xk_NoThing ?xs_NoThing ?xt_NoThing ?hb_ShrinkError ?hd2_ShrinkError ?ht_ShrinkError ?hs_NoThing_ShrinkError ?xa_NoThing ?xb_NoThing ?xd_NoThing ?xe_NoThing ?xf_NoThing ?xg_NoThing ?xm_NoThing ?xk_NoThing_NoThing ?xk_NoThing_NoPlace ?xk_NoThing_NoFault ?xk_NoThing_NoRule ?xk_NoThing_Spent ?xk_NoThing_Healthy ?xk_NoThing_NoText ?xk_NoThing_NoRow ?xk_NoThing_ValueError ?pg_Table ?hd_Table ?po_Table ?sa_Table ?mk_Table ?kp_Table ?na_Table_lines ?na_Table_wide ?oa_Table ?on_Table ?ot_Table ?om_Table ?is_Table_Thing
    (case n_isinstance => k_is)
    (case n_str => k_is)
    (case n_len => k_is)
    (case n_list => k_is)
    (case n_tuple => k_is)
    (case n_int => k_is)
    (case n_bool => k_is)
    (case n_range => k_is)
    (case n_max => k_is)
    (case n_ValueError => k_is)
    (case n_min => k_is)
    (case k_LETTERS => k_is)
    (case k_MOST_LETTERS => k_is)
    (case k_MOST_LINES => k_is)
    (case gc_ShrinkError => k_is)
    (case gc_NoThing => k_is)
    (case gc_NoPlace => k_is)
    (case gc_NoFault => k_is)
    (case gc_NoRule => k_is)
    (case gc_Spent => k_is)
    (case gc_Healthy => k_is)
    (case gc_NoText => k_is)
    (case gc_NoRow => k_is)
    (case gc_Thing => k_is)
    (case gc_Table => k_is)
    (case g_p_is_mark => k_is)
    (case l_p_is_mark => k_is)
    (case c_p_is_mark => k_is)
    (case p_p_is_mark => k_is)
    (case g_p_are_marks => k_is)
    (case l_p_are_marks => k_is)
    (case c_p_are_marks => k_is)
    (case p_p_are_marks => k_is)
    (case g_p_are_lines => k_is)
    (case l_p_are_lines => k_is)
    (case c_p_are_lines => k_is)
    (case p_p_are_lines => k_is)
    (case in_Table => k_is)
    (case fn_p_Table_init => k_is)
    (case l_p_Table_init => k_is)
    (case c_p_Table_init => k_is)
    (case p_p_Table_init => k_is)
    (case me_Table_many => k_is)
    (case fn_p_Table_many => k_is)
    (case l_p_Table_many => k_is)
    (case c_p_Table_many => k_is)
    (case p_p_Table_many => k_is)
    (case me_Table_spots => k_is)
    (case fn_p_Table_spots => k_is)
    (case l_p_Table_spots => k_is)
    (case c_p_Table_spots => k_is)
    (case p_p_Table_spots => k_is)
    (case me_Table_form => k_is)
    (case fn_p_Table_form => k_is)
    (case l_p_Table_form => k_is)
    (case c_p_Table_form => k_is)
    (case p_p_Table_form => k_is)
    (case g_l_cell_at => k_is)
    (case l_l_cell_at => k_is)
    (case c_l_cell_at => k_is)
    (case p_l_cell_at => k_is)
    (case g_l_mix => k_is)
    (case l_l_mix => k_is)
    (case c_l_mix => k_is)
    (case p_l_mix => k_is)
    (case g_l_whole => k_is)
    (case l_l_whole => k_is)
    (case c_l_whole => k_is)
    (case p_l_whole => k_is)
    (case g_l_how_many => k_is)
    (case l_l_how_many => k_is)
    (case c_l_how_many => k_is)
    (case p_l_how_many => k_is)
    (case g_l_marks => k_is)
    (case l_l_marks => k_is)
    (case c_l_marks => k_is)
    (case p_l_marks => k_is)
    (case g_l_pick => k_is)
    (case l_l_pick => k_is)
    (case c_l_pick => k_is)
    (case p_l_pick => k_is)
    (case g_l_lines => k_is)
    (case l_l_lines => k_is)
    (case c_l_lines => k_is)
    (case p_l_lines => k_is)
    (case g_l_classes => k_is)
    (case l_l_classes => k_is)
    (case c_l_classes => k_is)
    (case p_l_classes => k_is)
    (case g_l_refused => k_is)
    (case l_l_refused => k_is)
    (case c_l_refused => k_is)
    (case p_l_refused => k_is)
    (case g_l_wrong => k_is)
    (case l_l_wrong => k_is)
    (case c_l_wrong => k_is)
    (case p_l_wrong => k_is)
    (case g_l_holds => k_is)
    (case l_l_holds => k_is)
    (case c_l_holds => k_is)
    (case p_l_holds => k_is)
    (case g_l_lines_by => k_is)
    (case l_l_lines_by => k_is)
    (case c_l_lines_by => k_is)
    (case p_l_lines_by => k_is)
    (case g_p_law => k_is)
    (case l_p_law => k_is)
    (case c_p_law => k_is)
    (case p_p_law => k_is)
    (case xi_NoThing => k_exc)
    (case xk_NoThing => k_is)
    (case xs_NoThing => k_is)
    (case xt_NoThing => k_is)
    (case hb_ShrinkError => k_is)
    (case hd2_ShrinkError => k_is)
    (case ht_ShrinkError => k_is)
    (case hs_NoThing_ShrinkError => k_is)
    (case xa_NoThing => k_is)
    (case xb_NoThing => k_is)
    (case xd_NoThing => k_is)
    (case xe_NoThing => k_is)
    (case xf_NoThing => k_is)
    (case xg_NoThing => k_is)
    (case xm_NoThing => k_is)
    (case xk_NoThing_NoThing => first | exact PM.kit_of (by k_is) (by k_is) (by k_is) (by first | exact .inl rfl | exact .inr rfl) | exact PM.kit_ofT (by rfl) (by k_is) (by first | exact .inl rfl | exact .inr rfl))
    (case xk_NoThing_NoPlace => first | exact PM.kit_of (by k_is) (by k_is) (by k_is) (by first | exact .inl rfl | exact .inr rfl) | exact PM.kit_ofT (by rfl) (by k_is) (by first | exact .inl rfl | exact .inr rfl))
    (case xk_NoThing_NoFault => first | exact PM.kit_of (by k_is) (by k_is) (by k_is) (by first | exact .inl rfl | exact .inr rfl) | exact PM.kit_ofT (by rfl) (by k_is) (by first | exact .inl rfl | exact .inr rfl))
    (case xk_NoThing_NoRule => first | exact PM.kit_of (by k_is) (by k_is) (by k_is) (by first | exact .inl rfl | exact .inr rfl) | exact PM.kit_ofT (by rfl) (by k_is) (by first | exact .inl rfl | exact .inr rfl))
    (case xk_NoThing_Spent => first | exact PM.kit_of (by k_is) (by k_is) (by k_is) (by first | exact .inl rfl | exact .inr rfl) | exact PM.kit_ofT (by rfl) (by k_is) (by first | exact .inl rfl | exact .inr rfl))
    (case xk_NoThing_Healthy => first | exact PM.kit_of (by k_is) (by k_is) (by k_is) (by first | exact .inl rfl | exact .inr rfl) | exact PM.kit_ofT (by rfl) (by k_is) (by first | exact .inl rfl | exact .inr rfl))
    (case xk_NoThing_NoText => first | exact PM.kit_of (by k_is) (by k_is) (by k_is) (by first | exact .inl rfl | exact .inr rfl) | exact PM.kit_ofT (by rfl) (by k_is) (by first | exact .inl rfl | exact .inr rfl))
    (case xk_NoThing_NoRow => first | exact PM.kit_of (by k_is) (by k_is) (by k_is) (by first | exact .inl rfl | exact .inr rfl) | exact PM.kit_ofT (by rfl) (by k_is) (by first | exact .inl rfl | exact .inr rfl))
    (case xk_NoThing_ValueError => first | exact PM.kit_of (by k_is) (by k_is) (by k_is) (by first | exact .inl rfl | exact .inr rfl) | exact PM.kit_ofT (by rfl) (by k_is) (by first | exact .inl rfl | exact .inr rfl))
    (case pg_Table => k_is)
    (case hd_Table => k_is)
    (case po_Table => k_is)
    (case sa_Table => k_is)
    (case mk_Table => k_is)
    (case kp_Table => k_is)
    (case na_Table_lines => k_is)
    (case na_Table_wide => k_is)
    (case oa_Table => k_is)
    (case on_Table => k_is)
    (case ot_Table => k_is)
    (case om_Table => k_is)
    (case is_Table_Thing => first | exact PM.kit_of (by k_is) (by k_is) (by k_is) (by first | exact .inl rfl | exact .inr rfl) | exact PM.kit_ofT (by rfl) (by k_is) (by first | exact .inl rfl | exact .inr rfl))
