import PyProof.Rows.All
import HandS.More
import HandS.Dict
import HandS.Words
import KE.KeyNested
import KE.KDictKeyed
import KE.DataEq
import Wide.All
import OpenK.AllK
import Wide.FinOn
import HandS.ForMost
import HandS.Conv
import HandS.Rev
import PyProof.ListNew
import HandS.Exc
import HandS.ExcOwn
import HandS.TryOnly
import HandS.TryMany
import HandS.WordsExc
import HandS.IsInst
import HandS.Deep
import HandS.StrMore
import HandS.TupAny
import HandS.Wide
import HandS.WideBits
import HandS.Flow
import HandS.Style
import HandS.RevRange
import HandS.SortOrd
import HandS.SortInts
import HandS.Replace
import HandS.ExcCtx
import HandS.ExcValue
import HandS.ExcIs
import HandS.SuiteRaise
import HandS.HotCalls
import HandS.EndBits
import HandS.Text
import PyProof.StrBlock2
import PyProof.Rows.StrMul
import HandS.ClsMeth
import HandS.IterVal
import KE.GoesRaise
import HandS.SetFor
import HandS.Hot
import HandS.List
import HandS.ReplaceLit
import KE.KUnpack
import HandS.SetTxt0
import KE.OsRunLaw
import PySem.Challenge.RW_shrinkhouse_k11_told_of_a_fault
set_option Elab.async false
set_option linter.all false
set_option maxRecDepth 100000
namespace PM
section
open PySem PySem.W PySem.Calls PyProof.Rows
set_option maxHeartbeats 0
def qv : Program := view PySem.Challenge.pw_shrinkhouse_k11_told_of_a_fault [23]
def loose_ : List PySem.Str := (["_wall", "sorted_marks", "Fault", "Has", "Many", "Pair", "Before", "Under", "Beside", "Group", "All", "Any", "Not", "_law_cell_at", "_law_names", "_law_leaf", "_law_term", "_law_text", "_law_marks", "_law_grows", "_law_fault"] : List PySem.Str)
local macro_rules | `(tactic| k_head) => `(tactic| k_headL)
local macro_rules | `(tactic| o_headL $H:term) => `(tactic| (refine holds_open (r := OpenLaw.row PySem.Challenge.rw_shrinkhouse_k11_told_of_a_fault) (q := qv) (loose := loose_) (Xt := fun s => xlAt qv [] s && recOk (RowW.records (OpenRow.toRowW (OpenLaw.row PySem.Challenge.rw_shrinkhouse_k11_told_of_a_fault))) s) (XP := XL qv []) (Yf := Hook.obs $H) (Ya := Hook.val $H) (YP := Hook.says $H) (N := 20700) ?hl (Hook.of $H) (Hook.keeps $H) (fun s e => xl_of s (Bool.and_eq_true_iff.mp e).1) XL.keeps (by rfl) (by rfl) (by rfl) (fun s e => recFacts_of (Bool.and_eq_true_iff.mp e).2) (by rfl) (by first | assumption | decide +kernel) (by decide +kernel) ⟨rfl, rfl, rfl, rfl, rfl, by decide +kernel⟩ ?hw ?hc; (case hl => (refine HeadRun.left_oneK (M := 20000) (by kernel_rfl) (by rfl) (fun s => by kernel_rfl) (by rfl) ?_; intro w os; kernel_rfl))))
open_top top_ for PySem.Challenge.rw_shrinkhouse_k11_told_of_a_fault
end
end PM
namespace PM
open PySem PySem.Spec PyProof.Rows L2
structure ClsP where
  f : Nat → Addr
  P : Program
  w : World
instance : CoeFun ClsP fun _ => Nat → Addr := ⟨ClsP.f⟩
mutual
theorem nested_of_reads {h : Heap} : ∀ (k : NestedKey) (v : Value) (as : List Addr), Reads h v k.data as → NestedIs h k v
  | .none, _, _, r => by cases r; exact .none
  | .num i, _, _, r => by cases r; exact .int _ _
  | .text x, _, _, r => by cases r; exact .text _ _
  | .tup ks, _, _, r => by
    cases r with
    | tuple h1 h2 h3 h4 => exact .tup h1 h2 h3 (nested_of_readsAll ks _ _ h4)
theorem nested_of_readsAll {h : Heap} : ∀ (ks : List NestedKey) (vs : List Value) (as : List Addr), ReadsAll h vs (NestedKey.datas ks) as → NestedAll h ks vs
  | [], _, _, r => by cases r; exact .nil
  | k :: ks, _, _, r => by
    cases r with
    | cons h1 h2 => exact .cons (nested_of_reads k _ _ h1) (nested_of_readsAll ks _ _ h2)
end
mutual
theorem dp_mono {K : PySem.W.Frag} {Z Z' : Hp} (hz : Same Z Z') : ∀ (p : PyData) (v : V), Dp K Z v p → Dp K Z' v p
  | .none, _, h => by cases h; exact .non
  | .bool _, _, h => by cases h; exact .bl _
  | .int _, _, h => by cases h; exact .int _
  | .str _, _, h => by cases h; exact .str _
  | .list ds, _, h => by
    cases h with
    | lst h1 h2 => exact .lst (hz.seq h1) (dpAll_mono hz ds _ h2)
  | .tuple ds, _, h => by
    cases h with
    | tup h1 h2 =>
      refine .tup ?_ (dpAll_mono hz ds _ h2)
      rcases h1 with (h | ⟨o, h⟩) | h
      · exact .inl (.inl (hz _ _ h))
      · exact .inl (.inr ⟨o, hz _ _ h⟩)
      · exact .inr h
  | .dict _, _, h => by cases h
theorem dpAll_mono {K : PySem.W.Frag} {Z Z' : Hp} (hz : Same Z Z') : ∀ (ps : List PyData) (vs : List V), DpAll K Z vs ps → DpAll K Z' vs ps
  | [], _, h => by cases h; exact .nil
  | p :: ps, _, h => by
    cases h with
    | cons h1 h2 => exact .cons (dp_mono hz p _ h1) (dpAll_mono hz ps _ h2)
end
theorem KeyAt.mono' {K : PySem.W.Frag} {Z Z' : Hp} (hz : Same Z Z') {k : NestedKey} {b : Addr} (h : Dp K Z (.ref b) k.data ∧ k.depth ≤ 8) : Dp K Z' (.ref b) k.data ∧ k.depth ≤ 8 := ⟨dp_mono hz _ _ h.1, h.2⟩
abbrev NRow := NestedKey × Addr × V
def NR : List NRow → List (NestedKey × Addr × Value) → Prop := Paired fun p q => p.1 = q.1 ∧ p.2.1 = q.2.1 ∧ RelV p.2.2 q.2.2
def atN (vs : List NRow) (k : NestedKey) : Option V := (vs.find? fun x => decide (x.1 = k)).map (·.2.2)
def putN (vs : List NRow) (k : NestedKey) (b : Addr) (v : V) : List NRow := if (atN vs k).isSome = true then vs.map (fun x => if x.1 = k then (x.1, x.2.1, v) else x) else vs ++ [(k, b, v)]
theorem NR.at {vs : List NRow} {ys : List (NestedKey × Addr × Value)} (r : NR vs ys) (k : NestedKey) : RelO (atN vs k) ((atKey ys k).map (·.2)) := by
  induction r with
  | nil => trivial
  | @cons p q ps qs hq t ih =>
    unfold atN atKey at ih ⊢
    rw [List.find?_cons, List.find?_cons]
    by_cases e : p.1 = k
    · rw [decide_eq_true e, decide_eq_true (hq.1 ▸ e)]
      exact hq.2.2
    · rw [decide_eq_false e, decide_eq_false (fun z => e (hq.1.trans z))]
      exact ih
theorem NR.snoc {vs : List NRow} {ys : List (NestedKey × Addr × Value)} (r : NR vs ys) {x : NRow} {y : NestedKey × Addr × Value} (h : x.1 = y.1 ∧ x.2.1 = y.2.1 ∧ RelV x.2.2 y.2.2) : NR (vs ++ [x]) (ys ++ [y]) := Paired.snoc r h
theorem NR.repl {vs : List NRow} {ys : List (NestedKey × Addr × Value)} (r : NR vs ys) (k : NestedKey) {v : V} {u : Value} (rv : RelV v u) : NR (vs.map fun x => if x.1 = k then (x.1, x.2.1, v) else x) (ys.map (putAt k u)) := by
  induction r with
  | nil => exact .nil
  | @cons p q ps qs hq t ih =>
    refine .cons ?_ ih
    unfold putAt
    show (if p.1 = k then (p.1, p.2.1, v) else p).1 = _ ∧ (if p.1 = k then (p.1, p.2.1, v) else p).2.1 = _ ∧ L2.RelV (if p.1 = k then (p.1, p.2.1, v) else p).2.2 _
    by_cases e : p.1 = k
    · rw [if_pos e, if_pos (hq.1 ▸ e)]
      exact ⟨hq.1, hq.2.1, rv⟩
    · rw [if_neg e, if_neg (fun z => e (hq.1.trans z))]
      exact hq
theorem NR.put {vs : List NRow} {ys : List (NestedKey × Addr × Value)} (r : NR vs ys) (k : NestedKey) {b : Addr} {v : V} {u : Value} (rv : RelV v u) : NR (putN vs k b v) (storedH ys k b u) := by
  have e : (atN vs k).isSome = (atKey ys k).isSome := by
    have := (r.at k).isSome_eq
    rw [Option.isSome_map] at this
    exact this
  unfold putN storedH
  rw [e]
  split
  · exact r.repl k rv
  · exact r.snoc ⟨rfl, rfl, rv⟩
def nestφ (P : Program) (w : World) (a : Addr) (vs : List NRow) : Heap → Prop := fun h => vs.length ≤ sizeLine ∧ (a == sysModules) = false ∧ ∃ ys, NR vs ys ∧
  ∃ o es ep, h.get? a = some o ∧ o.ExactDict ∧ o.data = .dict es ep ∧ es.toList = ys.map (entryOfKey (nestedKind P w)) ∧ (ys.map (·.1)).Nodup
abbrev nestO (P : Program) (w : World) (a : Addr) (vs : List NRow) : HO := .ext (nestφ P w a vs)
theorem nestφ.stay {P : Program} {w : World} {a : Addr} {vs : List NRow} (h1 h2 : Heap) (x : nestφ P w a vs h1) (k : ∀ o, h1.get? a = some o → h2.get? a = some o) : nestφ P w a vs h2 := by
  obtain ⟨z, y, ys, r, o, es, ep, e1, e2, e3, e4, e5⟩ := x
  exact ⟨z, y, ys, r, o, es, ep, k _ e1, e2, e3, e4, e5⟩
theorem nestφ.ok {P : Program} {w : World} {a : Addr} {vs : List NRow} {H : Hp} {h : Heap} (x : nestφ P w a vs h) : ObjOk P w H h a (nestO P w a vs) := by
  have x' := x
  obtain ⟨z, y, ys, r, o, es, ep, e1, _⟩ := x'
  exact ⟨x, ⟨o, e1⟩, fun h1 h2 y k => nestφ.stay h1 h2 y k⟩
def KeyAt (K : PySem.W.Frag) (H : Hp) (k : NestedKey) (b : Addr) : Prop := Dp K H (.ref b) k.data ∧ k.depth ≤ 8
structure NDict (P : Program) (w : World) (K : PySem.W.Frag) (H : Hp) (a : Addr) (vs : List NRow) : Prop where
  at' : H a = some (nestO P w a vs)
  keys : ∀ x ∈ vs, KeyAt K H x.1 x.2.1
section
variable {X : Cx} {pins : List (Addr × Obj)} {σ : L2.St} {H : Hp} {s : Shared} {a b : Addr} {vs : List NRow} {k : NestedKey} {v : V} {A : Around} {E : Value → Shared → Prop}
theorem KeyAt.is (I : Inv X pins σ H s) (h : KeyAt X.K H k b) : (nestedKind X.prog X.w).is s.heap k b := by
  obtain ⟨as, r⟩ := Dp.reads I _ _ _ h.1 (show RelV (.ref b) (.ref b) from rfl)
  exact ⟨nested_of_reads k _ _ r, h.2⟩
theorem NDict.of (I : Inv X pins σ H s) (g : NDict X.prog X.w X.K H a vs) : vs.length ≤ sizeLine ∧ (a == sysModules) = false ∧ ∃ ys, NR vs ys ∧ s.heap.DictOfH (nestedKind X.prog X.w) a ys := by
  obtain ⟨x, _, _⟩ := (show ObjOk X.prog X.w H s.heap a (nestO X.prog X.w a vs) from I.hok a _ g.at')
  obtain ⟨z, y, ys, r, o, es, ep, e1, e2, e3, e4, e5⟩ := x
  refine ⟨z, y, ys, r, o, es, ep, e1, e2, e3, e4, ?_, e5⟩
  have all : ∀ {l : List NRow} {m : List (NestedKey × Addr × Value)}, NR l m → (∀ x ∈ l, KeyAt X.K H x.1 x.2.1) → ∀ x ∈ m, (nestedKind X.prog X.w).is s.heap x.1 x.2.1 := by
    intro l m q
    induction q with
    | nil => intro _ x hx; exact nomatch hx
    | @cons p q ps qs hq t ih =>
      intro hall x hx
      rcases List.mem_cons.mp hx with e | hx
      · subst e
        rw [← hq.1, ← hq.2.1]
        exact (hall p (by simp)).is I
      · exact ih (fun y hy => hall y (List.mem_cons_of_mem _ hy)) x hx
  exact all r g.keys
end
section
variable {X : Cx} {pos : Pos}
end
section
variable {X : Cx} {o i e value : Expr} {pos pos' tpos : Pos} {td ty tv : TE}
end
section
variable {X : Cx} {o e f : Expr} {apos cpos : Pos} {td ty tx : TE}
end
end PM
set_option maxHeartbeats 1000000
namespace PM
open PySem PySem.Spec PyProof.Rows
section
variable {prog : Program} {w : World} {A : Around} {E : Value → Shared → Prop} {s : Shared} {R : Result → Shared → Prop}
end
end PM
namespace PM
open PySem PySem.Spec PyProof.Rows L2
section
variable {X : Cx}
end
end PM
namespace PM
open PySem PySem.Spec PyProof.Rows L2

theorem takes0 {X : Cx} : L2N.Takes X (fun _ _ _ _ => False) := fun _ _ x => by
  obtain ⟨_, _, _, _, _, _, _, _, _, _, _, _, _, _, _, _, z⟩ := x
  exact z.elim
theorem _root_.L2.Fun.okN {P : Program} {w : World} {K : PySem.W.Frag} {mg : Str → Option Value} {base : Heap} {x qual : Str} {st : Stmt} {f : Addr} {fd : FuncData} {N ps : List Str} {k : Nat} {sp : Sp} (F : Fun K x qual st f fd) (S : FnScope N ps (defScope st)) (len : ∀ vs H Q E, sp vs H Q E → vs.length = ps.length)
    (hbody : ∀ (cdv : Value) (A : Around) (outer : List PySem.Env) (s : Shared) (H : Hp) (vs : List V) (Q : VK) (E : XK), Room k (A.deeper (envOfC qual (defScope st) s.heap.objs.size f cdv)) → sp vs H Q E →
      ∃ t, PSs (cxOf (L2N.CX P w) P w K mg base N qual (defScope st) f cdv A outer s H E) (defBody st) t ∧ t { nx := fun _ H' => Q .non H', rt := Q } (L2.start N vs) H) : FnOk P w K mg base (L2N.CX P w) (k + 1) f fd ps sp := by
  obtain ⟨oc, od, kV, doc, pm, an, cdv, ct, osl, rfl, lk, hcd⟩ := F.ex
  exact fn_of lk hcd S len fun A outer s H vs Q E hr hsp => hbody cdv A outer s H vs Q E hr hsp
inductive D where
  | non | bl (b : Bool) | int (i : Int) | str (x : Str)
  | lst (xs : List D) | tup (xs : List D) | dic (kvs : List (Key × D))
  | obj (c : Nat) (fs : List (Str × D))
  | rf (n : Nat)
  | scr (ns : List Int)
  | exn (n : Nat)
  | dit (kvs : List (NestedKey × D))
  /-- a list; where it is owned, what it holds are lists that are owned too, each another -/
  | nst (xs : List D)
def exnO (kind : Value) (at_ : Addr) : HO := .ext fun heap => ∃ (ob : Obj) (parts : Array Value), heap.get? at_ = some ob ∧ L2N.Zn kind none ob ∧ ob.data = .fields parts

inductive Lab where
  | slot (i : Nat) | cell (n : Nat) | fld (n k : Nat)
def Lab.st : Lab → Bool
  | .slot _ => false
  | _ => true

structure Gh where
  Z : Hp
  lab : Addr → Option Lab
  mu : List Addr
  me : Option V := none

mutual
inductive Rep (K : PySem.W.Frag) (cl : ClsP) (mu : List Addr) (Z : Hp) : V → D → Prop
  | non : Rep K cl mu Z .non .non
  | bl (b : Bool) : Rep K cl mu Z (.bl b) (.bl b)
  | int (i : Int) : Rep K cl mu Z (.int i) (.int i)
  | str (x : Str) : Rep K cl mu Z (.str x) (.str x)
  | lst {a : Addr} {vs : List V} {ds : List D} : Z a = some (.lst vs) → RepAll K cl mu Z vs ds → Rep K cl mu Z (.ref a) (.lst ds)
  | tup {a : Addr} {vs : List V} {ds : List D} : SqT K Z a vs → RepAll K cl mu Z vs ds → Rep K cl mu Z (.ref a) (.tup ds)
  | dic {a : Addr} {vs : List (Key × V)} {ds : List (Key × D)} : Z a = some (.dK vs) → RepK K cl mu Z vs ds → Rep K cl mu Z (.ref a) (.dic ds)
  | obj {a dx : Addr} {c : Nat} {vs : List (Str × V)} {ds : List (Str × D)} : Z a = some (.ins (cl c) dx vs) → Z dx = some (.own a) → RepF K cl mu Z vs ds → Rep K cl mu Z (.ref a) (.obj c ds)
  | rf {n : Nat} {a : Addr} : mu[n]? = some a → Rep K cl mu Z (.ref a) (.rf n)
  | scr {a : Addr} {ns : List Int} : SqL K Z a (ns.map V.int) → Rep K cl mu Z (.ref a) (.scr ns)
  | exn {a : Addr} {n : Nat} : Z a = some (exnO (.ref (cl n)) a) → Rep K cl mu Z (.ref a) (.exn n)
  | dit {a : Addr} {vs : List NRow} {ds : List (NestedKey × D)} : Z a = some (nestO cl.P cl.w a vs) → RepN K cl mu Z vs ds → Rep K cl mu Z (.ref a) (.dit ds)
  | nst {a : Addr} {vs : List V} {ds : List D} : Z a = some (.lst vs) → RepAll K cl mu Z vs ds → Rep K cl mu Z (.ref a) (.nst ds)
inductive RepAll (K : PySem.W.Frag) (cl : ClsP) (mu : List Addr) (Z : Hp) : List V → List D → Prop
  | nil : RepAll K cl mu Z [] []
  | cons {v : V} {vs : List V} {d : D} {ds : List D} : Rep K cl mu Z v d → RepAll K cl mu Z vs ds → RepAll K cl mu Z (v :: vs) (d :: ds)
inductive RepK (K : PySem.W.Frag) (cl : ClsP) (mu : List Addr) (Z : Hp) : List (Key × V) → List (Key × D) → Prop
  | nil : RepK K cl mu Z [] []
  | cons {k : Key} {v : V} {vs : List (Key × V)} {d : D} {ds : List (Key × D)} : Rep K cl mu Z v d → RepK K cl mu Z vs ds → RepK K cl mu Z ((k, v) :: vs) ((k, d) :: ds)
inductive RepN (K : PySem.W.Frag) (cl : ClsP) (mu : List Addr) (Z : Hp) : List NRow → List (NestedKey × D) → Prop
  | nil : RepN K cl mu Z [] []
  | cons {k : NestedKey} {b : Addr} {v : V} {vs : List NRow} {d : D} {ds : List (NestedKey × D)} : KeyAt K Z k b → Rep K cl mu Z v d → RepN K cl mu Z vs ds → RepN K cl mu Z ((k, b, v) :: vs) ((k, d) :: ds)
inductive RepF (K : PySem.W.Frag) (cl : ClsP) (mu : List Addr) (Z : Hp) : List (Str × V) → List (Str × D) → Prop
  | nil : RepF K cl mu Z [] []
  | cons {k : Str} {v : V} {vs : List (Str × V)} {d : D} {ds : List (Str × D)} : Rep K cl mu Z v d → RepF K cl mu Z vs ds → RepF K cl mu Z ((k, v) :: vs) ((k, d) :: ds)
end

section
variable {K : PySem.W.Frag} {cl : ClsP} {mu mu' : List Addr} {Z Z' : Hp}
theorem sameT {H H' : Hp} {a : Addr} {xs : List V} (e : Same H H') (h : SqT K H a xs) : SqT K H' a xs := by
  rcases h with (h | ⟨o, h⟩) | h
  · exact .inl (.inl (e _ _ h))
  · exact .inl (.inr ⟨o, e _ _ h⟩)
  · exact .inr h
mutual
theorem Rep.mono (hz : Same Z Z') (hm : ∃ t, mu' = mu ++ t) : ∀ (d : D) (v : V), Rep K cl mu Z v d → Rep K cl mu' Z' v d
  | .non, _, h => by cases h; exact .non
  | .bl _, _, h => by cases h; exact .bl _
  | .int _, _, h => by cases h; exact .int _
  | .str _, _, h => by cases h; exact .str _
  | .lst ds, _, h => by
    cases h with
    | lst hs ha => exact .lst (hz _ _ hs) (RepAll.mono hz hm ds _ ha)
  | .tup ds, _, h => by
    cases h with
    | tup hs ha => exact .tup (sameT hz hs) (RepAll.mono hz hm ds _ ha)
  | .dic ds, _, h => by
    cases h with
    | dic hs ha => exact .dic (hz _ _ hs) (RepK.mono hz hm ds _ ha)
  | .obj c ds, _, h => by
    cases h with
    | obj hs hx ha => exact .obj (hz _ _ hs) (hz _ _ hx) (RepF.mono hz hm ds _ ha)
  | .rf n, _, h => by
    cases h with
    | rf e =>
      obtain ⟨t, rfl⟩ := hm
      exact .rf (by rw [List.getElem?_append_left (List.getElem?_eq_some_iff.mp e).1]; exact e)
  | .scr ns, _, h => by
    cases h with
    | scr hs => exact .scr (hz.seq hs)
  | .exn n, _, h => by
    cases h with
    | exn hs => exact .exn (hz _ _ hs)
  | .dit ds, _, h => by
    cases h with
    | dit hs ha => exact .dit (hz _ _ hs) (RepN.mono hz hm ds _ ha)
  | .nst ds, _, h => by
    cases h with
    | nst hs ha => exact .nst (hz _ _ hs) (RepAll.mono hz hm ds _ ha)
theorem RepAll.mono (hz : Same Z Z') (hm : ∃ t, mu' = mu ++ t) : ∀ (ds : List D) (vs : List V), RepAll K cl mu Z vs ds → RepAll K cl mu' Z' vs ds
  | [], _, h => by cases h; exact .nil
  | d :: ds, _, h => by
    cases h with
    | cons h1 h2 => exact .cons (Rep.mono hz hm d _ h1) (RepAll.mono hz hm ds _ h2)
theorem RepK.mono (hz : Same Z Z') (hm : ∃ t, mu' = mu ++ t) : ∀ (ds : List (Key × D)) (vs : List (Key × V)), RepK K cl mu Z vs ds → RepK K cl mu' Z' vs ds
  | [], _, h => by cases h; exact .nil
  | (k, d) :: ds, _, h => by
    cases h with
    | cons h1 h2 => exact .cons (Rep.mono hz hm d _ h1) (RepK.mono hz hm ds _ h2)
theorem RepN.mono (hz : Same Z Z') (hm : ∃ t, mu' = mu ++ t) : ∀ (ds : List (NestedKey × D)) (vs : List NRow), RepN K cl mu Z vs ds → RepN K cl mu' Z' vs ds
  | [], _, h => by cases h; exact .nil
  | (k, d) :: ds, _, h => by
    cases h with
    | cons h0 h1 h2 => exact .cons (KeyAt.mono' hz h0) (Rep.mono hz hm d _ h1) (RepN.mono hz hm ds _ h2)
theorem RepF.mono (hz : Same Z Z') (hm : ∃ t, mu' = mu ++ t) : ∀ (ds : List (Str × D)) (vs : List (Str × V)), RepF K cl mu Z vs ds → RepF K cl mu' Z' vs ds
  | [], _, h => by cases h; exact .nil
  | (k, d) :: ds, _, h => by
    cases h with
    | cons h1 h2 => exact .cons (Rep.mono hz hm d _ h1) (RepF.mono hz hm ds _ h2)
end
theorem RepAll.length : ∀ {vs : List V} {ds : List D}, RepAll K cl mu Z vs ds → vs.length = ds.length
  | _, _, .nil => rfl
  | _, _, .cons _ t => congrArg (· + 1) (RepAll.length t)
theorem RepAll.get : ∀ {vs : List V} {ds : List D} {i : Nat} {d : D}, RepAll K cl mu Z vs ds → ds[i]? = some d → ∃ v, vs[i]? = some v ∧ Rep K cl mu Z v d
  | _, _, _, _, .nil, e => by simp at e
  | _, _, 0, _, .cons r _, e => by simp at e; subst e; exact ⟨_, rfl, r⟩
  | _, _, i + 1, d, .cons _ t, e => by
    obtain ⟨v, h1, h2⟩ := RepAll.get (i := i) (d := d) t (by simpa using e)
    exact ⟨v, by simpa using h1, h2⟩
theorem RepAll.append : ∀ {vs ws : List V} {ds es : List D}, RepAll K cl mu Z vs ds → RepAll K cl mu Z ws es → RepAll K cl mu Z (vs ++ ws) (ds ++ es)
  | _, _, _, _, .nil, t => t
  | _, _, _, _, .cons r s, t => .cons r (RepAll.append s t)
theorem RepAll.take : ∀ {vs : List V} {ds : List D} (n : Nat), RepAll K cl mu Z vs ds → RepAll K cl mu Z (vs.take n) (ds.take n)
  | _, _, 0, _ => .nil
  | _, _, _ + 1, .nil => .nil
  | _, _, n + 1, .cons r t => .cons r (RepAll.take n t)
theorem RepAll.drop : ∀ {vs : List V} {ds : List D} (n : Nat), RepAll K cl mu Z vs ds → RepAll K cl mu Z (vs.drop n) (ds.drop n)
  | _, _, 0, r => r
  | _, _, _ + 1, .nil => .nil
  | _, _, n + 1, .cons _ t => RepAll.drop n t
theorem RepAll.set {v : V} {d : D} (r : Rep K cl mu Z v d) : ∀ {vs : List V} {ds : List D} (n : Nat), RepAll K cl mu Z vs ds → RepAll K cl mu Z (vs.set n v) (ds.set n d)
  | _, _, _, .nil => .nil
  | _, _, 0, .cons _ t => .cons r t
  | _, _, n + 1, .cons q t => .cons q (RepAll.set r n t)
theorem RepAll.replicate {vs : List V} {ds : List D} (h : RepAll K cl mu Z vs ds) : ∀ n : Nat, RepAll K cl mu Z (List.replicate n vs).flatten (List.replicate n ds).flatten
  | 0 => .nil
  | n + 1 => by
    rw [List.replicate_succ, List.replicate_succ, List.flatten_cons, List.flatten_cons]
    exact h.append (RepAll.replicate h n)
theorem RepAll.dropLast {vs : List V} {ds : List D} (h : RepAll K cl mu Z vs ds) : RepAll K cl mu Z vs.dropLast ds.dropLast := by
  rw [List.dropLast_eq_take, List.dropLast_eq_take, h.length]; exact h.take _
theorem RepAll.reverse {vs : List V} {ds : List D} (h : RepAll K cl mu Z vs ds) : RepAll K cl mu Z vs.reverse ds.reverse := by
  induction vs generalizing ds with
  | nil => cases h; exact .nil
  | cons v vs ih =>
    cases h with
    | cons r t =>
      rw [List.reverse_cons, List.reverse_cons]
      exact (ih t).append (.cons r .nil)
theorem RepAll.ints : ∀ (ns : List Int), RepAll K cl mu Z (ns.map V.int) (ns.map D.int)
  | [] => .nil
  | n :: r => .cons (.int n) (RepAll.ints r)
theorem RepAll.strs : ∀ (ns : List Str), RepAll K cl mu Z (ns.map V.str) (ns.map D.str)
  | [] => .nil
  | n :: r => .cons (.str n) (RepAll.strs r)
theorem RepF.lookup {f : Str} : ∀ {vs : List (Str × V)} {ds : List (Str × D)} {d : D}, RepF K cl mu Z vs ds → ds.lookup f = some d → ∃ v, vs.lookup f = some v ∧ Rep K cl mu Z v d
  | _, _, _, .nil, e => by simp at e
  | _, _, d, @RepF.cons _ _ _ _ k v vs d' ds r t, e => by
    rw [List.lookup_cons] at e ⊢
    cases q : f == k with
    | true => rw [q] at e; simp at e; subst e; exact ⟨v, by simp, r⟩
    | false => rw [q] at e; exact RepF.lookup t e
theorem RepF.lookupN {f : Str} : ∀ {vs : List (Str × V)} {ds : List (Str × D)}, RepF K cl mu Z vs ds → ds.lookup f = none → vs.lookup f = none
  | _, _, .nil, e => rfl
  | _, _, @RepF.cons _ _ _ _ k v vs d' ds r t, e => by
    rw [List.lookup_cons] at e ⊢
    cases q : f == k with
    | true => rw [q] at e; simp at e
    | false => rw [q] at e; exact RepF.lookupN t e
theorem RepF.length : ∀ {vs : List (Str × V)} {ds : List (Str × D)}, RepF K cl mu Z vs ds → vs.length = ds.length
  | _, _, .nil => rfl
  | _, _, .cons _ t => congrArg (· + 1) (RepF.length t)
theorem RepN.length : ∀ {vs : List NRow} {ds : List (NestedKey × D)}, RepN K cl mu Z vs ds → vs.length = ds.length
  | _, _, .nil => rfl
  | _, _, .cons _ _ t => congrArg (· + 1) (RepN.length t)
theorem RepK.length : ∀ {vs : List (Key × V)} {ds : List (Key × D)}, RepK K cl mu Z vs ds → vs.length = ds.length
  | _, _, .nil => rfl
  | _, _, .cons _ t => congrArg (· + 1) (RepK.length t)
end

inductive Inn (K : PySem.W.Frag) (cl : ClsP) (mu : List Addr) (Z H : Hp) : List Addr → List D → Prop
  | nil : Inn K cl mu Z H [] []
  | cons {b : Addr} {bs : List Addr} {vs : List V} {es ds : List D} : H b = some (.lst vs) → RepAll K cl mu Z vs es → Inn K cl mu Z H bs ds → Inn K cl mu Z H (b :: bs) (.lst es :: ds)
inductive Cont (K : PySem.W.Frag) (cl : ClsP) (mu : List Addr) (Z H : Hp) : Addr → D → List Addr → Prop
  | lst {a : Addr} {vs : List V} {ds : List D} : H a = some (.lst vs) → RepAll K cl mu Z vs ds → Cont K cl mu Z H a (.lst ds) [a]
  | dic {a : Addr} {vs : List (Key × V)} {ds : List (Key × D)} : H a = some (.dK vs) → RepK K cl mu Z vs ds → Cont K cl mu Z H a (.dic ds) [a]
  | dit {a : Addr} {vs : List NRow} {ds : List (NestedKey × D)} : H a = some (nestO cl.P cl.w a vs) → RepN K cl mu Z vs ds → Cont K cl mu Z H a (.dit ds) [a]
  | obj {a dx : Addr} {c : Nat} {vs : List (Str × V)} {ds : List (Str × D)} : H a = some (.ins (cl c) dx vs) → H dx = some (.own a) → RepF K cl mu Z vs ds → Cont K cl mu Z H a (.obj c ds) [a, dx]
  | nst {a : Addr} {bs : List Addr} {ds : List D} : H a = some (.lst (bs.map .ref)) → Inn K cl mu Z H bs ds → (a :: bs).Nodup → Cont K cl mu Z H a (.nst ds) (a :: bs)

inductive Slot where
  | un | fr (d : D) | ow (d : D) | bo (d : D) | me (d : D)
inductive Cell where
  | obj (c : Nat) (fs : List (Str × D))
  | box (d : D)
abbrev Store := List Cell
abbrev Env := List Slot

structure Stp (G : Gh) (H : Hp) (G' : Gh) (H' : Hp) : Prop where
  z : Same G.Z G'.Z
  lab : ∀ a l, G.lab a = some l → G'.lab a = some l
  keep : ∀ a o, H a = some o → (∀ l, G.lab a = some l → l.st = false) → H' a = some o
  labn : ∀ a l, G'.lab a = some l → G.lab a = some l ∨ H a = none
  zn : ∀ a o, G'.Z a = some o → G.Z a = some o ∨ H a = none
  mu : ∃ t, G'.mu = G.mu ++ t
  dom : ∀ a, H' a = none → H a = none

theorem Stp.refl (G : Gh) (H : Hp) : Stp G H G H := ⟨Same.refl _, fun _ _ h => h, fun _ _ h _ => h, fun _ _ h => .inl h, fun _ _ h => .inl h, ⟨[], by simp⟩, fun _ h => h⟩
theorem Stp.trans {G G1 G2 : Gh} {H H1 H2 : Hp} (a : Stp G H G1 H1) (b : Stp G1 H1 G2 H2) : Stp G H G2 H2 where
  z := a.z.trans b.z
  lab := fun x l h => b.lab x l (a.lab x l h)
  keep := fun x o h hl => b.keep x o (a.keep x o h hl) fun l e => by
    rcases a.labn x l e with q | q
    · exact hl l q
    · rw [h] at q; cases q
  labn := fun x l h => by
    rcases b.labn x l h with q | q
    · exact a.labn x l q
    · exact .inr (a.dom x q)
  zn := fun x o h => by
    rcases b.zn x o h with q | q
    · exact a.zn x o q
    · exact .inr (a.dom x q)
  mu := by
    obtain ⟨t, h1⟩ := a.mu
    obtain ⟨u, h2⟩ := b.mu
    exact ⟨t ++ u, by rw [h2, h1, List.append_assoc]⟩
  dom := fun x h => a.dom x (b.dom x h)

section
variable (K : PySem.W.Frag) (cl : ClsP)
abbrev RepG (G : Gh) (v : V) (d : D) : Prop := Rep K cl G.mu G.Z v d
abbrev ContG (G : Gh) (H : Hp) (a : Addr) (d : D) (as : List Addr) : Prop := Cont K cl G.mu G.Z H a d as
def OwnAt (G : Gh) (H : Hp) (l : Lab) (v : V) (d : D) : Prop := ∃ a as, v = .ref a ∧ ContG K cl G H a d as ∧ ∀ b ∈ as, G.lab b = some l
def NewAt (G : Gh) (H : Hp) (a : Addr) (d : D) (as : List Addr) : Prop := ContG K cl G H a d as ∧ ∀ b ∈ as, G.lab b = none ∧ G.Z b = none
def BorAt (G : Gh) (G0 : Gh) (H0 : Hp) (v : V) (d : D) : Prop := RepG K cl G v d ∨ ∃ a as, v = .ref a ∧ ContG K cl G H0 a d as ∧ ∀ b ∈ as, G0.lab b = none
def RepT (G : Gh) (H : Hp) (v : V) (d : D) : Prop := RepG K cl G v d ∨ ∃ a as, v = .ref a ∧ ContG K cl G H a d as ∧ ∀ b ∈ as, ∀ l, G.lab b = some l → l.st = false
def RepV (G : Gh) (H : Hp) (v : V) (d : D) : Prop := RepG K cl G v d ∨ ∃ a as, v = .ref a ∧ ContG K cl G H a d as ∧ True
def SlotOk (G0 : Gh) (H0 : Hp) (G : Gh) (H : Hp) (l : Lab) (s : Slot) (o : Option V) : Prop :=
  match s with
  | .un => True
  | .fr d => ∃ v, o = some v ∧ RepG K cl G v d
  | .ow d => ∃ v, o = some v ∧ OwnAt K cl G H l v d
  | .bo d => ∃ v, o = some v ∧ BorAt K cl G G0 H0 v d
  | .me d => ∃ v, o = some v ∧ OwnAt K cl G H l v d ∧ G0.me = some v
def Cell.dat : Cell → D
  | .obj c fs => .obj c fs
  | .box d => d
structure CellOk (G : Gh) (H : Hp) (n : Nat) (c : Cell) : Prop where
  ok : ∃ a as, G.mu[n]? = some a ∧ ContG K cl G H a c.dat as ∧ ∀ b ∈ as, G.lab b = some (.cell n)
structure GOk (S : Store) (G : Gh) (H : Hp) : Prop where
  zsub : Same G.Z H
  labz : ∀ a l, G.lab a = some l → G.Z a = none ∧ ∃ o, H a = some o
  st : ∀ n c, S[n]? = some c → CellOk K cl G H n c
  stn : G.mu.length = S.length
structure Rel (G0 : Gh) (H0 : Hp) (S : Store) (ρ : Env) (G : Gh) (σ : L2.St) (H : Hp) : Prop where
  ok : GOk K cl S G H
  len : ρ.length = σ.length
  slot : ∀ i s, ρ[i]? = some s → ∃ o, σ[i]? = some o ∧ SlotOk K cl G0 H0 G H (.slot i) s o
  stp : Stp G0 H0 G H
  s0 : ∀ a l, G0.lab a = some l → l.st = true
end
end PM
set_option maxHeartbeats 1000000
namespace PM
open PySem PySem.Spec PyProof.Rows L2
section
variable {K : PySem.W.Frag} {cl : ClsP} {G0 G G' G1 : Gh} {H0 H H' H1 : Hp} {S S' : Store} {ρ : Env} {σ : L2.St} {l : Lab} {s : Slot} {o : Option V} {v : V} {d : D} {a p : Addr} {as : List Addr}

theorem RepG.stp (s : Stp G H G' H') (h : RepG K cl G v d) : RepG K cl G' v d := Rep.mono s.z s.mu d v h
theorem Inn.mono {mu mu' : List Addr} {Z Z' : Hp} (hz : Same Z Z') (hm : ∃ t, mu' = mu ++ t) : ∀ {bs : List Addr} {ds : List D}, Inn K cl mu Z H bs ds → (∀ b ∈ bs, ∀ o, H b = some o → H' b = some o) → Inn K cl mu' Z' H' bs ds
  | _, _, .nil, _ => .nil
  | _, _, .cons h r t, hH => .cons (hH _ (by simp) _ h) (RepAll.mono hz hm _ _ r) (Inn.mono hz hm t fun b hb => hH b (List.mem_cons_of_mem _ hb))
theorem Inn.there {mu : List Addr} {Z : Hp} : ∀ {bs : List Addr} {ds : List D}, Inn K cl mu Z H bs ds → ∀ b ∈ bs, ∃ o, H b = some o
  | _, _, .nil, b, hb => by cases hb
  | _, _, .cons h r t, b, hb => by
    rcases List.mem_cons.mp hb with rfl | hb
    · exact ⟨_, h⟩
    · exact Inn.there t b hb
theorem Inn.length {mu : List Addr} {Z : Hp} : ∀ {bs : List Addr} {ds : List D}, Inn K cl mu Z H bs ds → bs.length = ds.length
  | _, _, .nil => rfl
  | _, _, .cons h r t => congrArg (· + 1) (Inn.length t)
theorem Inn.rep {mu : List Addr} {Z Z' : Hp} (hz : Same Z Z') : ∀ {bs : List Addr} {ds : List D}, Inn K cl mu Z H bs ds → (∀ b ∈ bs, ∀ o, H b = some o → Z' b = some o) → RepAll K cl mu Z' (bs.map V.ref) ds
  | _, _, .nil, _ => .nil
  | _, _, .cons h r t, hH => .cons (.lst (hH _ (by simp) _ h) (RepAll.mono hz ⟨[], by simp⟩ _ _ r)) (Inn.rep hz t fun b hb => hH b (List.mem_cons_of_mem _ hb))
theorem Cont.mono {mu mu' : List Addr} {Z Z' : Hp} (c : Cont K cl mu Z H a d as) (hH : ∀ b ∈ as, ∀ o, H b = some o → H' b = some o) (hz : Same Z Z') (hm : ∃ t, mu' = mu ++ t) : Cont K cl mu' Z' H' a d as := by
  cases c with
  | lst h r => exact .lst (hH _ (by simp) _ h) (RepAll.mono hz hm _ _ r)
  | dic h r => exact .dic (hH _ (by simp) _ h) (RepK.mono hz hm _ _ r)
  | dit h r => exact .dit (hH _ (by simp) _ h) (RepN.mono hz hm _ _ r)
  | obj h h2 r => exact .obj (hH _ (by simp) _ h) (hH _ (by simp) _ h2) (RepF.mono hz hm _ _ r)
  | nst h r n => exact .nst (hH _ (by simp) _ h) (r.mono hz hm fun b hb => hH b (List.mem_cons_of_mem _ hb)) n
theorem Cont.there {mu : List Addr} {Z : Hp} (c : Cont K cl mu Z H a d as) : ∀ b ∈ as, ∃ o, H b = some o := by
  cases c with
  | lst h r => intro b hb; simp at hb; subst hb; exact ⟨_, h⟩
  | dic h r => intro b hb; simp at hb; subst hb; exact ⟨_, h⟩
  | dit h r => intro b hb; simp at hb; subst hb; exact ⟨_, h⟩
  | obj h h2 r =>
    intro b hb
    simp at hb
    rcases hb with rfl | rfl
    · exact ⟨_, h⟩
    · exact ⟨_, h2⟩
  | nst h r n =>
    intro b hb
    rcases List.mem_cons.mp hb with rfl | hb
    · exact ⟨_, h⟩
    · exact r.there b hb
theorem Cont.mem {mu : List Addr} {Z : Hp} (c : Cont K cl mu Z H a d as) : a ∈ as := by cases c <;> simp
theorem Cont.rep {mu : List Addr} {Z Z' : Hp} (c : Cont K cl mu Z H a d as) (h : ∀ b ∈ as, ∀ o, H b = some o → Z' b = some o) (hz : Same Z Z') : Rep K cl mu Z' (.ref a) d := by
  cases c with
  | lst h1 r => exact .lst (h _ (by simp) _ h1) (RepAll.mono hz ⟨[], by simp⟩ _ _ r)
  | dic h1 r => exact .dic (h _ (by simp) _ h1) (RepK.mono hz ⟨[], by simp⟩ _ _ r)
  | dit h1 r => exact .dit (h _ (by simp) _ h1) (RepN.mono hz ⟨[], by simp⟩ _ _ r)
  | obj h1 h2 r => exact .obj (h _ (by simp) _ h1) (h _ (by simp) _ h2) (RepF.mono hz ⟨[], by simp⟩ _ _ r)
  | nst h1 r n => exact .nst (h _ (by simp) _ h1) (r.rep hz fun b hb => h b (List.mem_cons_of_mem _ hb))

theorem OwnAt.mono (h : OwnAt K cl G H l v d) (hH : ∀ b, G.lab b = some l → ∀ o, H b = some o → H' b = some o) (hz : Same G.Z G'.Z) (hl : ∀ b, G.lab b = some l → G'.lab b = some l) (hm : ∃ t, G'.mu = G.mu ++ t) : OwnAt K cl G' H' l v d := by
  obtain ⟨a, as, rfl, c, q⟩ := h
  exact ⟨a, as, rfl, c.mono (fun b hb o e => hH b (q b hb) o e) hz hm, fun b hb => hl b (q b hb)⟩
theorem BorAt.mono (h : BorAt K cl G G0 H0 v d) (hz : Same G.Z G'.Z) (hm : ∃ t, G'.mu = G.mu ++ t) : BorAt K cl G' G0 H0 v d := by
  rcases h with h | ⟨a, as, rfl, c, q⟩
  · exact .inl (Rep.mono hz hm d v h)
  · exact .inr ⟨a, as, rfl, c.mono (fun _ _ _ e => e) hz hm, q⟩
theorem SlotOk.mono (h : SlotOk K cl G0 H0 G H l s o) (hH : ∀ b, G.lab b = some l → ∀ o, H b = some o → H' b = some o) (hz : Same G.Z G'.Z) (hl : ∀ b, G.lab b = some l → G'.lab b = some l) (hm : ∃ t, G'.mu = G.mu ++ t) : SlotOk K cl G0 H0 G' H' l s o := by
  cases s with
  | un => trivial
  | fr d => obtain ⟨v, e, r⟩ := h; exact ⟨v, e, Rep.mono hz hm d v r⟩
  | ow d => obtain ⟨v, e, r⟩ := h; exact ⟨v, e, r.mono hH hz hl hm⟩
  | bo d => obtain ⟨v, e, r⟩ := h; exact ⟨v, e, r.mono hz hm⟩
  | me d => obtain ⟨v, e, r, q⟩ := h; exact ⟨v, e, r.mono hH hz hl hm, q⟩
theorem CellOk.mono {n : Nat} {c : Cell} (h : CellOk K cl G H n c) (hH : ∀ b l, G.lab b = some l → l.st = true → ∀ o, H b = some o → H' b = some o) (hz : Same G.Z G'.Z) (hl : ∀ b l, G.lab b = some l → l.st = true → G'.lab b = some l) (hm : ∃ t, G'.mu = G.mu ++ t) : CellOk K cl G' H' n c := by
  obtain ⟨a, as, h1, h2, h3⟩ := h.ok
  refine ⟨a, as, ?_, h2.mono (fun b hb o e => hH b _ (h3 b hb) rfl o e) hz hm, fun b hb => hl _ _ (h3 b hb) rfl⟩
  obtain ⟨t, e⟩ := hm
  rw [e, List.getElem?_append_left (List.getElem?_eq_some_iff.mp h1).1]
  exact h1

theorem Rel.grow (R : Rel K cl G0 H0 S ρ G σ H) (hH : Same H H') (hm : G'.mu = G.mu) (zs : Same G'.Z H') (lz : ∀ a l, G'.lab a = some l → G'.Z a = none ∧ ∃ o, H' a = some o) (st : Stp G H G' H') : Rel K cl G0 H0 S ρ G' σ H' := by
  have hm' : ∃ t, G'.mu = G.mu ++ t := ⟨[], by rw [hm]; simp⟩
  refine ⟨⟨zs, lz, fun n c e => (R.ok.st n c e).mono (fun b _ _ _ o e => hH b o e) st.z (fun b l e _ => st.lab b l e) hm', by rw [hm]; exact R.ok.stn⟩, R.len, fun i s e => ?_, R.stp.trans st, R.s0⟩
  obtain ⟨o, h1, h2⟩ := R.slot i s e
  exact ⟨o, h1, h2.mono (fun b _ o e => hH b o e) st.z (fun b e => st.lab b _ e) hm'⟩
theorem Rel.alloc (R : Rel K cl G0 H0 S ρ G σ H) (hp : H p = none) (x : HO) : Rel K cl G0 H0 S ρ G σ (upd H p x) ∧ Stp G H G (upd H p x) := by
  have sm : Same H (upd H p x) := fun b o e => by rw [upd_ne (ne_of_none e hp)]; exact e
  have st : Stp G H G (upd H p x) := ⟨Same.refl _, fun _ _ e => e, fun a o e _ => sm a o e, fun _ _ e => .inl e, fun _ _ e => .inl e, ⟨[], by simp⟩, fun a e => sm.free e⟩
  refine ⟨R.grow sm rfl (R.ok.zsub.trans sm) (fun a l e => ?_) st, st⟩
  obtain ⟨h1, o, h2⟩ := R.ok.labz a l e
  exact ⟨h1, o, sm a o h2⟩
noncomputable def Gh.fz (G : Gh) (H : Hp) (as : List Addr) : Gh := { G with Z := fun b => if b ∈ as then H b else G.Z b }
theorem Gh.fz_z {as : List Addr} (h : ∀ b ∈ as, G.Z b = none) : Same G.Z (G.fz H as).Z := fun b o e => by
  show (if b ∈ as then H b else G.Z b) = some o
  by_cases hb : b ∈ as
  · rw [h b hb] at e; cases e
  · rw [if_neg hb]; exact e
theorem Rel.fz (R : Rel K cl G0 H0 S ρ G σ H) (s01 : Stp G0 H0 G1 H1) (st : Stp G1 H1 G H) (q : ∀ b ∈ as, G.lab b = none ∧ G.Z b = none) (hn : ∀ b ∈ as, H1 b = none) :
    Rel K cl G0 H0 S ρ (G.fz H as) σ H ∧ Stp G1 H1 (G.fz H as) H := by
  have hz : Same G.Z (G.fz H as).Z := Gh.fz_z fun b hb => (q b hb).2
  have zs : Same (G.fz H as).Z H := fun b o e => by
    have e' : (if b ∈ as then H b else G.Z b) = some o := e
    by_cases hb : b ∈ as
    · rw [if_pos hb] at e'; exact e'
    · rw [if_neg hb] at e'; exact R.ok.zsub b o e'
  have zn : ∀ b o, (G.fz H as).Z b = some o → G.Z b = some o ∨ b ∈ as := fun b o e => by
    have e' : (if b ∈ as then H b else G.Z b) = some o := e
    by_cases hb : b ∈ as
    · exact .inr hb
    · rw [if_neg hb] at e'; exact .inl e'
  have lz : ∀ b l, (G.fz H as).lab b = some l → (G.fz H as).Z b = none ∧ ∃ o, H b = some o := fun b l e => by
    have e' : G.lab b = some l := e
    obtain ⟨h1, h2⟩ := R.ok.labz b l e'
    refine ⟨?_, h2⟩
    show (if b ∈ as then H b else G.Z b) = none
    rw [if_neg (fun hb => by rw [(q b hb).1] at e'; cases e')]
    exact h1
  refine ⟨⟨⟨zs, lz, fun n c e => (R.ok.st n c e).mono (fun _ _ _ _ _ e => e) hz (fun _ _ e _ => e) ⟨[], by simp [Gh.fz]⟩, R.ok.stn⟩, R.len, fun i s e => ?_, ?_, R.s0⟩, ?_⟩
  · obtain ⟨o, h1, h2⟩ := R.slot i s e
    exact ⟨o, h1, h2.mono (fun _ _ _ e => e) hz (fun _ e => e) ⟨[], by simp [Gh.fz]⟩⟩
  · refine ⟨R.stp.z.trans hz, R.stp.lab, R.stp.keep, R.stp.labn, fun b o e => ?_, R.stp.mu, R.stp.dom⟩
    rcases zn b o e with h | h
    · exact R.stp.zn b o h
    · exact .inr (s01.dom b (hn b h))
  · refine ⟨st.z.trans hz, st.lab, st.keep, st.labn, fun b o e => ?_, st.mu, st.dom⟩
    rcases zn b o e with h | h
    · exact st.zn b o h
    · exact .inr (hn b h)
theorem fz_at {as : List Addr} {b : Addr} (hb : b ∈ as) : (G.fz H as).Z b = H b := by
  show (if b ∈ as then H b else G.Z b) = H b
  rw [if_pos hb]
theorem Rel.freeze (R : Rel K cl G0 H0 S ρ G σ H) (s01 : Stp G0 H0 G1 H1) (st : Stp G1 H1 G H) (n : NewAt K cl G H a d as) (hn : ∀ b ∈ as, H1 b = none) :
    Rel K cl G0 H0 S ρ (G.fz H as) σ H ∧ Stp G1 H1 (G.fz H as) H ∧ RepG K cl (G.fz H as) (.ref a) d := by
  obtain ⟨c, q⟩ := n
  obtain ⟨h1, h2⟩ := R.fz s01 st q hn
  exact ⟨h1, h2, c.rep (fun b hb o e => (fz_at hb).trans e) (Gh.fz_z fun b hb => (q b hb).2)⟩
theorem Rel.nobody (R : Rel K cl G0 H0 S ρ G σ H) (hp : H p = none) : G.lab p = none ∧ G.Z p = none := by
  constructor
  · cases e : G.lab p with
    | none => rfl
    | some l =>
      obtain ⟨_, o, h⟩ := R.ok.labz p l e
      rw [hp] at h; cases h
  · exact R.ok.zsub.free hp
theorem Rel.newF (R : Rel K cl G0 H0 S ρ G σ H) (hp : H p = none) (x : HO) : Rel K cl G0 H0 S ρ (G.fz (upd H p x) [p]) σ (upd H p x) ∧ Stp G H (G.fz (upd H p x) [p]) (upd H p x) ∧ (G.fz (upd H p x) [p]).Z p = some x := by
  obtain ⟨R1, s1⟩ := R.alloc hp x
  obtain ⟨h1, h2⟩ := R1.fz (as := [p]) R.stp s1 (fun b hb => by simp at hb; subst hb; exact R.nobody hp) (fun b hb => by simp at hb; subst hb; exact hp)
  exact ⟨h1, h2, by rw [fz_at (by simp)]; exact upd_same⟩
theorem Rel.newL (R : Rel K cl G0 H0 S ρ G σ H) (hp : H p = none) {vs : List V} {ds : List D} (r : RepAll K cl G.mu G.Z vs ds) : Rel K cl G0 H0 S ρ G σ (upd H p (.lst vs)) ∧ Stp G H G (upd H p (.lst vs)) ∧ NewAt K cl G (upd H p (.lst vs)) p (.lst ds) [p] := by
  obtain ⟨R1, s1⟩ := R.alloc hp (.lst vs)
  exact ⟨R1, s1, .lst upd_same r, fun b hb => by simp at hb; subst hb; exact R.nobody hp⟩
theorem Rel.newD (R : Rel K cl G0 H0 S ρ G σ H) (hp : H p = none) {vs : List (Key × V)} {ds : List (Key × D)} (r : RepK K cl G.mu G.Z vs ds) : Rel K cl G0 H0 S ρ G σ (upd H p (.dK vs)) ∧ Stp G H G (upd H p (.dK vs)) ∧ NewAt K cl G (upd H p (.dK vs)) p (.dic ds) [p] := by
  obtain ⟨R1, s1⟩ := R.alloc hp (.dK vs)
  exact ⟨R1, s1, .dic upd_same r, fun b hb => by simp at hb; subst hb; exact R.nobody hp⟩
end
end PM
set_option maxHeartbeats 1000000
namespace PM
open PySem PySem.Spec PyProof.Rows L2

inductive Res (α : Type) where
  | ok (a : α) (S : Store) | exc (n : Nat) (S : Store) | stuck
def Res.bind {α β : Type} (r : Res α) (f : α → Store → Res β) : Res β :=
  match r with
  | .ok a S => f a S
  | .exc n S => .exc n S
  | .stuck => .stuck
def Res.opt {α : Type} (o : Option α) (S : Store) : Res α :=
  match o with
  | some a => .ok a S
  | none => .stuck
inductive Val where
  | fr (d : D) | ow (d : D)
abbrev Ex := Env → Store → Res D
abbrev Tx := Env → Store → Res Bool
abbrev Ax := Env → Store → Res (List D)
abbrev Fn := List D → Store → Res Val

abbrev Post (α β : Type) := Gh → Hp → Gh → Hp → α → β → Prop
def PostM {α β : Type} (P : Post α β) : Prop := ∀ G H G1 H1 G' H' d v, Stp G H G1 H1 → P G1 H1 G' H' d v → P G H G' H' d v

section
variable (K : PySem.W.Frag) (cl : ClsP)
def Aft {α β : Type} (P : Post α β) (W : WX) (G0 : Gh) (H0 : Hp) (ρ : Env) (σ : L2.St) (G : Gh) (H : Hp) (r : Res α) (Q : β → Hp → Prop) : Prop :=
  match r with
  | .ok d S' => ∀ v G' H', Rel K cl G0 H0 S' ρ G' σ H' → Stp G H G' H' → P G H G' H' d v → Q v H'
  | .exc n S' => ∀ G' H', Rel K cl G0 H0 S' ρ G' σ H' → Stp G H G' H' → W (.ref (cl n)) none σ H'
  | .stuck => False
def tX {α β : Type} (P : Post α β) (W : WX) (c : Env → Store → Res α) : L2.St → Hp → (β → Hp → Prop) → Prop := fun σ H Q =>
  ∃ (G0 : Gh) (H0 : Hp) (S : Store) (ρ : Env) (G : Gh), Rel K cl G0 H0 S ρ G σ H ∧ Aft K cl P W G0 H0 ρ σ G H (c ρ S) Q
def PF : Post D V := fun _ _ G' _ d v => RepG K cl G' v d
def PB : Post D V := fun _ _ G' H' d v => RepT K cl G' H' v d
def PN : Post D V := fun _ H G' H' d v => ∃ a as, v = .ref a ∧ NewAt K cl G' H' a d as ∧ ∀ b ∈ as, H b = none
def PT1 : Post Bool Bool := fun _ _ _ _ d v => v = d
inductive ArgsOk (G : Gh) (H : Hp) : List Bool → List V → List D → Prop
  | nil : ArgsOk G H [] [] []
  | fr {bm : List Bool} {v : V} {vs : List V} {d : D} {ds : List D} : RepG K cl G v d → ArgsOk G H bm vs ds → ArgsOk G H (false :: bm) (v :: vs) (d :: ds)
  | bo {bm : List Bool} {v : V} {vs : List V} {d : D} {ds : List D} : RepT K cl G H v d → ArgsOk G H bm vs ds → ArgsOk G H (true :: bm) (v :: vs) (d :: ds)
def PA1 (bm : List Bool) : Post (List D) (List V) := fun _ _ G' H' ds vs => ArgsOk K cl G' H' bm vs ds
end

section
variable {K : PySem.W.Frag} {cl : ClsP} {W : WX} {α β γ δ : Type} {G0 G G' G1 : Gh} {H0 H H' H1 : Hp} {S S' : Store} {ρ : Env} {σ : L2.St} {v : V} {d : D}
theorem pfM : PostM (PF K cl) := fun _ _ _ _ _ _ _ _ _ h => h
theorem pnM : PostM (PN K cl) := fun _ _ _ _ _ _ _ _ s ⟨a, as, e, n, h⟩ => ⟨a, as, e, n, fun b hb => s.dom b (h b hb)⟩
theorem ptM : PostM PT1 := fun _ _ _ _ _ _ _ _ _ h => h
theorem paM {bm : List Bool} : PostM (PA1 K cl bm) := fun _ _ _ _ _ _ _ _ _ h => h
theorem RepT.vw (h : RepT K cl G H v d) : RepV K cl G H v d := h.imp id fun ⟨a, as, e, c, _⟩ => ⟨a, as, e, c, trivial⟩
theorem RepT.stp (h : RepT K cl G H v d) (s : Stp G H G' H') : RepT K cl G' H' v d := by
  rcases h with h | ⟨a, as, rfl, c, q⟩
  · exact .inl (Rep.mono s.z s.mu d v h)
  · refine .inr ⟨a, as, rfl, c.mono (fun b hb o e => s.keep b o e (q b hb)) s.z s.mu, fun b hb l e => ?_⟩
    rcases s.labn b l e with h | h
    · exact q b hb l h
    · obtain ⟨o, e2⟩ := c.there b hb
      rw [h] at e2; cases e2
theorem ArgsOk.stp (s : Stp G H G' H') : ∀ {bm : List Bool} {vs : List V} {ds : List D}, ArgsOk K cl G H bm vs ds → ArgsOk K cl G' H' bm vs ds
  | _, _, _, .nil => .nil
  | _, _, _, .fr h t => .fr (Rep.mono s.z s.mu _ _ h) (ArgsOk.stp s t)
  | _, _, _, .bo h t => .bo (h.stp s) (ArgsOk.stp s t)
theorem ArgsOk.len : ∀ {bm : List Bool} {vs : List V} {ds : List D}, ArgsOk K cl G H bm vs ds → vs.length = bm.length ∧ ds.length = bm.length
  | _, _, _, .nil => ⟨rfl, rfl⟩
  | _, _, _, .fr h t => ⟨congrArg (· + 1) t.len.1, congrArg (· + 1) t.len.2⟩
  | _, _, _, .bo h t => ⟨congrArg (· + 1) t.len.1, congrArg (· + 1) t.len.2⟩

theorem Aft.pre {P : Post α β} (hP : PostM P) {r : Res α} {Q : β → Hp → Prop} (h : Aft K cl P W G0 H0 ρ σ G H r Q) (s : Stp G H G1 H1) : Aft K cl P W G0 H0 ρ σ G1 H1 r Q := by
  cases r with
  | ok d S' => exact fun v G' H' R s' p => h v G' H' R (s.trans s') (hP _ _ _ _ _ _ _ _ s p)
  | exc n S' => exact fun G' H' R s' => h G' H' R (s.trans s')
  | stuck => exact h
theorem tX.bind {P : Post α β} {Pa : Post γ δ} (hP : PostM P) {ca : Env → Store → Res γ} {f : γ → Store → Res α} {Q : β → Hp → Prop} {M : δ → Hp → Prop} (R : Rel K cl G0 H0 S ρ G σ H)
    (h : Aft K cl P W G0 H0 ρ σ G H ((ca ρ S).bind f) Q)
    (k : ∀ d v S1 G1 H1, Rel K cl G0 H0 S1 ρ G1 σ H1 → Stp G H G1 H1 → Pa G H G1 H1 d v → Aft K cl P W G0 H0 ρ σ G1 H1 (f d S1) Q → M v H1) : tX K cl Pa W ca σ H M := by
  refine ⟨G0, H0, S, ρ, G, R, ?_⟩
  cases e : ca ρ S with
  | ok d S1 =>
    rw [e] at h
    exact fun v G' H' R' s p => k d v S1 G' H' R' s p (Aft.pre hP h s)
  | exc n S1 =>
    rw [e] at h
    exact h
  | stuck =>
    rw [e] at h
    exact h.elim
end

theorem PE.weak {X : Cx} {e : Expr} {t t' : TE} (h : PE X e t) (w : ∀ σ H Q, t' σ H Q → t σ H Q) : PE X e t' := ⟨fun pins s σ H Q I q => h.run pins s σ H Q I (w σ H Q q)⟩
theorem PT.weak {X : Cx} {e : Expr} {t t' : TT} (h : PT X e t) (w : ∀ σ H Q, t' σ H Q → t σ H Q) : PT X e t' := ⟨fun pins s σ H Q I q => h.run pins s σ H Q I (w σ H Q q)⟩
theorem PW.weak {X : Cx} {e : Expr} {t t' : TT} (h : PW X e t) (w : ∀ σ H Q, t' σ H Q → t σ H Q) : PW X e t' := ⟨fun wh pins s σ H Q I q => h.run wh pins s σ H Q I (w σ H Q q)⟩
theorem PA.weak {X : Cx} {e : List Expr} {t t' : TA} (h : PA X e t) (w : ∀ σ H Q, t' σ H Q → t σ H Q) : PA X e t' := ⟨fun pos pins s σ H Q I q => h.run pos pins s σ H Q I (w σ H Q q)⟩
theorem PS.weak {X : Cx} {e : Stmt} {t t' : TS} (h : PS X e t) (w : ∀ D σ H, t' D σ H → t D σ H) : PS X e t' := ⟨fun pins s σ H D I q => h.run pins s σ H D I (w D σ H q)⟩
theorem PSs.weak {X : Cx} {e : List Stmt} {t t' : TS} (h : PSs X e t) (w : ∀ D σ H, t' D σ H → t D σ H) : PSs X e t' := ⟨fun pins s σ H D I q => h.run pins s σ H D I (w D σ H q)⟩

section
variable (X : Cx) (cl : ClsP) (W : WX)
abbrev SE (e : Expr) (c : Ex) : Prop := PE X e (tX X.K cl (PF X.K cl) W c)
abbrev SB (e : Expr) (c : Ex) : Prop := PE X e (tX X.K cl (PB X.K cl) W c)
abbrev SN (e : Expr) (c : Ex) : Prop := PE X e (tX X.K cl (PN X.K cl) W c)
abbrev STt (e : Expr) (c : Tx) : Prop := PT X e (tX X.K cl PT1 W c)
abbrev SW (e : Expr) (c : Tx) : Prop := PW X e (tX X.K cl PT1 W c)
abbrev SA (bm : List Bool) (es : List Expr) (c : Ax) : Prop := PA X es (tX X.K cl (PA1 X.K cl bm) W c)
end

section
variable {X : Cx} {cl : ClsP} {W : WX} {a b e : Expr} {c ca cb : Ex} {pos : Pos}
theorem SE.toB (h : SE X cl W e c) : SB X cl W e c := PE.weak h fun σ H Q ⟨G0, H0, S, ρ, G, R, q⟩ => by
  refine ⟨G0, H0, S, ρ, G, R, ?_⟩
  cases r : c ρ S with
  | ok d S' => rw [r] at q; exact fun v G' H' R' s p => q v G' H' R' s (.inl p)
  | exc n S' => rw [r] at q; exact q
  | stuck => rw [r] at q; exact q
theorem SN.toE (h : SN X cl W e c) : SE X cl W e c := PE.weak h fun σ H Q ⟨G0, H0, S, ρ, G, R, q⟩ => by
  refine ⟨G0, H0, S, ρ, G, R, ?_⟩
  cases r : c ρ S with
  | ok d S' =>
    rw [r] at q
    rintro v G' H' R' s ⟨a, as, rfl, n, hn⟩
    obtain ⟨R2, s2, rp⟩ := R'.freeze R.stp s n hn
    exact q _ _ _ R2 s2 rp
  | exc n S' => rw [r] at q; exact q
  | stuck => rw [r] at q; exact q

def eC (d : D) : Ex := fun _ S => .ok d S
theorem se_c {v : V} {d : D} (h : PE X e (tC v)) (r : ∀ mu Z, Rep X.K cl mu Z v d) : SE X cl W e (eC d) := PE.weak h fun σ H Q ⟨G0, H0, S, ρ, G, R, q⟩ => q v G H R (Stp.refl _ _) (r _ _)
theorem se_int {i : Int} {j pos} : SE X cl W (.Constant (.int i) j pos) (eC (.int i)) := se_c pe_int fun _ _ => .int i
theorem se_bl {i : Bool} {j pos} : SE X cl W (.Constant (.bool i) j pos) (eC (.bl i)) := se_c pe_bl fun _ _ => .bl i
theorem se_str {x : Str} {j pos} : SE X cl W (.Constant (.str x) j pos) (eC (.str x)) := se_c pe_str fun _ _ => .str x
def eV (i : Nat) : Ex := fun ρ S => match ρ[i]? with | some (.fr d) => .ok d S | _ => .stuck
def eB (i : Nat) : Ex := fun ρ S => match ρ[i]? with | some (.fr d) => .ok d S | some (.ow d) => .ok d S | some (.bo d) => .ok d S | some (.me d) => .ok d S | _ => .stuck
theorem se_v {i : Nat} {x : Str} (h : PE X (.Name x pos) (tVar i)) : SE X cl W (.Name x pos) (eV i) := PE.weak h fun σ H Q ⟨G0, H0, S, ρ, G, R, q⟩ => by
  cases r : ρ[i]? with
  | none => simp only [eV, r, Aft] at q
  | some s =>
    obtain ⟨o, ho, hs⟩ := R.slot i s r
    cases s with
    | fr d =>
      simp only [eV, r] at q
      obtain ⟨v, rfl, rp⟩ := hs
      exact ⟨v, ho, q v G H R (Stp.refl _ _) rp⟩
    | _ => simp only [eV, r, Aft] at q
theorem sb_v {i : Nat} {x : Str} (h : PE X (.Name x pos) (tVar i)) : SB X cl W (.Name x pos) (eB i) := PE.weak h fun σ H Q ⟨G0, H0, S, ρ, G, R, q⟩ => by
  cases r : ρ[i]? with
  | none => simp only [eB, r, Aft] at q
  | some s =>
    obtain ⟨o, ho, hs⟩ := R.slot i s r
    cases s with
    | fr d =>
      simp only [eB, r] at q
      obtain ⟨v, rfl, rp⟩ := hs
      exact ⟨v, ho, q v G H R (Stp.refl _ _) (.inl rp)⟩
    | ow d =>
      simp only [eB, r] at q
      obtain ⟨v, rfl, a, as, rfl, c, hl⟩ := hs
      refine ⟨_, ho, q _ G H R (Stp.refl _ _) (.inr ⟨a, as, rfl, c, fun b hb l e => ?_⟩)⟩
      rw [hl b hb] at e
      cases e
      rfl
    | bo d =>
      simp only [eB, r] at q
      obtain ⟨v, rfl, hb⟩ := hs
      rcases hb with hb | ⟨a, as, rfl, c, hl⟩
      · exact ⟨_, ho, q _ G H R (Stp.refl _ _) (.inl hb)⟩
      · refine ⟨_, ho, q _ G H R (Stp.refl _ _) (.inr ⟨a, as, rfl, c.mono (fun b hb o e => R.stp.keep b o e fun l e2 => by rw [hl b hb] at e2; cases e2) (Same.refl _) ⟨[], by simp⟩, fun b hb l e => ?_⟩)⟩
        rcases R.stp.labn b l e with h | h
        · rw [hl b hb] at h; cases h
        · obtain ⟨o, e2⟩ := c.there b hb
          rw [h] at e2; cases e2
    | me d =>
      simp only [eB, r] at q
      obtain ⟨v, rfl, ⟨a, as, rfl, c, hl⟩, _⟩ := hs
      refine ⟨_, ho, q _ G H R (Stp.refl _ _) (.inr ⟨a, as, rfl, c, fun b hb l e => ?_⟩)⟩
      rw [hl b hb] at e
      cases e
      rfl
    | un => simp only [eB, r, Aft] at q

def OpS (X : Cx) (cl : ClsP) (r : R2) (f : D → D → Option D) (P : Post D V) : Prop :=
  ∀ {G0 : Gh} {H0 : Hp} {S : Store} {ρ : Env} {G : Gh} {σ : L2.St} {H : Hp} {x y : V} {d e z : D} {Q : VK}, Rel X.K cl G0 H0 S ρ G σ H → RepV X.K cl G H x d → RepV X.K cl G H y e → f d e = some z →
    (∀ v G' H', Rel X.K cl G0 H0 S ρ G' σ H' → Stp G H G' H' → P G H G' H' z v → Q v H') → r x y H Q
def eBin (f : D → D → Option D) (ca cb : Ex) : Ex := fun ρ S => (ca ρ S).bind fun d S => (cb ρ S).bind fun e S => Res.opt (f d e) S
theorem bin_sem {r : R2} {f : D → D → Option D} {P : Post D V} (hP : PostM P) (hs : OpS X cl r f P) {σ : L2.St} {H : Hp} {Q : VK} (h : tX X.K cl P W (eBin f ca cb) σ H Q) : tOp r (tX X.K cl (PB X.K cl) W ca) (tX X.K cl (PB X.K cl) W cb) σ H Q := by
  obtain ⟨G0, H0, S, ρ, G, R, h⟩ := h
  refine tX.bind hP R h fun d x S1 G1 H1 R1 s1 p1 h1 => ?_
  refine tX.bind hP R1 h1 fun e y S2 G2 H2 R2 s2 p2 h2 => ?_
  cases q : f d e with
  | none => rw [q] at h2; exact h2.elim
  | some z =>
    rw [q] at h2
    exact hs R2 (RepT.stp p1 s2).vw (RepT.vw p2) q fun v G' H' R' s' p' => h2 v G' H' R' s' p'
theorem sx_bin {op : Operator} {r : R2} {f : D → D → Option D} {P : Post D V} (hP : PostM P) (ho : OpR X (binaryOp op) r) (hs : OpS X cl r f P) (ha : SB X cl W a ca) (hb : SB X cl W b cb) : PE X (.BinOp a op b pos) (tX X.K cl P W (eBin f ca cb)) :=
  PE.weak (pe_op ho ha hb) fun _ _ _ h => bin_sem hP hs h
theorem se_cmp {op : CmpOp} {r : R2} {f : D → D → Option D} (ho : OpR X (compareOp op) r) (hs : OpS X cl r f (PF X.K cl)) (ha : SB X cl W a ca) (hb : SB X cl W b cb) (hm : behindInMarks op b = false) : SE X cl W (.Compare a [op] [b] pos) (eBin f ca cb) :=
  PE.weak (pe_cmpR ho ha hb hm) fun _ _ _ h => bin_sem pfM hs h
theorem OpS.or {r r' : R2} {f f' : D → D → Option D} {P : Post D V} (h : OpS X cl r f P) (h' : OpS X cl r' f' P) : OpS X cl (fun x y H Q => r x y H Q ∨ r' x y H Q) (fun d e => match f d e with | some z => some z | none => f' d e) P := fun {G0 H0 S ρ G σ H x y d e z Q} R p1 p2 q k => by
  cases fq : f d e with
  | some z' =>
    simp only [fq] at q
    cases q
    exact .inl (h R p1 p2 fq k)
  | none =>
    simp only [fq] at q
    exact .inr (h' R p1 p2 q k)

section
variable {K : PySem.W.Frag} {G : Gh} {H : Hp} {v : V} {mu : List Addr} {Z : Hp}
theorem RepV.int {i : Int} (h : RepV K cl G H v (.int i)) : v = .int i := by
  rcases h with h | ⟨a, as, _, c, _⟩
  · cases h; rfl
  · cases c
theorem RepT.int {i : Int} (h : RepT K cl G H v (.int i)) : v = .int i := RepV.int h.vw
theorem RepV.str {i : Str} (h : RepV K cl G H v (.str i)) : v = .str i := by
  rcases h with h | ⟨a, as, _, c, _⟩
  · cases h; rfl
  · cases c
theorem RepT.str {i : Str} (h : RepT K cl G H v (.str i)) : v = .str i := RepV.str h.vw
theorem RepV.bl {i : Bool} (h : RepV K cl G H v (.bl i)) : v = .bl i := by
  rcases h with h | ⟨a, as, _, c, _⟩
  · cases h; rfl
  · cases c
theorem RepT.bl {i : Bool} (h : RepT K cl G H v (.bl i)) : v = .bl i := RepV.bl h.vw
theorem RepV.non (h : RepV K cl G H v .non) : v = .non := by
  rcases h with h | ⟨a, as, _, c, _⟩
  · cases h; rfl
  · cases c
theorem RepT.non (h : RepT K cl G H v .non) : v = .non := RepV.non h.vw
theorem RepV.lst {ds : List D} (h : RepV K cl G H v (.lst ds)) (zs : Same G.Z H) : ∃ a vs, v = .ref a ∧ H a = some (.lst vs) ∧ RepAll K cl G.mu G.Z vs ds := by
  rcases h with h | ⟨a, as, e, c, _⟩
  · cases h with
    | lst hs ha => exact ⟨_, _, rfl, zs _ _ hs, ha⟩
  · cases c with
    | lst h1 r => exact ⟨a, _, e, h1, r⟩
theorem RepT.lst {ds : List D} (h : RepT K cl G H v (.lst ds)) (zs : Same G.Z H) : ∃ a vs, v = .ref a ∧ H a = some (.lst vs) ∧ RepAll K cl G.mu G.Z vs ds := RepV.lst h.vw zs
theorem RepV.scr {ds : List Int} (h : RepV K cl G H v (.scr ds)) (zs : Same G.Z H) : ∃ a, v = .ref a ∧ SqL K H a (ds.map V.int) := by
  rcases h with h | ⟨a, as, e, c, _⟩
  · cases h with
    | scr hs => exact ⟨_, rfl, zs.seq hs⟩
  · cases c
theorem RepT.scr {ds : List Int} (h : RepT K cl G H v (.scr ds)) (zs : Same G.Z H) : ∃ a, v = .ref a ∧ SqL K H a (ds.map V.int) := RepV.scr h.vw zs
theorem RepV.tup {ds : List D} (h : RepV K cl G H v (.tup ds)) (zs : Same G.Z H) : ∃ a vs, v = .ref a ∧ SqT K H a vs ∧ RepAll K cl G.mu G.Z vs ds := by
  rcases h with h | ⟨a, as, e, c, _⟩
  · cases h with
    | tup hs ha => exact ⟨_, _, rfl, sameT zs hs, ha⟩
  · cases c
theorem RepT.tup {ds : List D} (h : RepT K cl G H v (.tup ds)) (zs : Same G.Z H) : ∃ a vs, v = .ref a ∧ SqT K H a vs ∧ RepAll K cl G.mu G.Z vs ds := RepV.tup h.vw zs
theorem RepV.dic {ds : List (Key × D)} (h : RepV K cl G H v (.dic ds)) (zs : Same G.Z H) : ∃ a vs, v = .ref a ∧ H a = some (.dK vs) ∧ RepK K cl G.mu G.Z vs ds := by
  rcases h with h | ⟨a, as, e, c, _⟩
  · cases h with
    | dic hs ha => exact ⟨_, _, rfl, zs _ _ hs, ha⟩
  · cases c with
    | dic h1 r => exact ⟨a, _, e, h1, r⟩
theorem RepT.dic {ds : List (Key × D)} (h : RepT K cl G H v (.dic ds)) (zs : Same G.Z H) : ∃ a vs, v = .ref a ∧ H a = some (.dK vs) ∧ RepK K cl G.mu G.Z vs ds := RepV.dic h.vw zs
theorem RepV.dit {ds : List (NestedKey × D)} (h : RepV K cl G H v (.dit ds)) (zs : Same G.Z H) : ∃ a vs, v = .ref a ∧ H a = some (nestO cl.P cl.w a vs) ∧ RepN K cl G.mu G.Z vs ds := by
  rcases h with h | ⟨a, as, e, c, _⟩
  · cases h with
    | dit hs ha => exact ⟨_, _, rfl, zs _ _ hs, ha⟩
  · cases c with
    | dit h1 r => exact ⟨a, _, e, h1, r⟩
theorem RepT.dit {ds : List (NestedKey × D)} (h : RepT K cl G H v (.dit ds)) (zs : Same G.Z H) : ∃ a vs, v = .ref a ∧ H a = some (nestO cl.P cl.w a vs) ∧ RepN K cl G.mu G.Z vs ds := RepV.dit h.vw zs
end
end
end PM
set_option maxHeartbeats 1000000
namespace PM
open PySem PySem.Spec PyProof.Rows L2

theorem lim_ok {n : Nat} (h : n ≤ 1000000) : n ≤ sizeLine := Nat.le_trans h (by rw [sizeLine_eq]; decide)
theorem lim_lt {n : Nat} (h : n < 1000000) : n < sizeLine := Nat.lt_of_lt_of_le h (by rw [sizeLine_eq]; decide)

section
variable {X : Cx} {cl : ClsP} {W : WX} {a b e c : Expr} {ca cb cc : Ex} {pos : Pos}

def oAdd : D → D → Option D
  | .int i, .int j => some (.int (i + j))
  | .str x, .str y => if x.length + y.length ≤ 1000000 then some (.str (x ++ y)) else none
  | .lst xs, .lst ys => if xs.length + ys.length ≤ 1000000 then some (.lst (xs ++ ys)) else none
  | .tup xs, .tup ys => if xs.length + ys.length ≤ 1000000 then some (.tup (xs ++ ys)) else none
  | _, _ => none
def oCat : D → D → Option D
  | .lst xs, .lst ys => if xs.length + ys.length ≤ 1000000 then some (.lst (xs ++ ys)) else none
  | _, _ => none
theorem OpS.fz {r : R2} {f : D → D → Option D} (h : OpS X cl r f (PN X.K cl)) : OpS X cl r f (PF X.K cl) := fun R p1 p2 q k => by
  refine h R p1 p2 q fun v G' H' R' s ⟨a, as, e, n, hn⟩ => ?_
  subst e
  obtain ⟨R2, s2, rp⟩ := R'.freeze R.stp s n hn
  exact k _ _ _ R2 s2 rp
theorem os_cat : OpS X cl rCat oCat (PN X.K cl) := fun {G0 H0 S ρ G σ H x y d e z Q} R p1 p2 q k => by
  cases d <;> cases e <;> simp only [oCat, reduceCtorEq] at q
  rename_i xs ys
  split at q
  · cases q
    rename_i hz
    obtain ⟨a1, vs, rfl, h1, r1⟩ := p1.lst R.ok.zsub
    obtain ⟨a2, ws, rfl, h2, r2⟩ := p2.lst R.ok.zsub
    refine ⟨a1, a2, vs, ws, rfl, rfl, h1, h2, by rw [r1.length, r2.length]; exact lim_ok hz, fun p hp => ?_⟩
    obtain ⟨R', s', n⟩ := R.newL hp (r1.append r2)
    exact k _ _ _ R' s' ⟨p, [p], rfl, n, fun b hb => by simp at hb; subst hb; exact hp⟩
  · cases q
def rAddAll (K : PySem.W.Frag) : R2 := fun x y H Q => rI0 (fun i j => .int (i + j)) x y H Q ∨ (∃ i j, x = .str i ∧ y = .str j ∧ i.length + j.length ≤ sizeLine ∧ Q (.str (i ++ j)) H) ∨ rCat x y H Q ∨ rCatA K x y H Q
theorem op_addAll : OpR X (binaryOp .Add) (rAddAll X.K) := op_add.or (op_add_str.or (op_cat.or op_catA))
theorem os_add : OpS X cl (rAddAll X.K) oAdd (PF X.K cl) := fun {G0 H0 S ρ G σ H x y d e z Q} R p1 p2 q k => by
  cases d <;> cases e <;> simp only [oAdd, reduceCtorEq] at q
  · rename_i i j
    cases q
    have e1 := p1.int
    have e2 := p2.int
    exact .inl ⟨i, j, e1, e2, k _ G H R (Stp.refl _ _) (.int _)⟩
  · rename_i i j
    split at q
    · cases q
      rename_i hz
      exact .inr (.inl ⟨i, j, p1.str, p2.str, lim_ok hz, k _ G H R (Stp.refl _ _) (.str _)⟩)
    · cases q
  · rename_i xs ys
    refine .inr (.inr (.inl (OpS.fz os_cat R p1 p2 (z := z) ?_ k)))
    exact q
  · rename_i xs ys
    split at q
    · cases q
      rename_i hz
      obtain ⟨a1, vs, rfl, h1, r1⟩ := p1.tup R.ok.zsub
      obtain ⟨a2, ws, rfl, h2, r2⟩ := p2.tup R.ok.zsub
      refine .inr (.inr (.inr ⟨a1, a2, vs, ws, rfl, rfl, h1, h2, by rw [r1.length, r2.length]; exact lim_ok hz, fun h => ?_, fun _ h => ?_, fun _ _ p hp => ?_⟩))
      · subst h
        cases r1
        rcases p2 with p2 | ⟨_, _, _, c, _⟩
        · exact k _ G H R (Stp.refl _ _) p2
        · cases c
      · subst h
        cases r2
        rw [List.append_nil] at k
        rcases p1 with p1 | ⟨_, _, _, c, _⟩
        · exact k _ G H R (Stp.refl _ _) p1
        · cases c
      · obtain ⟨R', s', n⟩ := R.newF hp (.tup (vs ++ ws))
        exact k _ _ _ R' s' (.tup (.inl (.inl n)) (RepAll.mono s'.z s'.mu _ _ (r1.append r2)))
    · cases q
theorem se_add (ha : SB X cl W a ca) (hb : SB X cl W b cb) : SE X cl W (.BinOp a .Add b pos) (eBin oAdd ca cb) := sx_bin pfM op_addAll os_add ha hb
theorem sn_add (ha : SB X cl W a ca) (hb : SB X cl W b cb) : SN X cl W (.BinOp a .Add b pos) (eBin oCat ca cb) := sx_bin pnM op_cat os_cat ha hb

theorem os_int {C : Int → Int → Prop} {g : Int → Int → D} {gv : Int → Int → V} {f : D → D → Option D} (hf : ∀ d e z, f d e = some z → ∃ i j, d = .int i ∧ e = .int j ∧ C i j ∧ z = g i j) (hg : ∀ i j mu Z, Rep X.K cl mu Z (gv i j) (g i j)) : OpS X cl (rI C gv) f (PF X.K cl) := fun {G0 H0 S ρ G σ H x y d e z Q} R p1 p2 q k => by
  obtain ⟨i, j, rfl, rfl, hc, rfl⟩ := hf d e z q
  exact ⟨i, j, p1.int, p2.int, hc, k _ G H R (Stp.refl _ _) (hg i j _ _)⟩
theorem os_int0 {g : Int → Int → D} {gv : Int → Int → V} {f : D → D → Option D} (hf : ∀ d e z, f d e = some z → ∃ i j, d = .int i ∧ e = .int j ∧ z = g i j) (hg : ∀ i j mu Z, Rep X.K cl mu Z (gv i j) (g i j)) : OpS X cl (rI0 gv) f (PF X.K cl) := fun {G0 H0 S ρ G σ H x y d e z Q} R p1 p2 q k => by
  obtain ⟨i, j, rfl, rfl, rfl⟩ := hf d e z q
  exact ⟨i, j, p1.int, p2.int, k _ G H R (Stp.refl _ _) (hg i j _ _)⟩
def oI (C : Int → Int → Bool) (g : Int → Int → D) : D → D → Option D
  | .int i, .int j => if C i j then some (g i j) else none
  | _, _ => none
theorem oI_some {C : Int → Int → Bool} {g : Int → Int → D} (d e z : D) (h : oI C g d e = some z) : ∃ i j, d = .int i ∧ e = .int j ∧ C i j = true ∧ z = g i j := by
  cases d <;> cases e <;> simp only [oI, reduceCtorEq] at h
  rename_i i j
  split at h
  · cases h
    exact ⟨i, j, rfl, rfl, by assumption, rfl⟩
  · cases h
def oI0 (g : Int → Int → D) : D → D → Option D
  | .int i, .int j => some (g i j)
  | _, _ => none
theorem oI0_some {g : Int → Int → D} (d e z : D) (h : oI0 g d e = some z) : ∃ i j, d = .int i ∧ e = .int j ∧ z = g i j := by
  cases d <;> cases e <;> simp only [oI0, reduceCtorEq] at h
  cases h
  exact ⟨_, _, rfl, rfl, rfl⟩
def cMul (i j : Int) : Bool := decide ((-(2 ^ 64) < i ∧ i < 2 ^ 64) ∨ (-(2 ^ 64) < j ∧ j < 2 ^ 64))
def cDiv (_ j : Int) : Bool := decide (0 < j ∧ j < 1073741824)
def cMod (_ j : Int) : Bool := decide (0 < j)
def cPow (i j : Int) : Bool := decide (0 ≤ j ∧ j ≤ 1000000 ∧ i.natAbs < 2 ^ 64)
abbrev oSub := oI0 fun i j => .int (i - j)
abbrev oMulI := oI cMul fun i j => .int (i * j)
abbrev oDiv := oI cDiv fun i j => .int (i / j)
abbrev oMod := oI cMod fun i j => .int (i % j)
abbrev oPow := oI cPow fun i j => .int (i ^ j.toNat)
abbrev oLt := oI0 fun i j => .bl (decide (i < j))
abbrev oGt := oI0 fun i j => .bl (decide (j < i))
theorem os_sub : OpS X cl (rI0 fun i j => .int (i - j)) oSub (PF X.K cl) := os_int0 oI0_some fun _ _ _ _ => .int _
theorem cMul_ok {i j : Int} (h : cMul i j = true) : CMul i j := by
  unfold cMul at h
  unfold CMul
  simpa only [decide_eq_true_eq] using h
theorem cDiv_ok {i j : Int} (h : cDiv i j = true) : CDiv i j := by
  unfold cDiv at h
  unfold CDiv
  simpa only [decide_eq_true_eq] using h
theorem cPow_ok {i j : Int} (h : cPow i j = true) : CPow i j := by
  unfold cPow at h
  unfold CPow
  simpa only [decide_eq_true_eq] using h
theorem os_mul : OpS X cl (rI CMul fun i j => .int (i * j)) oMulI (PF X.K cl) := os_int (fun d e z h => let ⟨i, j, a, b, c, q⟩ := oI_some d e z h; ⟨i, j, a, b, cMul_ok c, q⟩) fun _ _ _ _ => .int _
theorem os_div : OpS X cl (rI CDiv fun i j => .int (i / j)) oDiv (PF X.K cl) := os_int (fun d e z h => let ⟨i, j, a, b, c, q⟩ := oI_some d e z h; ⟨i, j, a, b, cDiv_ok c, q⟩) fun _ _ _ _ => .int _
theorem os_mod : OpS X cl (rI (fun _ j => 0 < j) fun i j => .int (i % j)) oMod (PF X.K cl) := os_int (fun d e z h => let ⟨i, j, a, b, c, q⟩ := oI_some d e z h; ⟨i, j, a, b, of_decide_eq_true c, q⟩) fun _ _ _ _ => .int _
theorem os_pow : OpS X cl (rI CPow fun i j => .int (i ^ j.toNat)) oPow (PF X.K cl) := os_int (fun d e z h => let ⟨i, j, a, b, c, q⟩ := oI_some d e z h; ⟨i, j, a, b, cPow_ok c, q⟩) fun _ _ _ _ => .int _
theorem os_lt : OpS X cl (rI0 fun i j => .bl (decide (i < j))) oLt (PF X.K cl) := os_int0 oI0_some fun _ _ _ _ => .bl _
theorem os_gt : OpS X cl (rI0 fun i j => .bl (decide (j < i))) oGt (PF X.K cl) := os_int0 oI0_some fun _ _ _ _ => .bl _
theorem se_sub (ha : SB X cl W a ca) (hb : SB X cl W b cb) : SE X cl W (.BinOp a .Sub b pos) (eBin oSub ca cb) := sx_bin pfM op_sub os_sub ha hb
theorem se_div (ha : SB X cl W a ca) (hb : SB X cl W b cb) : SE X cl W (.BinOp a .FloorDiv b pos) (eBin oDiv ca cb) := sx_bin pfM op_fdiv os_div ha hb
theorem se_mod (ha : SB X cl W a ca) (hb : SB X cl W b cb) : SE X cl W (.BinOp a .Mod b pos) (eBin oMod ca cb) := sx_bin pfM op_mod os_mod ha hb
theorem se_pow (ha : SB X cl W a ca) (hb : SB X cl W b cb) : SE X cl W (.BinOp a .Pow b pos) (eBin oPow ca cb) := sx_bin pfM op_pow os_pow ha hb
theorem se_gt (ha : SB X cl W a ca) (hb : SB X cl W b cb) : SE X cl W (.Compare a [.Gt] [b] pos) (eBin oGt ca cb) := se_cmp op_gt os_gt ha hb (nomark _)
theorem se_mul (ha : SB X cl W a ca) (hb : SB X cl W b cb) : SE X cl W (.BinOp a .Mult b pos) (eBin oMulI ca cb) := sx_bin pfM op_mul os_mul ha hb

def eUn (f : D → Option D) (ca : Ex) : Ex := fun ρ S => (ca ρ S).bind fun d S => Res.opt (f d) S
def oNeg : D → Option D
  | .int i => some (.int (-i))
  | _ => none
theorem se_neg (ha : SB X cl W a ca) : SE X cl W (.UnaryOp .USub a pos) (eUn oNeg ca) := PE.weak (pe_un un_neg ha) fun σ H Q ⟨G0, H0, S, ρ, G, R, h⟩ => by
  refine tX.bind pfM R h fun d x S1 G1 H1 R1 s1 p1 h1 => ?_
  cases d <;> simp only [oNeg, Res.opt, Aft] at h1
  rename_i i
  exact ⟨i, RepT.int p1, h1 _ G1 H1 R1 (Stp.refl _ _) (.int _)⟩

mutual
def D.py : D → Option PyData
  | .non => some .none
  | .bl b => some (.bool b)
  | .int i => some (.int i)
  | .str x => some (.str x)
  | .lst xs => (D.pys xs).map .list
  | .tup xs => (D.pys xs).map .tuple
  | _ => none
def D.pys : List D → Option (List PyData)
  | [] => some []
  | d :: ds => match D.py d, D.pys ds with
    | some p, some ps => some (p :: ps)
    | _, _ => none
end
section
variable {K : PySem.W.Frag} {mu : List Addr} {Z H : Hp} {G : Gh} {v : V}
mutual
theorem Rep.dp (hz : Same Z H) : ∀ (d : D) (v : V) (p : PyData), Rep K cl mu Z v d → d.py = some p → Dp K H v p
  | .non, _, _, h, e => by cases h; simp only [D.py] at e; cases e; exact .non
  | .bl _, _, _, h, e => by cases h; simp only [D.py] at e; cases e; exact .bl _
  | .int _, _, _, h, e => by cases h; simp only [D.py] at e; cases e; exact .int _
  | .str _, _, _, h, e => by cases h; simp only [D.py] at e; cases e; exact .str _
  | .lst ds, _, p, h, e => by
    cases h with
    | lst hs ha =>
      simp only [D.py] at e
      cases q : D.pys ds with
      | none => rw [q] at e; cases e
      | some ps =>
        rw [q] at e
        cases e
        exact .lst (.inl (.inl (hz _ _ hs))) (RepAll.dp hz ds _ ps ha q)
  | .tup ds, _, p, h, e => by
    cases h with
    | tup hs ha =>
      simp only [D.py] at e
      cases q : D.pys ds with
      | none => rw [q] at e; cases e
      | some ps =>
        rw [q] at e
        cases e
        exact .tup (sameT hz hs) (RepAll.dp hz ds _ ps ha q)
  | .dic _, _, _, _, e => by simp only [D.py] at e; cases e
  | .obj _ _, _, _, _, e => by simp only [D.py] at e; cases e
  | .rf _, _, _, _, e => by simp only [D.py] at e; cases e
  | .scr _, _, _, _, e => by simp only [D.py] at e; cases e
theorem RepAll.dp (hz : Same Z H) : ∀ (ds : List D) (vs : List V) (ps : List PyData), RepAll K cl mu Z vs ds → D.pys ds = some ps → DpAll K H vs ps
  | [], _, _, h, e => by cases h; simp only [D.pys] at e; cases e; exact .nil
  | d :: ds, _, _, h, e => by
    cases h with
    | cons h1 h2 =>
      simp only [D.pys] at e
      cases q1 : d.py with
      | none => rw [q1] at e; cases e
      | some p =>
        cases q2 : D.pys ds with
        | none => rw [q1, q2] at e; cases e
        | some ps =>
          rw [q1, q2] at e
          cases e
          exact .cons (Rep.dp hz d _ p h1 q1) (RepAll.dp hz ds _ ps h2 q2)
end
theorem RepV.dp {d : D} {p : PyData} (h : RepV K cl G H v d) (zs : Same G.Z H) (e : d.py = some p) : Dp K H v p := by
  rcases h with h | ⟨a, as, rfl, c, _⟩
  · exact Rep.dp zs d v p h e
  · cases c with
    | @lst vs ds h1 r =>
      simp only [D.py] at e
      cases q : D.pys ds with
      | none => rw [q] at e; cases e
      | some ps =>
        rw [q] at e
        cases e
        exact .lst (.inl (.inl h1)) (RepAll.dp zs ds _ ps r q)
    | dic h1 r => simp only [D.py] at e; cases e
    | dit h1 r => simp only [D.py] at e; cases e
    | nst h1 r n => simp only [D.py] at e; cases e
    | obj h1 h2 r => simp only [D.py] at e; cases e
theorem RepT.dp {d : D} {p : PyData} (h : RepT K cl G H v d) (zs : Same G.Z H) (e : d.py = some p) : Dp K H v p := RepV.dp h.vw zs e
mutual
theorem D.py_plain : ∀ (d : D) (p : PyData), d.py = some p → p.plain = true
  | .non, _, e => by simp only [D.py] at e; cases e; rfl
  | .bl _, _, e => by simp only [D.py] at e; cases e; rfl
  | .int _, _, e => by simp only [D.py] at e; cases e; rfl
  | .str _, _, e => by simp only [D.py] at e; cases e; rfl
  | .lst ds, _, e => by
    simp only [D.py] at e
    cases q : D.pys ds with
    | none => rw [q] at e; cases e
    | some ps => rw [q] at e; cases e; simp only [PyData.plain]; exact D.pys_plain ds ps q
  | .tup ds, _, e => by
    simp only [D.py] at e
    cases q : D.pys ds with
    | none => rw [q] at e; cases e
    | some ps => rw [q] at e; cases e; simp only [PyData.plain]; exact D.pys_plain ds ps q
  | .dic _, _, e => by simp only [D.py] at e; cases e
  | .obj _ _, _, e => by simp only [D.py] at e; cases e
  | .rf _, _, e => by simp only [D.py] at e; cases e
  | .scr _, _, e => by simp only [D.py] at e; cases e
theorem D.pys_plain : ∀ (ds : List D) (ps : List PyData), D.pys ds = some ps → PyData.plainAll ps = true
  | [], _, e => by simp only [D.pys] at e; cases e; rfl
  | d :: ds, _, e => by
    simp only [D.pys] at e
    cases q1 : d.py with
    | none => rw [q1] at e; cases e
    | some p =>
      cases q2 : D.pys ds with
      | none => rw [q1, q2] at e; cases e
      | some ps =>
        rw [q1, q2] at e
        cases e
        simp only [PyData.plainAll, D.py_plain d p q1, D.pys_plain ds ps q2, Bool.and_self]
end
end
def rEqP (K : PySem.W.Frag) : R2 := fun x y H Q => ∃ d e, Dp K H x d ∧ Dp K H y e ∧ d.plain = true ∧ e.plain = true ∧ min d.depth e.depth ≤ 60 ∧ Q (.bl (PyData.eqv d e)) H
def rNeP (K : PySem.W.Frag) : R2 := fun x y H Q => ∃ d e, Dp K H x d ∧ Dp K H y e ∧ d.plain = true ∧ e.plain = true ∧ min d.depth e.depth ≤ 60 ∧ Q (.bl (!PyData.eqv d e)) H
theorem op_eqP (hu : X.A.units + 64 < cLine) : OpR X (compareOp .Eq) (rEqP X.K) := by
  intro pins s σ H x y v u Q I rx ry h
  obtain ⟨d, e, hd, he, sd, se, hm, q⟩ := h
  obtain ⟨as, r1⟩ := Dp.reads I d x v hd rx
  obtain ⟨bs, r2⟩ := Dp.reads I e y u he ry
  exact SeqAt.eq_plain r1 r2 sd se (by omega) ⟨.bl _, H, I, rfl, q⟩
theorem op_neP (hu : X.A.units + 64 < cLine) : OpR X (compareOp .NotEq) (rNeP X.K) := by
  intro pins s σ H x y v u Q I rx ry h
  obtain ⟨d, e, hd, he, sd, se, hm, q⟩ := h
  obtain ⟨as, r1⟩ := Dp.reads I d x v hd rx
  obtain ⟨bs, r2⟩ := Dp.reads I e y u he ry
  exact SeqAt.ne_plain r1 r2 sd se (by omega) ⟨.bl _, H, I, rfl, q⟩
def D.eq? (d e : D) : Option Bool := match d.py, e.py with
  | some p, some q => if min p.depth q.depth ≤ 60 then some (PyData.eqv p q) else none
  | _, _ => none
def oEq (d e : D) : Option D := (D.eq? d e).map .bl
def oNe (d e : D) : Option D := (D.eq? d e).map fun b => .bl (!b)
theorem D.eq_some {d e : D} {k : Bool} (h : D.eq? d e = some k) : ∃ p q, d.py = some p ∧ e.py = some q ∧ min p.depth q.depth ≤ 60 ∧ k = PyData.eqv p q := by
  unfold D.eq? at h
  cases q1 : d.py with
  | none => rw [q1] at h; cases h
  | some p =>
    cases q2 : e.py with
    | none => rw [q1, q2] at h; cases h
    | some q =>
      rw [q1, q2] at h
      simp only at h
      split at h
      · cases h
        exact ⟨p, q, rfl, rfl, by assumption, rfl⟩
      · cases h
theorem os_eq : OpS X cl (rEqP X.K) oEq (PF X.K cl) := fun {G0 H0 S ρ G σ H x y d e z Q} R p1 p2 q k => by
  unfold oEq at q
  cases q1 : D.eq? d e with
  | none => rw [q1] at q; cases q
  | some b =>
    rw [q1] at q
    cases q
    obtain ⟨p, q, e1, e2, hm, rfl⟩ := D.eq_some q1
    exact ⟨p, q, p1.dp R.ok.zsub e1, p2.dp R.ok.zsub e2, D.py_plain _ _ e1, D.py_plain _ _ e2, hm, k _ G H R (Stp.refl _ _) (.bl _)⟩
theorem os_ne : OpS X cl (rNeP X.K) oNe (PF X.K cl) := fun {G0 H0 S ρ G σ H x y d e z Q} R p1 p2 q k => by
  unfold oNe at q
  cases q1 : D.eq? d e with
  | none => rw [q1] at q; cases q
  | some b =>
    rw [q1] at q
    cases q
    obtain ⟨p, q, e1, e2, hm, rfl⟩ := D.eq_some q1
    exact ⟨p, q, p1.dp R.ok.zsub e1, p2.dp R.ok.zsub e2, D.py_plain _ _ e1, D.py_plain _ _ e2, hm, k _ G H R (Stp.refl _ _) (.bl _)⟩
theorem se_eq (hu : X.A.units + 64 < cLine) (ha : SB X cl W a ca) (hb : SB X cl W b cb) : SE X cl W (.Compare a [.Eq] [b] pos) (eBin oEq ca cb) := se_cmp (op_eqP hu) os_eq ha hb (nomark _)
def rInP (K : PySem.W.Frag) (neg : Bool) : R2 := fun x y H Q =>
  (∃ d ds, Dp K H x d ∧ (Dp K H y (.list ds) ∨ Dp K H y (.tuple ds)) ∧ d.plain = true ∧ PyData.plainAll ds = true ∧ min (PyData.depthAll ds) d.depth ≤ 60 ∧ Q (.bl (if neg then !(ds.any fun z => PyData.eqv z d) else ds.any fun z => PyData.eqv z d)) H) ∨
  (∃ (c : Nat) (z : Str), x = .str ⟨#[c]⟩ ∧ y = .str z ∧ Q (.bl (if neg then !decide (c ∈ z.cps.toList) else decide (c ∈ z.cps.toList))) H)
theorem op_inP (hu : X.A.units + 65 < cLine) : OpR X (compareOp .In) (rInP X.K false) := by
  intro pins s σ H x y v u Q I rx ry h
  rcases h with ⟨d, ds, hd, hy, sd, se, hm, q⟩ | h
  · obtain ⟨as, r1⟩ := Dp.reads I d x v hd rx
    rcases hy with hy | hy
    · obtain ⟨bs, r2⟩ := Dp.reads I (.list ds) y u hy ry
      exact SeqAt.in_list_data r2 r1 se sd (by omega) ⟨.bl _, H, I, rfl, q⟩
    · obtain ⟨bs, r2⟩ := Dp.reads I (.tuple ds) y u hy ry
      exact SeqAt.in_tuple_data r2 r1 se sd (by omega) ⟨.bl _, H, I, rfl, q⟩
  · exact op_in_sign pins s σ H x y v u Q I rx ry h
theorem op_notInP (hu : X.A.units + 65 < cLine) : OpR X (compareOp .NotIn) (rInP X.K true) := by
  intro pins s σ H x y v u Q I rx ry h
  rcases h with ⟨d, ds, hd, hy, sd, se, hm, q⟩ | h
  · obtain ⟨as, r1⟩ := Dp.reads I d x v hd rx
    rcases hy with hy | hy
    · obtain ⟨bs, r2⟩ := Dp.reads I (.list ds) y u hy ry
      exact SeqAt.notIn_list_data r2 r1 se sd (by omega) ⟨.bl _, H, I, rfl, q⟩
    · obtain ⟨bs, r2⟩ := Dp.reads I (.tuple ds) y u hy ry
      exact SeqAt.notIn_tuple_data r2 r1 se sd (by omega) ⟨.bl _, H, I, rfl, q⟩
  · exact op_notIn_sign pins s σ H x y v u Q I rx ry h
def D.in? (x y : D) : Option Bool := match x, y with
  | .str w, .str z => if w.cps.size = 1 then some (decide (w.cps.getD 0 0 ∈ z.cps.toList)) else none
  | x, .lst ys => (match x.py, D.pys ys with
    | some p, some qs => if min (PyData.depthAll qs) p.depth ≤ 60 then some (qs.any fun z => PyData.eqv z p) else none
    | _, _ => none)
  | x, .tup ys => (match x.py, D.pys ys with
    | some p, some qs => if min (PyData.depthAll qs) p.depth ≤ 60 then some (qs.any fun z => PyData.eqv z p) else none
    | _, _ => none)
  | _, _ => none
def oIn (d e : D) : Option D := (D.in? d e).map .bl
def oNin (d e : D) : Option D := (D.in? d e).map fun b => .bl (!b)
theorem in_sem {K : PySem.W.Frag} {neg : Bool} {G : Gh} {H : Hp} {x y : V} {d e : D} {k : Bool} {Q : VK} (zs : Same G.Z H) (p1 : RepV K cl G H x d) (p2 : RepV K cl G H y e) (h : D.in? d e = some k) (q : Q (.bl (if neg then !k else k)) H) : rInP K neg x y H Q := by
  have seq : ∀ (ys : List D), (match d.py, D.pys ys with
    | some p, some qs => if min (PyData.depthAll qs) p.depth ≤ 60 then some (qs.any fun z => PyData.eqv z p) else none
    | _, _ => none) = some k → (∀ qs, D.pys ys = some qs → Dp K H y (.list qs) ∨ Dp K H y (.tuple qs)) → rInP K neg x y H Q := fun ys h hy => by
    cases q1 : d.py with
    | none => rw [q1] at h; cases h
    | some p =>
      cases q2 : D.pys ys with
      | none => rw [q1, q2] at h; cases h
      | some qs =>
        rw [q1, q2] at h
        simp only at h
        split at h
        · cases h
          exact .inl ⟨p, qs, p1.dp zs q1, hy qs q2, D.py_plain _ _ q1, D.pys_plain _ _ q2, by assumption, q⟩
        · cases h
  cases e with
  | lst ys =>
    refine seq ys (by cases d <;> exact h) fun qs e => .inl (p2.dp zs ?_)
    simp only [D.py, e]
    rfl
  | tup ys =>
    refine seq ys (by cases d <;> exact h) fun qs e => .inr (p2.dp zs ?_)
    simp only [D.py, e]
    rfl
  | str z =>
    cases d with
    | str w =>
      simp only [D.in?] at h
      split at h
      · cases h
        rename_i hw
        refine .inr ⟨w.cps.getD 0 0, z, ?_, p2.str, q⟩
        rw [p1.str]
        obtain ⟨⟨l⟩⟩ := w
        match l, hw with
        | [c], _ => rfl
      · cases h
    | _ => simp only [D.in?, reduceCtorEq] at h
  | _ => cases d <;> simp only [D.in?, reduceCtorEq] at h
theorem os_in : OpS X cl (rInP X.K false) oIn (PF X.K cl) := fun {G0 H0 S ρ G σ H x y d e z Q} R p1 p2 q k => by
  unfold oIn at q
  cases q1 : D.in? d e with
  | none => rw [q1] at q; cases q
  | some b =>
    rw [q1] at q
    cases q
    exact in_sem R.ok.zsub p1 p2 q1 (k _ G H R (Stp.refl _ _) (.bl _))
theorem os_nin : OpS X cl (rInP X.K true) oNin (PF X.K cl) := fun {G0 H0 S ρ G σ H x y d e z Q} R p1 p2 q k => by
  unfold oNin at q
  cases q1 : D.in? d e with
  | none => rw [q1] at q; cases q
  | some b =>
    rw [q1] at q
    cases q
    exact in_sem R.ok.zsub p1 p2 q1 (k _ G H R (Stp.refl _ _) (.bl _))
end
end PM
set_option maxHeartbeats 1000000
namespace PM
open PySem PySem.Spec PyProof.Rows L2

section
variable {X : Cx} {cl : ClsP} {W : WX} {a b e c : Expr} {ca cb cc : Ex} {pos : Pos} {ta tb : Tx} {es : List Expr} {rest : List Expr}

def D.truth : D → Option Bool
  | .non => some false
  | .bl b => some b
  | .int i => some (i != 0)
  | .str x => if x.length ≤ 1000000 then some ((x.length : Int) != 0) else none
  | .lst xs => some (!xs.isEmpty)
  | .tup xs => some (!xs.isEmpty)
  | .scr xs => some (!xs.isEmpty)
  | .dic kvs => some (!kvs.isEmpty)
  | _ => none
theorem isEmpty_len {α β : Type} : ∀ {xs : List α} {ys : List β}, xs.length = ys.length → xs.isEmpty = ys.isEmpty
  | [], [], _ => rfl
  | _ :: _, _ :: _, _ => rfl
theorem RepV.tru {K : PySem.W.Frag} {G : Gh} {H : Hp} {v : V} {d : D} {k : Bool} (h : RepV K cl G H v d) (zs : Same G.Z H) (e : d.truth = some k) : TruV K v H k := by
  cases d with
  | non => rw [h.non]; cases e; rfl
  | bl b => rw [h.bl]; cases e; rfl
  | int i => rw [h.int]; cases e; rfl
  | str x =>
    rw [h.str]
    simp only [D.truth] at e
    split at e
    · cases e; exact ⟨lim_ok (by assumption), rfl⟩
    · cases e
  | lst xs =>
    obtain ⟨p, vs, rfl, h1, r⟩ := h.lst zs
    cases e
    exact .inl ⟨vs, .inl (.inl h1), by rw [isEmpty_len r.length]⟩
  | tup xs =>
    obtain ⟨p, vs, rfl, h1, r⟩ := h.tup zs
    cases e
    exact .inr (.inl ⟨vs, h1, by rw [isEmpty_len r.length]⟩)
  | scr xs =>
    obtain ⟨p, rfl, h1⟩ := h.scr zs
    cases e
    exact .inl ⟨_, h1, by rw [isEmpty_len (List.length_map _)]⟩
  | exn n => cases e
  | dit n => cases e
  | nst n => cases e
  | dic kvs =>
    obtain ⟨p, vs, rfl, h1, r⟩ := h.dic zs
    cases e
    exact .inr (.inr ⟨vs, h1, by rw [isEmpty_len r.length]⟩)
  | obj c fs => simp only [D.truth, reduceCtorEq] at e
  | rf n => simp only [D.truth, reduceCtorEq] at e
theorem RepT.tru {K : PySem.W.Frag} {G : Gh} {H : Hp} {v : V} {d : D} {k : Bool} (h : RepT K cl G H v d) (zs : Same G.Z H) (e : d.truth = some k) : TruV K v H k := RepV.tru h.vw zs e
def eTr (ca : Ex) : Tx := fun ρ S => (ca ρ S).bind fun d S => Res.opt d.truth S
theorem st_val (ha : SB X cl W a ca) (he : ∀ whole, isTrue a X.env whole = (do let v ← whole; standAt a.pos; holding [v] (truthy v))) : STt X cl W a (eTr ca) := PT.weak (pt_truth ha he) fun σ H Q ⟨G0, H0, S, ρ, G, R, h⟩ => by
  refine tX.bind ptM R h fun d x S1 G1 H1 R1 s1 p1 h1 => ?_
  cases q : d.truth with
  | none => rw [q] at h1; exact h1.elim
  | some k =>
    rw [q] at h1
    exact ⟨k, RepT.tru p1 R1.ok.zsub q, h1 _ G1 H1 R1 (Stp.refl _ _) rfl⟩
def Bls (f : D → D → Option D) : Prop := ∀ d e z, f d e = some z → ∃ k, z = .bl k
theorem test_of {f : D → D → Option D} (hb : Bls f) {σ : L2.St} {H : Hp} {Q : Bool → Hp → Prop} (h : tX X.K cl PT1 W (eTr (eBin f ca cb)) σ H Q) : tX X.K cl (PF X.K cl) W (eBin f ca cb) σ H (fun x H' => ∃ k, x = .bl k ∧ Q k H') := by
  obtain ⟨G0, H0, S, ρ, G, R, h⟩ := h
  refine ⟨G0, H0, S, ρ, G, R, ?_⟩
  have hh : ∀ d S', eBin f ca cb ρ S = .ok d S' → ∃ k, d = .bl k := fun d S' q => by
    unfold eBin at q
    cases q1 : ca ρ S with
    | ok d1 S1 =>
      rw [q1] at q
      simp only [Res.bind] at q
      cases q2 : cb ρ S1 with
      | ok d2 S2 =>
        rw [q2] at q
        simp only at q
        cases q3 : f d1 d2 with
        | none => rw [q3] at q; cases q
        | some z => rw [q3] at q; cases q; exact hb _ _ _ q3
      | exc n S2 => rw [q2] at q; cases q
      | stuck => rw [q2] at q; cases q
    | exc n S1 => rw [q1] at q; cases q
    | stuck => rw [q1] at q; cases q
  unfold eTr at h
  cases q : eBin f ca cb ρ S with
  | ok d S' =>
    rw [q] at h
    obtain ⟨k, rfl⟩ := hh d S' q
    intro v G' H' R' s p
    cases p
    exact ⟨k, rfl, h k G' H' R' s rfl⟩
  | exc n S' => rw [q] at h; exact h
  | stuck => rw [q] at h; exact h
theorem st_cmp {op : CmpOp} {r : R2} {f : D → D → Option D} (hb : Bls f) (ho : OpR X (compareOp op) r) (hs : OpS X cl r f (PF X.K cl)) (ha : SB X cl W a ca) (hb' : SB X cl W b cb) (hm : behindInMarks op b = false) : STt X cl W (.Compare a [op] [b] pos) (eTr (eBin f ca cb)) :=
  PT.weak (pt_cmpR ho ha hb' hm) fun σ H Q h => bin_sem pfM hs (test_of hb h)
theorem bls_eq : Bls oEq := fun d e z h => by
  unfold oEq at h
  cases q : D.eq? d e with
  | none => rw [q] at h; cases h
  | some b => rw [q] at h; cases h; exact ⟨_, rfl⟩
theorem bls_ne : Bls oNe := fun d e z h => by
  unfold oNe at h
  cases q : D.eq? d e with
  | none => rw [q] at h; cases h
  | some b => rw [q] at h; cases h; exact ⟨_, rfl⟩
theorem bls_in : Bls oIn := fun d e z h => by
  unfold oIn at h
  cases q : D.in? d e with
  | none => rw [q] at h; cases h
  | some b => rw [q] at h; cases h; exact ⟨_, rfl⟩
theorem bls_nin : Bls oNin := fun d e z h => by
  unfold oNin at h
  cases q : D.in? d e with
  | none => rw [q] at h; cases h
  | some b => rw [q] at h; cases h; exact ⟨_, rfl⟩
theorem bls_I {p : Int → Int → Bool} : Bls (oI0 fun i j => .bl (p i j)) := fun d e z h => by
  obtain ⟨i, j, _, _, rfl⟩ := oI0_some d e z h
  exact ⟨_, rfl⟩
theorem st_lt (ha : SB X cl W a ca) (hb : SB X cl W b cb) : STt X cl W (.Compare a [.Lt] [b] pos) (eTr (eBin oLt ca cb)) := st_cmp bls_I op_lt os_lt ha hb (nomark _)
theorem st_gt (ha : SB X cl W a ca) (hb : SB X cl W b cb) : STt X cl W (.Compare a [.Gt] [b] pos) (eTr (eBin oGt ca cb)) := st_cmp bls_I op_gt os_gt ha hb (nomark _)
theorem st_eq (hu : X.A.units + 64 < cLine) (ha : SB X cl W a ca) (hb : SB X cl W b cb) : STt X cl W (.Compare a [.Eq] [b] pos) (eTr (eBin oEq ca cb)) := st_cmp bls_eq (op_eqP hu) os_eq ha hb (nomark _)
theorem st_ne (hu : X.A.units + 64 < cLine) (ha : SB X cl W a ca) (hb : SB X cl W b cb) : STt X cl W (.Compare a [.NotEq] [b] pos) (eTr (eBin oNe ca cb)) := st_cmp bls_ne (op_neP hu) os_ne ha hb (nomark _)
theorem st_in (hu : X.A.units + 65 < cLine) (ha : SB X cl W a ca) (hb : SB X cl W b cb) (hm : behindInMarks .In b = false) : STt X cl W (.Compare a [.In] [b] pos) (eTr (eBin oIn ca cb)) := st_cmp bls_in (op_inP hu) os_in ha hb hm
theorem st_nin (hu : X.A.units + 65 < cLine) (ha : SB X cl W a ca) (hb : SB X cl W b cb) (hm : behindInMarks .NotIn b = false) : STt X cl W (.Compare a [.NotIn] [b] pos) (eTr (eBin oNin ca cb)) := st_cmp bls_nin (op_notInP hu) os_nin ha hb hm
def tAndD (ta tb : Tx) : Tx := fun ρ S => (ta ρ S).bind fun k S => if k = true then tb ρ S else .ok false S
def tOrD (ta tb : Tx) : Tx := fun ρ S => (ta ρ S).bind fun k S => if k = true then .ok true S else tb ρ S
def tNotD (ta : Tx) : Tx := fun ρ S => (ta ρ S).bind fun k S => .ok (!k) S
theorem sw_and1 (ha : STt X cl W a ta) : SW X cl W (.BoolOp .And [a] pos) ta := pw_and1 ha
theorem sw_or1 (ha : STt X cl W a ta) : SW X cl W (.BoolOp .Or [a] pos) ta := pw_or1 ha
theorem sw_and (ha : STt X cl W a ta) (hb : SW X cl W (.BoolOp .And (b :: rest) pos) tb) : SW X cl W (.BoolOp .And (a :: b :: rest) pos) (tAndD ta tb) := PW.weak (pw_and ha hb) fun σ H Q ⟨G0, H0, S, ρ, G, R, h⟩ => by
  refine tX.bind (Pa := PT1) ptM R h fun d x S1 G1 H1 R1 s1 p1 h1 => ?_
  cases (show x = d from p1)
  cases d with
  | true => exact ⟨_, _, _, _, _, R1, h1⟩
  | false => exact h1 _ G1 H1 R1 (Stp.refl _ _) rfl
theorem sw_or (ha : STt X cl W a ta) (hb : SW X cl W (.BoolOp .Or (b :: rest) pos) tb) : SW X cl W (.BoolOp .Or (a :: b :: rest) pos) (tOrD ta tb) := PW.weak (pw_or ha hb) fun σ H Q ⟨G0, H0, S, ρ, G, R, h⟩ => by
  refine tX.bind (Pa := PT1) ptM R h fun d x S1 G1 H1 R1 s1 p1 h1 => ?_
  cases (show x = d from p1)
  cases d with
  | true => exact h1 _ G1 H1 R1 (Stp.refl _ _) rfl
  | false => exact ⟨_, _, _, _, _, R1, h1⟩
theorem st_w (h : SW X cl W a ta) : STt X cl W a ta := PW.pt h
theorem st_not (ha : STt X cl W a ta) : STt X cl W (.UnaryOp .Not a pos) (tNotD ta) := PT.weak (pt_not ha) fun σ H Q ⟨G0, H0, S, ρ, G, R, h⟩ => by
  refine tX.bind (Pa := PT1) ptM R h fun d x S1 G1 H1 R1 s1 p1 h1 => ?_
  cases (show x = d from p1)
  exact h1 _ G1 H1 R1 (Stp.refl _ _) rfl
def aNil : Ax := fun _ S => .ok [] S
def aCons (ca : Ex) (cr : Ax) : Ax := fun ρ S => (ca ρ S).bind fun d S => (cr ρ S).bind fun ds S => .ok (d :: ds) S
theorem sa_nil : SA X cl W [] [] aNil := PA.weak pa_nil fun σ H Q ⟨G0, H0, S, ρ, G, R, h⟩ => h _ G H R (Stp.refl _ _) .nil
theorem sa_f {bm : List Bool} {cr : Ax} (ha : SE X cl W e ca) (hr : SA X cl W bm es cr) (hs : starEach (e :: es) X.env = (false, eval e X.env) :: starEach es X.env := by rfl) : SA X cl W (false :: bm) (e :: es) (aCons ca cr) := PA.weak (pa_cons ha hr hs) fun σ H Q ⟨G0, H0, S, ρ, G, R, h⟩ => by
  refine tX.bind (Pa := PF X.K cl) paM R h fun d x S1 G1 H1 R1 s1 p1 h1 => ?_
  refine tX.bind (Pa := PA1 X.K cl bm) paM R1 h1 fun ds xs S2 G2 H2 R2 s2 p2 h2 => ?_
  exact h2 _ G2 H2 R2 (Stp.refl _ _) (.fr (RepG.stp s2 p1) p2)
theorem sa_b {bm : List Bool} {cr : Ax} (ha : SB X cl W e ca) (hr : SA X cl W bm es cr) (hs : starEach (e :: es) X.env = (false, eval e X.env) :: starEach es X.env := by rfl) : SA X cl W (true :: bm) (e :: es) (aCons ca cr) := PA.weak (pa_cons ha hr hs) fun σ H Q ⟨G0, H0, S, ρ, G, R, h⟩ => by
  refine tX.bind (Pa := PB X.K cl) paM R h fun d x S1 G1 H1 R1 s1 p1 h1 => ?_
  refine tX.bind (Pa := PA1 X.K cl bm) paM R1 h1 fun ds xs S2 G2 H2 R2 s2 p2 h2 => ?_
  exact h2 _ G2 H2 R2 (Stp.refl _ _) (.bo (RepT.stp p1 s2) p2)
theorem ArgsOk.reps {K : PySem.W.Frag} {G : Gh} {H : Hp} : ∀ {bm : List Bool} {vs : List V} {ds : List D}, ArgsOk K cl G H bm vs ds → bm.all (!·) = true → RepAll K cl G.mu G.Z vs ds
  | _, _, _, .nil, _ => .nil
  | _, _, _, .fr h t, e => .cons h (t.reps (by simpa using e))
  | _, _, _, .bo h t, e => by simp at e
def eLst (ca : Ax) : Ex := fun ρ S => (ca ρ S).bind fun ds S => if ds.length ≤ 1000000 then .ok (.lst ds) S else .stuck
def eTup (ca : Ax) : Ex := fun ρ S => (ca ρ S).bind fun ds S => if ds.length ≤ 1000000 then .ok (.tup ds) S else .stuck
theorem sn_lst {bm : List Bool} {ca : Ax} (h : SA X cl W bm es ca) (hb : bm.all (!·) = true := by rfl) : SN X cl W (.List es pos) (eLst ca) := PE.weak (pe_lst h) fun σ H Q ⟨G0, H0, S, ρ, G, R, h⟩ => by
  refine tX.bind (Pa := PA1 X.K cl bm) pnM R h fun ds vs S1 G1 H1 R1 s1 p1 h1 => ?_
  split at h1
  · rename_i hz
    refine ⟨by rw [ArgsOk.len p1 |>.1, ← (ArgsOk.len p1).2]; exact lim_ok hz, fun p hp => ?_⟩
    obtain ⟨R', s', n⟩ := R1.newL hp (ArgsOk.reps p1 hb)
    exact h1 _ _ _ R' s' ⟨p, [p], rfl, n, fun b hb => by simp at hb; subst hb; exact hp⟩
  · exact h1.elim
theorem se_tup {bm : List Bool} {ca : Ax} {x1} (h : SA X cl W bm es ca) (hb : bm.all (!·) = true := by rfl) : SE X cl W (.Tuple es x1 pos) (eTup ca) := PE.weak (pe_tup h) fun σ H Q ⟨G0, H0, S, ρ, G, R, h⟩ => by
  refine tX.bind (Pa := PA1 X.K cl bm) pfM R h fun ds vs S1 G1 H1 R1 s1 p1 h1 => ?_
  split at h1
  · rename_i hz
    refine ⟨by rw [ArgsOk.len p1 |>.1, ← (ArgsOk.len p1).2]; exact lim_ok hz, fun p hp => ?_⟩
    obtain ⟨R', s', n⟩ := R1.newF hp (.tup vs)
    exact h1 _ _ _ R' s' (.tup (.inl (.inl n)) (RepAll.mono s'.z s'.mu _ _ (ArgsOk.reps p1 hb)))
  · exact h1.elim
def eDic0 : Ex := fun _ S => .ok (.dic []) S
theorem sn_dic0 : SN X cl W (.Dict [] [] pos) eDic0 := PE.weak pe_dnewK fun σ H Q ⟨G0, H0, S, ρ, G, R, h⟩ p hp => by
  obtain ⟨R', s', n⟩ := R.newD hp (vs := []) (ds := []) .nil
  exact h _ _ _ R' s' ⟨p, [p], rfl, n, fun b hb => by simp at hb; subst hb; exact hp⟩

def oIx : D → D → Option D
  | .lst xs, .int i => atI xs i
  | .tup xs, .int i => atI xs i
  | .scr xs, .int i => (atI xs i).map .int
  | .str x, .int i => if x.length ≤ 1000000 then (atI x.cps.toList i).map fun c => .str ⟨#[c]⟩ else none
  | _, _ => none
theorem atI_some {α : Type} {xs : List α} {i : Int} {x : α} (h : atI xs i = some x) : ∃ j, ixN xs.length i = some j ∧ xs[j]? = some x := by
  unfold atI at h
  cases q : ixN xs.length i with
  | none => rw [q] at h; cases h
  | some j => rw [q] at h; exact ⟨j, rfl, h⟩
theorem atI_of {α : Type} {xs : List α} {i : Int} {x : α} {j : Nat} (h1 : ixN xs.length i = some j) (h2 : xs[j]? = some x) : atI xs i = some x := by
  unfold atI
  rw [h1]
  exact h2
theorem RepAll.atI {K : PySem.W.Frag} {mu : List Addr} {Z : Hp} {vs : List V} {ds : List D} {i : Int} {d : D} (r : RepAll K cl mu Z vs ds) (h : L2.atI ds i = some d) : ∃ v, L2.atI vs i = some v ∧ Rep K cl mu Z v d := by
  obtain ⟨j, h1, h2⟩ := atI_some h
  obtain ⟨v, h3, h4⟩ := r.get h2
  exact ⟨v, atI_of (by rw [r.length]; exact h1) h3, h4⟩
theorem os_ix : OpS X cl (rIx X.K) oIx (PF X.K cl) := fun {G0 H0 S ρ G σ H x y d e z Q} R p1 p2 q k => by
  cases d <;> cases e <;> simp only [oIx, reduceCtorEq] at q
  · rename_i x i
    split at q
    · rename_i hz
      cases q1 : atI x.cps.toList i with
      | none => rw [q1] at q; cases q
      | some c =>
        rw [q1] at q
        cases q
        exact .inr (.inr ⟨x, i, c, p1.str, p2.int, lim_ok hz, q1, k _ G H R (Stp.refl _ _) (.str _)⟩)
    · cases q
  · rename_i xs i
    obtain ⟨a1, vs, rfl, h1, r1⟩ := p1.lst R.ok.zsub
    obtain ⟨v, hv, rv⟩ := r1.atI q
    exact .inl ⟨a1, vs, i, v, rfl, p2.int, .inl (.inl h1), hv, k _ G H R (Stp.refl _ _) rv⟩
  · rename_i xs i
    obtain ⟨a1, vs, rfl, h1, r1⟩ := p1.tup R.ok.zsub
    obtain ⟨v, hv, rv⟩ := r1.atI q
    exact .inr (.inl ⟨a1, vs, i, v, rfl, p2.int, h1, hv, k _ G H R (Stp.refl _ _) rv⟩)
  · rename_i xs i
    obtain ⟨a1, rfl, h1⟩ := p1.scr R.ok.zsub
    cases q1 : atI xs i with
    | none => rw [q1] at q; cases q
    | some n =>
      rw [q1] at q
      cases q
      obtain ⟨j, h2, h3⟩ := atI_some q1
      exact .inl ⟨a1, _, i, .int n, rfl, p2.int, h1, atI_of (by rw [List.length_map]; exact h2) (by rw [List.getElem?_map, h3]; rfl), k _ G H R (Stp.refl _ _) (.int _)⟩
theorem se_ix (ha : SB X cl W a ca) (hb : SB X cl W b cb) (hs : PlainIx b := by intro _ _; rfl) : SE X cl W (.Subscript a b pos) (eBin oIx ca cb) := PE.weak (pe_ix ix_seq ha hb hs) fun σ H Q h => bin_sem pfM os_ix h

abbrev Px := Env → Store → Res (Option Int)
def PO1 : Post (Option Int) (Option Int) := fun _ _ _ _ d v => v = d
theorem poM : PostM PO1 := fun _ _ _ _ _ _ _ _ _ h => h
def pNo : Px := fun _ S => .ok none S
def pAt (ca : Ex) : Px := fun ρ S => (ca ρ S).bind fun d S => match d with
  | .int i => .ok (some i) S
  | _ => .stuck
abbrev SO (X : Cx) (cl : ClsP) (W : WX) (e : Option Expr) (c : Px) : Prop := PO X e (tX X.K cl PO1 W c)
theorem so_no : SO X cl W none pNo := ⟨fun pins s σ H Q I ⟨G0, H0, S, ρ, G, R, h⟩ => po_none.run pins s σ H Q I (h none G H R (Stp.refl _ _) rfl)⟩
theorem so_at (ha : SB X cl W e ca) : SO X cl W (some e) (pAt ca) := ⟨fun pins s σ H Q I ⟨G0, H0, S, ρ, G, R, h⟩ => (po_some ha).run pins s σ H Q I (by
  refine tX.bind (Pa := PB X.K cl) poM R h fun d x S1 G1 H1 R1 s1 p1 h1 => ?_
  cases d <;> simp only [Aft] at h1
  rename_i i
  exact ⟨i, RepT.int p1, h1 _ G1 H1 R1 (Stp.refl _ _) rfl⟩)⟩
def cutD {α : Type} (xs : List α) (lo hi : Option Int) : List α := (xs.drop (HT.sIx xs.length 0 lo)).take (HT.sIx xs.length xs.length hi - HT.sIx xs.length 0 lo)
theorem RepAll.cut {K : PySem.W.Frag} {mu : List Addr} {Z : Hp} {vs : List V} {ds : List D} (r : RepAll K cl mu Z vs ds) (lo hi : Option Int) : RepAll K cl mu Z (cutV vs lo hi) (cutD ds lo hi) := by
  unfold cutV cutD
  rw [r.length]
  exact (r.drop _).take _
theorem cutV_int (ns : List Int) (lo hi : Option Int) : cutV (ns.map V.int) lo hi = (cutD ns lo hi).map V.int := by
  unfold cutV cutD
  rw [List.length_map, List.map_take, List.map_drop]
def oCutL (d : D) (lo hi : Option Int) : Option D := match d with
  | .lst xs => some (.lst (cutD xs lo hi))
  | .scr ns => some (.lst ((cutD ns lo hi).map .int))
  | _ => none
def oCut (d : D) (lo hi : Option Int) : Option D := match d with
  | .lst xs => some (.lst (cutD xs lo hi))
  | .scr ns => some (.lst ((cutD ns lo hi).map .int))
  | .tup xs => some (.tup (cutD xs lo hi))
  | .str x => if x.length ≤ 1000000 then some (.str (cutS x lo hi)) else none
  | _ => none
def eCut (f : D → Option Int → Option Int → Option D) (ca : Ex) (cl' ch : Px) : Ex := fun ρ S => (ca ρ S).bind fun d S => (cl' ρ S).bind fun lo S => (ch ρ S).bind fun hi S => Res.opt (f d lo hi) S
def rSlAll (K : PySem.W.Frag) : V → Option Int → Option Int → Hp → VK → Prop := fun x lo hi H Q => rSlL K x lo hi H Q ∨ rSlA K x lo hi H Q ∨ rSlS x lo hi H Q
theorem sl_all : SlR X (rSlAll X.K) := sl_list.or (sl_tupA.or sl_str)
theorem cut_list {G0 : Gh} {H0 : Hp} {S : Store} {ρ : Env} {G : Gh} {σ : L2.St} {H : Hp} {x : V} {d z : D} {lo hi : Option Int} {Q : VK} (R : Rel X.K cl G0 H0 S ρ G σ H) (p1 : RepT X.K cl G H x d) (q : oCutL d lo hi = some z)
    (k : ∀ v G' H', Rel X.K cl G0 H0 S ρ G' σ H' → Stp G H G' H' → PN X.K cl G H G' H' z v → Q v H') : rSlL X.K x lo hi H Q := by
  cases d <;> simp only [oCutL, reduceCtorEq] at q
  · rename_i xs
    cases q
    obtain ⟨a1, vs, rfl, h1, r1⟩ := p1.lst R.ok.zsub
    refine ⟨a1, vs, rfl, .inl (.inl h1), fun p hp => ?_⟩
    obtain ⟨R', s', n⟩ := R.newL hp (r1.cut lo hi)
    exact k _ _ _ R' s' ⟨p, [p], rfl, n, fun b hb => by simp at hb; subst hb; exact hp⟩
  · rename_i xs
    cases q
    obtain ⟨a1, rfl, h1⟩ := p1.scr R.ok.zsub
    refine ⟨a1, _, rfl, h1, fun p hp => ?_⟩
    rw [cutV_int]
    obtain ⟨R', s', n⟩ := R.newL hp (RepAll.ints (K := X.K) (cl := cl) (cutD xs lo hi))
    exact k _ _ _ R' s' ⟨p, [p], rfl, n, fun b hb => by simp at hb; subst hb; exact hp⟩
theorem se_cut {lo hi : Option Expr} {cl' ch : Px} {p2 : Pos} (ha : SB X cl W a ca) (hl : SO X cl W lo cl') (hh : SO X cl W hi ch) : SE X cl W (.Subscript a (.Slice lo hi none p2) pos) (eCut oCut ca cl' ch) := PE.weak (pe_slice sl_all ha hl hh) fun σ H Q ⟨G0, H0, S, ρ, G, R, h⟩ => by
  refine tX.bind (Pa := PB X.K cl) pfM R h fun d x S1 G1 H1 R1 s1 p1 h1 => ?_
  refine tX.bind (Pa := PO1) pfM R1 h1 fun l lv S2 G2 H2 R2 s2 p2 h2 => ?_
  cases (show lv = l from p2)
  refine tX.bind (Pa := PO1) pfM R2 h2 fun u uv S3 G3 H3 R3 s3 p3 h3 => ?_
  cases (show uv = u from p3)
  cases q : oCut d l u with
  | none => rw [q] at h3; exact h3.elim
  | some z =>
    rw [q] at h3
    have p1' := RepT.stp p1 (s2.trans s3)
    have lists : ∀ z, oCutL d l u = some z → (∀ v G' H', Rel X.K cl G0 H0 S3 ρ G' σ H' → Stp G3 H3 G' H' → PF X.K cl G3 H3 G' H' z v → Q v H') → rSlAll X.K x l u H3 Q := fun z q k => by
      refine .inl (cut_list R3 p1' q fun v G' H' R' s ⟨a, as, e, n, hn⟩ => ?_)
      subst e
      obtain ⟨R2', s2', rp⟩ := R'.freeze R3.stp s n hn
      exact k _ _ _ R2' s2' rp
    cases d <;> simp only [oCut, reduceCtorEq] at q
    · rename_i y
      split at q
      · cases q
        exact .inr (.inr ⟨y, p1'.str, lim_ok (by assumption), h3 _ G3 H3 R3 (Stp.refl _ _) (.str _)⟩)
      · cases q
    · exact lists z q fun v G' H' R' s' p' => h3 v G' H' R' s' p'
    · rename_i xs
      cases q
      obtain ⟨a1, vs, rfl, h1, r1⟩ := p1'.tup R3.ok.zsub
      refine .inr (.inl ⟨a1, vs, rfl, h1, fun hw => ?_, fun hw p hp => ?_⟩)
      · have e : cutD xs l u = xs := by
          unfold cutD
          rw [← r1.length, hw.1, hw.2, List.drop_zero, Nat.sub_zero, r1.length, List.take_length]
        rw [e] at h3
        rcases p1' with p | ⟨_, _, _, c, _⟩
        · exact h3 _ G3 H3 R3 (Stp.refl _ _) p
        · cases c
      · obtain ⟨R', s', n⟩ := R3.newF hp (.tup (cutV vs l u))
        exact h3 _ _ _ R' s' (.tup (.inl (.inl n)) (RepAll.mono s'.z s'.mu _ _ (r1.cut l u)))
    · exact lists z q fun v G' H' R' s' p' => h3 v G' H' R' s' p'

def CallS (X : Cx) (cl : ClsP) (bm : List Bool) (r : List V → Hp → VK → Prop) (f : List D → Option D) (P : Post D V) : Prop :=
  ∀ {G0 : Gh} {H0 : Hp} {S : Store} {ρ : Env} {G : Gh} {σ : L2.St} {H : Hp} {vs : List V} {ds : List D} {z : D} {Q : VK}, Rel X.K cl G0 H0 S ρ G σ H → ArgsOk X.K cl G H bm vs ds → f ds = some z →
    (∀ v G' H', Rel X.K cl G0 H0 S ρ G' σ H' → Stp G H G' H' → P G H G' H' z v → Q v H') → r vs H Q
def eFn (f : List D → Option D) (ca : Ax) : Ex := fun ρ S => (ca ρ S).bind fun ds S => Res.opt (f ds) S
theorem fn_sem {bm : List Bool} {r : List V → Hp → VK → Prop} {f : List D → Option D} {P : Post D V} {ca : Ax} (hP : PostM P) (hs : CallS X cl bm r f P) {σ : L2.St} {H : Hp} {Q : VK} (h : tX X.K cl P W (eFn f ca) σ H Q) : tCB r (tX X.K cl (PA1 X.K cl bm) W ca) σ H Q := by
  obtain ⟨G0, H0, S, ρ, G, R, h⟩ := h
  refine tX.bind (Pa := PA1 X.K cl bm) hP R h fun ds vs S1 G1 H1 R1 s1 p1 h1 => ?_
  cases q : f ds with
  | none => rw [q] at h1; exact h1.elim
  | some z =>
    rw [q] at h1
    exact hs R1 p1 q fun v G' H' R' s' p' => h1 v G' H' R' s' p'
section
variable {x : Str} {p : Pos} {id T : String} {bm : List Bool} {r : List V → Hp → VK → Prop} {f : List D → Option D} {P : Post D V} {ax : Ax}
theorem sx_callB (hP : PostM P) (hc : CallR X (.builtin id) r) (hs : CallS X cl bm r f P) (hg : Gl X x) (hm : X.mg x = none) (hv : bootBuiltins x = some (.builtin id)) (ha : SA X cl W bm (e :: es) ax) (hn : x ≠ "__name__" := by decide) (hdb : (x == ("__debug__" : Str)) = false := by decide)
    (he : starEach (e :: es) X.env = (false, eval e X.env) :: starEach es X.env := by rfl) (hpl : (backTo pos (starEach es X.env)).any (·.1) = false := by rfl) : PE X (.Call (.Name x p) (e :: es) [] pos) (tX X.K cl P W (eFn f ax)) :=
  PE.weak (pe_callB hc hg hm hv ha hn hdb he hpl) fun σ H Q h => fn_sem hP hs h
theorem sx_callTy (hP : PostM P) (hc : CallR X (.type T) r) (hs : CallS X cl bm r f P) (hg : Gl X x) (hm : X.mg x = none) (hv : bootBuiltins x = some (.type T)) (ha : SA X cl W bm (e :: es) ax) (hn : x ≠ "__name__" := by decide) (hdb : (x == ("__debug__" : Str)) = false := by decide)
    (he : starEach (e :: es) X.env = (false, eval e X.env) :: starEach es X.env := by rfl) (hpl : (backTo pos (starEach es X.env)).any (·.1) = false := by rfl) : PE X (.Call (.Name x p) (e :: es) [] pos) (tX X.K cl P W (eFn f ax)) :=
  PE.weak (pe_callTy hc hg hm hv ha hn hdb he hpl) fun σ H Q h => fn_sem hP hs h
end
theorem ArgsOk.one {K : PySem.W.Frag} {G : Gh} {H : Hp} {vs : List V} {d : D} (h : ArgsOk K cl G H [true] vs [d]) : ∃ v, vs = [v] ∧ RepT K cl G H v d := by
  cases h with
  | bo h t => cases t; exact ⟨_, rfl, h⟩
theorem ArgsOk.two {K : PySem.W.Frag} {G : Gh} {H : Hp} {vs : List V} {d d' : D} (h : ArgsOk K cl G H [true, true] vs [d, d']) : ∃ v v', vs = [v, v'] ∧ RepT K cl G H v d ∧ RepT K cl G H v' d' := by
  cases h with
  | bo h t =>
    obtain ⟨v', rfl, h'⟩ := t.one
    exact ⟨_, v', rfl, h, h'⟩
def fLen : List D → Option D
  | [.str x] => if x.length ≤ 1000000 then some (.int x.length) else none
  | [.lst xs] => some (.int xs.length)
  | [.tup xs] => some (.int xs.length)
  | [.scr xs] => some (.int xs.length)
  | _ => none
theorem cs_len : CallS X cl [true] (fun xs H Q => ∃ x n, xs = [x] ∧ LenV X.K x H n ∧ Q (.int n) H) fLen (PF X.K cl) := fun {G0 H0 S ρ G σ H vs ds z Q} R p q k => by
  unfold fLen at q
  split at q
  · split at q
    · cases q
      obtain ⟨v, rfl, h⟩ := p.one
      exact ⟨v, _, rfl, by rw [h.str]; exact ⟨lim_ok (by assumption), rfl⟩, k _ G H R (Stp.refl _ _) (.int _)⟩
    · cases q
  · cases q
    obtain ⟨v, rfl, h⟩ := p.one
    obtain ⟨a1, vs, rfl, h1, r1⟩ := h.lst R.ok.zsub
    exact ⟨_, _, rfl, .inl ⟨vs, .inl (.inl h1), rfl⟩, by rw [r1.length]; exact k _ G H R (Stp.refl _ _) (.int _)⟩
  · cases q
    obtain ⟨v, rfl, h⟩ := p.one
    obtain ⟨a1, vs, rfl, h1, r1⟩ := h.tup R.ok.zsub
    exact ⟨_, _, rfl, .inr ⟨vs, h1, rfl⟩, by rw [r1.length]; exact k _ G H R (Stp.refl _ _) (.int _)⟩
  · rename_i xs
    cases q
    obtain ⟨v, rfl, h⟩ := p.one
    obtain ⟨a1, rfl, h1⟩ := h.scr R.ok.zsub
    exact ⟨_, xs.length, rfl, .inl ⟨_, h1, by rw [List.length_map]⟩, k _ G H R (Stp.refl _ _) (.int _)⟩
  · cases q
def fList : List D → Option D
  | [.lst xs] => some (.lst xs)
  | [.tup xs] => some (.lst xs)
  | [.scr xs] => some (.lst (xs.map .int))
  | _ => none
theorem cs_list : CallS X cl [true] (fun xs H Q => ∃ p ys, xs = [.ref p] ∧ (SqL X.K H p ys ∨ SqT X.K H p ys) ∧ ∀ l, H l = none → Q (.ref l) (upd H l (.lst ys))) fList (PN X.K cl) := fun {G0 H0 S ρ G σ H vs ds z Q} R p q k => by
  unfold fList at q
  split at q
  · cases q
    obtain ⟨v, rfl, h⟩ := p.one
    obtain ⟨a1, vs, rfl, h1, r1⟩ := h.lst R.ok.zsub
    refine ⟨a1, vs, rfl, .inl (.inl (.inl h1)), fun l hl => ?_⟩
    obtain ⟨R', s', n⟩ := R.newL hl r1
    exact k _ _ _ R' s' ⟨l, [l], rfl, n, fun b hb => by simp at hb; subst hb; exact hl⟩
  · cases q
    obtain ⟨v, rfl, h⟩ := p.one
    obtain ⟨a1, vs, rfl, h1, r1⟩ := h.tup R.ok.zsub
    refine ⟨a1, vs, rfl, .inr h1, fun l hl => ?_⟩
    obtain ⟨R', s', n⟩ := R.newL hl r1
    exact k _ _ _ R' s' ⟨l, [l], rfl, n, fun b hb => by simp at hb; subst hb; exact hl⟩
  · rename_i xs
    cases q
    obtain ⟨v, rfl, h⟩ := p.one
    obtain ⟨a1, rfl, h1⟩ := h.scr R.ok.zsub
    refine ⟨a1, _, rfl, .inl h1, fun l hl => ?_⟩
    obtain ⟨R', s', n⟩ := R.newL hl (RepAll.ints (K := X.K) (cl := cl) xs)
    exact k _ _ _ R' s' ⟨l, [l], rfl, n, fun b hb => by simp at hb; subst hb; exact hl⟩
  · cases q
def fTuple : List D → Option D
  | [.lst xs] => some (.tup xs)
  | [.tup xs] => some (.tup xs)
  | _ => none
theorem cs_tuple : CallS X cl [true] (fun xs H Q => ∃ p ys, xs = [.ref p] ∧ ((SqL X.K H p ys ∧ ∀ l, H l = none → Q (.ref l) (upd H l (.tup ys))) ∨ (SqT X.K H p ys ∧ Q (.ref p) H))) fTuple (PF X.K cl) := fun {G0 H0 S ρ G σ H vs ds z Q} R p q k => by
  unfold fTuple at q
  split at q
  · cases q
    obtain ⟨v, rfl, h⟩ := p.one
    obtain ⟨a1, vs, rfl, h1, r1⟩ := h.lst R.ok.zsub
    refine ⟨a1, vs, rfl, .inl ⟨.inl (.inl h1), fun l hl => ?_⟩⟩
    obtain ⟨R', s', n⟩ := R.newF hl (.tup vs)
    exact k _ _ _ R' s' (.tup (.inl (.inl n)) (RepAll.mono s'.z s'.mu _ _ r1))
  · cases q
    obtain ⟨v, rfl, h⟩ := p.one
    obtain ⟨a1, vs, rfl, h1, r1⟩ := h.tup R.ok.zsub
    refine ⟨a1, vs, rfl, .inr ⟨h1, ?_⟩⟩
    rcases h with h | ⟨_, _, _, c, _⟩
    · exact k _ G H R (Stp.refl _ _) h
    · cases c
  · cases q
def fInt : List D → Option D
  | [.int i] => some (.int i)
  | [.bl b] => some (.int (if b then 1 else 0))
  | [.str x] => if x.length ≤ 640 then (PySem.intText? x).map .int else none
  | _ => none
def rIntAll : List V → Hp → VK → Prop := fun xs H Q => ((∃ i, xs = [.int i] ∧ Q (.int i) H) ∨ ∃ k, xs = [.bl k] ∧ Q (.int (if k then 1 else 0)) H) ∨ (∃ a n, xs = [.str a] ∧ PySem.intText? a = some n ∧ a.length ≤ 640 ∧ Q (.int n) H)
theorem call_intAll : CallR X (.type "int") rIntAll := CallR.or call_int1 call_int_str
theorem cs_int : CallS X cl [true] rIntAll fInt (PF X.K cl) := fun {G0 H0 S ρ G σ H vs ds z Q} R p q k => by
  unfold fInt at q
  split at q
  · cases q
    obtain ⟨v, rfl, h⟩ := p.one
    exact .inl (.inl ⟨_, by rw [h.int], k _ G H R (Stp.refl _ _) (.int _)⟩)
  · cases q
    obtain ⟨v, rfl, h⟩ := p.one
    exact .inl (.inr ⟨_, by rw [h.bl], k _ G H R (Stp.refl _ _) (.int _)⟩)
  · rename_i x
    split at q
    · obtain ⟨v, rfl, h⟩ := p.one
      cases q1 : PySem.intText? x with
      | none => rw [q1] at q; cases q
      | some n =>
        rw [q1] at q
        cases q
        exact .inr ⟨x, n, by rw [h.str], q1, by assumption, k _ G H R (Stp.refl _ _) (.int _)⟩
    · cases q
  · cases q
def fStr : List D → Option D
  | [.int i] => if i.natAbs < 2 ^ 1900 then some (.str (toString i)) else none
  | _ => none
theorem cs_str : CallS X cl [true] (fun xs H Q => ∃ i, xs = [.int i] ∧ i.natAbs.log2 < 1920 ∧ Q (.str (toString i)) H) fStr (PF X.K cl) := fun {G0 H0 S ρ G σ H vs ds z Q} R p q k => by
  unfold fStr at q
  split at q
  · rename_i i
    split at q
    · rename_i hz
      cases q
      obtain ⟨v, rfl, h⟩ := p.one
      refine ⟨i, by rw [h.int], ?_, k _ G H R (Stp.refl _ _) (.str _)⟩
      by_cases h0 : i.natAbs = 0
      · rw [h0]; decide
      · exact Nat.lt_of_lt_of_le ((Nat.log2_lt h0).mpr hz) (by decide)
    · cases q
  · cases q
def D.isT (T : String) : D → Option Bool
  | .non => some false
  | .bl _ => some (T == "bool" || T == "int")
  | .int _ => some (T == "int")
  | .str _ => some (T == "str")
  | .lst _ => some (T == "list")
  | .scr _ => some (T == "list")
  | .tup _ => some (T == "tuple")
  | .dic _ => some (T == "dict")
  | _ => none
def D.ty : D → Option String
  | .non => some "NoneType"
  | .bl _ => some "bool"
  | .int _ => some "int"
  | .str _ => some "str"
  | .lst _ => some "list"
  | .scr _ => some "list"
  | .tup _ => some "tuple"
  | .dic _ => some "dict"
  | _ => none
theorem RepV.ty {K : PySem.W.Frag} {G : Gh} {H : Hp} {v : V} {d : D} {t : String} (h : RepV K cl G H v d) (zs : Same G.Z H) (e : d.ty = some t) : TyX K H v (.type t) := by
  cases d with
  | non => rw [h.non]; cases e; exact .base .non
  | bl b => rw [h.bl]; cases e; exact .base (.bl _)
  | int i => rw [h.int]; cases e; exact .base (.int _)
  | str x => rw [h.str]; cases e; exact .base (.str _)
  | lst xs =>
    obtain ⟨p, vs, rfl, h1, r⟩ := h.lst zs
    cases e
    exact .base (.lst h1)
  | tup xs =>
    obtain ⟨p, vs, rfl, h1, r⟩ := h.tup zs
    cases e
    rcases h1 with (h1 | ⟨o, h1⟩) | ⟨o, its, n, h1, h2, _⟩
    · exact .base (.tup h1)
    · exact .fTuple h1
    · exact .kTuple h1 h2
  | exn n => cases e
  | dit n => cases e
  | nst n => cases e
  | scr xs =>
    obtain ⟨p, rfl, h1⟩ := h.scr zs
    cases e
    rcases h1 with (h1 | ⟨o, h1⟩) | ⟨o, its, n, h1, h2, _⟩
    · exact .base (.lst h1)
    · exact .base (.frz h1)
    · exact .kList h1 h2
  | dic kvs =>
    obtain ⟨p, vs, rfl, h1, r⟩ := h.dic zs
    cases e
    exact .base (.dK h1)
  | obj c fs => simp only [D.ty, reduceCtorEq] at e
  | rf n => simp only [D.ty, reduceCtorEq] at e
theorem RepT.ty {K : PySem.W.Frag} {G : Gh} {H : Hp} {v : V} {d : D} {t : String} (h : RepT K cl G H v d) (zs : Same G.Z H) (e : d.ty = some t) : TyX K H v (.type t) := RepV.ty h.vw zs e
theorem isT_ty {T : String} (hT : T = "int" ∨ T = "bool" ∨ T = "str" ∨ T = "list" ∨ T = "tuple") {d : D} {k : Bool} (h : d.isT T = some k) : ∃ t, d.ty = some t ∧ ∀ K : PySem.W.Frag, PySem.W.kitOne K (.type t) (.type T) = some k := by
  cases d <;> simp only [D.isT, reduceCtorEq] at h <;> cases h <;> refine ⟨_, rfl, fun K => kit_ty ?_⟩ <;> rcases hT with rfl | rfl | rfl | rfl | rfl <;> decide +kernel
def eIsT (T : String) (ca : Ex) : Ex := fun ρ S => (ca ρ S).bind fun d S => Res.opt ((d.isT T).map .bl) S
theorem se_isT {x y : Str} {p p2 : Pos} {T : String} (hT : T = "int" ∨ T = "bool" ∨ T = "str" ∨ T = "list" ∨ T = "tuple") (hg : Gl X x) (hm : X.mg x = none) (hv : bootBuiltins x = some (.builtin "isinstance")) (ha : SB X cl W a ca)
    (hg2 : Gl X y) (hm2 : X.mg y = none) (hv2 : bootBuiltins y = some (.type T)) (hn2 : y ≠ "__name__" := by decide) (hd2 : (y == ("__debug__" : Str)) = false := by decide) (hn : x ≠ "__name__" := by decide) (hdb : (x == ("__debug__" : Str)) = false := by decide)
    (he : starEach [a, .Name y p2] X.env = (false, eval a X.env) :: starEach [.Name y p2] X.env := by rfl) (he2 : starEach [.Name y p2] X.env = (false, eval (.Name y p2) X.env) :: starEach [] X.env := by rfl) (hpl : (backTo pos (starEach [.Name y p2] X.env)).any (·.1) = false := by rfl) : SE X cl W (.Call (.Name x p) [a, .Name y p2] [] pos) (eIsT T ca) :=
  PE.weak (pe_callB call_isi hg hm hv (pa_cons ha (pa_cons (pe_bltn hg2 hm2 hv2 (v := .ty T) rfl hn2 hd2) pa_nil he2) he) hn hdb he hpl) fun σ H Q ⟨G0, H0, S, ρ, G, R, h⟩ => by
    refine tX.bind (Pa := PB X.K cl) pfM R h fun d x S1 G1 H1 R1 s1 p1 h1 => ?_
    cases q : d.isT T with
    | none => rw [q] at h1; exact h1.elim
    | some k =>
      rw [q] at h1
      obtain ⟨t, ht, hk⟩ := isT_ty hT q
      exact ⟨x, .ty T, _, _, k, rfl, .ty T, RepT.ty p1 R1.ok.zsub ht, hk _, h1 _ G1 H1 R1 (Stp.refl _ _) (.bl _)⟩
end
end PM
set_option maxHeartbeats 1000000
namespace PM
open PySem PySem.Spec PyProof.Rows L2

inductive SR where
  | nx (ρ : Env) (S : Store) | rt (v : Val) (S : Store) | bk (ρ : Env) (S : Store) | ct (ρ : Env) (S : Store) | exc (n : Nat) (ρ : Env) (S : Store) | stuck
abbrev Stm := Env → Store → SR

section
variable (K : PySem.W.Frag) (cl : ClsP)
structure Zle (G G' : Gh) : Prop where
  z : Same G.Z G'.Z
  mu : ∃ t, G'.mu = G.mu ++ t
def StOnly (G : Gh) : Prop := ∀ a l, G.lab a = some l → l.st = true
def RtOk (G0 : Gh) (H0 : Hp) (S : Store) (v : Val) (Q : VK) : Prop :=
  match v with
  | .fr d => ∀ v G H, GOk K cl S G H → StOnly G → Stp G0 H0 G H → RepG K cl G v d → Q v H
  | .ow d => ∀ a as G H, GOk K cl S G H → StOnly G → Stp G0 H0 G H → NewAt K cl G H a d as → (∀ b ∈ as, H0 b = none) → Q (.ref a) H
def AftS (W : WX) (G0 : Gh) (H0 : Hp) (G : Gh) (D : Ends) (r : SR) : Prop :=
  match r with
  | .nx ρ S => ∀ G' σ' H', Rel K cl G0 H0 S ρ G' σ' H' → Zle G G' → D.nx σ' H'
  | .bk ρ S => ∀ G' σ' H', Rel K cl G0 H0 S ρ G' σ' H' → Zle G G' → D.bk σ' H'
  | .ct ρ S => ∀ G' σ' H', Rel K cl G0 H0 S ρ G' σ' H' → Zle G G' → D.ct σ' H'
  | .rt v S => RtOk K cl G0 H0 S v D.rt
  | .exc n ρ S => ∀ G' σ' H', Rel K cl G0 H0 S ρ G' σ' H' → Zle G G' → W (.ref (cl n)) none σ' H'
  | .stuck => False
def tS (W : WX) (c : Stm) : TS := fun D σ H => ∃ (G0 : Gh) (H0 : Hp) (S : Store) (ρ : Env) (G : Gh), Rel K cl G0 H0 S ρ G σ H ∧ AftS K cl W G0 H0 G D (c ρ S)
end
abbrev SS (X : Cx) (cl : ClsP) (W : WX) (st : Stmt) (c : Stm) : Prop := PS X st (tS X.K cl W c)
abbrev SSs (X : Cx) (cl : ClsP) (W : WX) (st : List Stmt) (c : Stm) : Prop := PSs X st (tS X.K cl W c)

section
variable {K : PySem.W.Frag} {cl : ClsP} {W : WX} {G0 G G' G1 : Gh} {H0 H H' H1 : Hp} {S S' : Store} {ρ ρ' : Env} {σ : L2.St} {v : V} {d : D} {a : Addr} {as : List Addr} {i : Nat}
theorem Zle.refl (G : Gh) : Zle G G := ⟨Same.refl _, ⟨[], by simp⟩⟩
theorem Zle.trans (a : Zle G G1) (b : Zle G1 G') : Zle G G' := ⟨a.z.trans b.z, by obtain ⟨t, e⟩ := a.mu; obtain ⟨u, f⟩ := b.mu; exact ⟨t ++ u, by rw [f, e, List.append_assoc]⟩⟩
theorem Stp.zle (s : Stp G H G' H') : Zle G G' := ⟨s.z, s.mu⟩
theorem AftS.pre {D : Ends} {r : SR} (h : AftS K cl W G0 H0 G D r) (s : Zle G G1) : AftS K cl W G0 H0 G1 D r := by
  cases r with
  | nx ρ S => exact fun G' σ' H' R z => h G' σ' H' R (s.trans z)
  | bk ρ S => exact fun G' σ' H' R z => h G' σ' H' R (s.trans z)
  | ct ρ S => exact fun G' σ' H' R z => h G' σ' H' R (s.trans z)
  | rt v S => exact h
  | exc n ρ S => exact fun G' σ' H' R z => h G' σ' H' R (s.trans z)
  | stuck => exact h
theorem set_slot {ρ : List Slot} {σ : L2.St} (len : ρ.length = σ.length) {i j : Nat} {s s' : Slot} {o : Option V} {P : Nat → Slot → Option V → Prop} (h : (ρ.set i s)[j]? = some s') (hi : P i s o) (hj : ∀ s', j ≠ i → ρ[j]? = some s' → ∃ o, σ[j]? = some o ∧ P j s' o) : ∃ o', (σ.set i o)[j]? = some o' ∧ P j s' o' := by
  by_cases e : j = i
  · subst e
    have hl : j < ρ.length := by
      rcases Nat.lt_or_ge j ρ.length with h1 | h1
      · exact h1
      · rw [List.getElem?_eq_none (by simpa using h1)] at h; cases h
    rw [List.getElem?_set_self hl] at h
    cases h
    exact ⟨o, List.getElem?_set_self (by rw [← len]; exact hl), hi⟩
  · rw [List.getElem?_set_ne (Ne.symm e)] at h
    obtain ⟨o', h1, h2⟩ := hj s' e h
    exact ⟨o', by rw [List.getElem?_set_ne (Ne.symm e)]; exact h1, h2⟩
theorem Rel.setF (R : Rel K cl G0 H0 S ρ G σ H) (i : Nat) (r : RepG K cl G v d) : Rel K cl G0 H0 S (ρ.set i (.fr d)) G (σ.set i (some v)) H :=
  ⟨R.ok, by rw [List.length_set, List.length_set]; exact R.len, fun j s h => set_slot (P := fun j s o => SlotOk K cl G0 H0 G H (.slot j) s o) R.len h ⟨v, rfl, r⟩ fun s' _ e => R.slot j s' e, R.stp, R.s0⟩
theorem Rel.setU (R : Rel K cl G0 H0 S ρ G σ H) (i : Nat) (o : Option V) : Rel K cl G0 H0 S (ρ.set i .un) G (σ.set i o) H :=
  ⟨R.ok, by rw [List.length_set, List.length_set]; exact R.len, fun j s h => set_slot (P := fun j s o => SlotOk K cl G0 H0 G H (.slot j) s o) R.len h trivial fun s' _ e => R.slot j s' e, R.stp, R.s0⟩
theorem Rel.drop1 (R : Rel K cl G0 H0 S ρ G σ H) (i : Nat) : Rel K cl G0 H0 S (ρ.set i .un) G σ H :=
  ⟨R.ok, by rw [List.length_set]; exact R.len, fun j s h => by
    by_cases e : j = i
    · subst e
      have hl : j < ρ.length := by
        rcases Nat.lt_or_ge j ρ.length with h1 | h1
        · exact h1
        · rw [List.getElem?_eq_none (by simpa using h1)] at h; cases h
      rw [List.getElem?_set_self hl] at h
      cases h
      exact ⟨σ[j]'(by rw [← R.len]; exact hl), List.getElem?_eq_getElem _, trivial⟩
    · rw [List.getElem?_set_ne (Ne.symm e)] at h
      exact R.slot j s h, R.stp, R.s0⟩
def Gh.own (G : Gh) (as : List Addr) (l : Lab) : Gh := { G with lab := fun b => if b ∈ as then some l else G.lab b }
theorem own_in {b : Addr} {l : Lab} (hb : b ∈ as) : (G.own as l).lab b = some l := by
  show (if b ∈ as then some l else G.lab b) = some l
  rw [if_pos hb]
theorem own_out {b : Addr} {l : Lab} (hb : b ∉ as) : (G.own as l).lab b = G.lab b := by
  show (if b ∈ as then some l else G.lab b) = G.lab b
  rw [if_neg hb]
theorem Rel.setN (R : Rel K cl G0 H0 S ρ G σ H) (i : Nat) (n : NewAt K cl G H a d as) (hn : ∀ b ∈ as, H0 b = none) : Rel K cl G0 H0 S (ρ.set i (.ow d)) (G.own as (.slot i)) (σ.set i (some (.ref a))) H := by
  obtain ⟨c, q⟩ := n
  have lab : ∀ b l, G.lab b = some l → (G.own as (.slot i)).lab b = some l := fun b l e => by
    rw [own_out fun hb => by rw [(q b hb).1] at e; cases e]
    exact e
  have labn : ∀ b l, (G.own as (.slot i)).lab b = some l → G.lab b = some l ∨ b ∈ as := fun b l e => by
    by_cases hb : b ∈ as
    · exact .inr hb
    · rw [own_out hb] at e; exact .inl e
  refine ⟨⟨R.ok.zsub, fun b l e => ?_, fun n c e => (R.ok.st n c e).mono (fun _ _ _ _ _ e => e) (Same.refl _) (fun b l e _ => lab b l e) ⟨[], by simp [Gh.own]⟩, R.ok.stn⟩, by rw [List.length_set, List.length_set]; exact R.len,
    fun j s h => set_slot (P := fun j s o => SlotOk K cl G0 H0 (G.own as (.slot i)) H (.slot j) s o) R.len h ⟨_, rfl, a, as, rfl, c, fun b hb => own_in hb⟩ fun s' _ e => ?_, ⟨R.stp.z, fun b l e => lab b l (R.stp.lab b l e), R.stp.keep, fun b l e => ?_, R.stp.zn, R.stp.mu, R.stp.dom⟩, R.s0⟩
  · rcases labn b l e with h | h
    · exact R.ok.labz b l h
    · exact ⟨(q b h).2, c.there b h⟩
  · obtain ⟨o, h1, h2⟩ := R.slot j s' e
    exact ⟨o, h1, h2.mono (fun _ _ _ e => e) (Same.refl _) (fun b e => lab b _ e) ⟨[], by simp [Gh.own]⟩⟩
  · rcases labn b l e with h | h
    · exact R.stp.labn b l h
    · exact .inr (hn b h)
theorem Rel.ownNew (R : Rel K cl G0 H0 S ρ G σ H) {b : Addr} (h : G.lab b = some (.slot i)) : H0 b = none := by
  rcases R.stp.labn b _ h with q | q
  · exact absurd (R.s0 b _ q) (by simp [Lab.st])
  · exact q
noncomputable def Gh.frz (G : Gh) (H : Hp) (as : List Addr) : Gh := { G with Z := fun b => if b ∈ as then H b else G.Z b, lab := fun b => if b ∈ as then none else G.lab b }
theorem Rel.write (R : Rel K cl G0 H0 S ρ G σ H) (e : σ[i]? = some (some (.ref a))) (hl : ∀ b ∈ as, G.lab b = some (.slot i)) (ha : a ∈ as) {o' : HO} {d' : D} (c : ContG K cl G (upd H a o') a d' as) : Rel K cl G0 H0 S (ρ.set i (.ow d')) G σ (upd H a o') := by
  have la := hl a ha
  have oth : ∀ b l, G.lab b = some l → l ≠ .slot i → ∀ o, H b = some o → upd H a o' b = some o := fun b l h hne o ho => by
    rw [upd_ne fun q => by subst q; rw [la] at h; cases h; exact hne rfl]
    exact ho
  have zs : Same G.Z (upd H a o') := fun b o h => by
    rw [upd_ne fun q => by subst q; rw [(R.ok.labz _ _ la).1] at h; cases h]
    exact R.ok.zsub b o h
  refine ⟨⟨zs, fun b l h => ?_, fun n c e => (R.ok.st n c e).mono (fun b l h hs o ho => oth b l h (fun q => by subst q; simp [Lab.st] at hs) o ho) (Same.refl _) (fun _ _ e _ => e) ⟨[], by simp⟩, R.ok.stn⟩, by rw [List.length_set]; exact R.len, fun j s h => ?_, ⟨R.stp.z, R.stp.lab, fun b o h hs => ?_, R.stp.labn, R.stp.zn, R.stp.mu, fun b h => ?_⟩, R.s0⟩
  · obtain ⟨h1, o, h2⟩ := R.ok.labz b l h
    refine ⟨h1, ?_⟩
    by_cases q : b = a
    · subst q; exact ⟨_, upd_same⟩
    · exact ⟨o, by rw [upd_ne q]; exact h2⟩
  · by_cases ej : j = i
    · subst ej
      have hlt : j < ρ.length := by rw [R.len]; exact (List.getElem?_eq_some_iff.mp e).1
      rw [List.getElem?_set_self hlt] at h
      cases h
      exact ⟨_, e, _, rfl, a, as, rfl, c, hl⟩
    · rw [List.getElem?_set_ne (Ne.symm ej)] at h
      obtain ⟨o, h1, h2⟩ := R.slot j s h
      exact ⟨o, h1, h2.mono (fun b h o ho => oth b _ h (by intro q; cases q; exact ej rfl) o ho) (Same.refl _) (fun _ e => e) ⟨[], by simp⟩⟩
  · rw [upd_ne fun q => by subst q; rw [R.ownNew la] at h; cases h]
    exact R.stp.keep b o h hs
  · by_cases q : b = a
    · subst q; rw [upd_same] at h; cases h
    · rw [upd_ne q] at h; exact R.stp.dom b h

theorem Rel.writeMe (R : Rel K cl G0 H0 S ρ G σ H) {d : D} (q : ρ[i]? = some (.me d)) (e : σ[i]? = some (some (.ref a))) (hl : ∀ b ∈ as, G.lab b = some (.slot i)) (ha : a ∈ as) {o' : HO} {d' : D} (c : ContG K cl G (upd H a o') a d' as) : Rel K cl G0 H0 S (ρ.set i (.me d')) G σ (upd H a o') := by
  have R' := R.write (i := i) e hl ha c
  obtain ⟨o, ho, v, rfl, _, hm⟩ := R.slot i _ q
  rw [e] at ho
  cases ho
  refine ⟨R'.ok, by rw [List.length_set]; exact R.len, fun j s h => ?_, R'.stp, R.s0⟩
  by_cases ej : j = i
  · subst ej
    have hlt : j < ρ.length := (List.getElem?_eq_some_iff.mp q).1
    rw [List.getElem?_set_self hlt] at h
    cases h
    exact ⟨_, e, _, rfl, ⟨a, as, rfl, c, hl⟩, hm⟩
  · refine R'.slot j s ?_
    rw [List.getElem?_set_ne (Ne.symm ej)] at h ⊢
    exact h
def Gh.out (G : Gh) : Gh := { G with lab := fun b => match G.lab b with
  | some l => if l.st = true then some l else none
  | none => none }
theorem out_some {b : Addr} {l : Lab} : G.out.lab b = some l ↔ G.lab b = some l ∧ l.st = true := by
  show (match G.lab b with
    | some l => if l.st = true then some l else none
    | none => none) = some l ↔ _
  cases q : G.lab b with
  | none => simp
  | some m =>
    simp only
    constructor
    · intro h
      split at h
      · cases h; exact ⟨rfl, by assumption⟩
      · cases h
    · rintro ⟨h1, h2⟩
      cases h1
      rw [if_pos h2]
theorem out_only : StOnly G.out := fun b l h => (out_some.mp h).2
theorem Rel.leave (R : Rel K cl G0 H0 S ρ G σ H) : GOk K cl S G.out H ∧ Stp G0 H0 G.out H :=
  ⟨⟨R.ok.zsub, fun b l h => R.ok.labz b l (out_some.mp h).1, fun n c e => (R.ok.st n c e).mono (fun _ _ _ _ _ e => e) (Same.refl _) (fun b l e h => out_some.mpr ⟨e, h⟩) ⟨[], by simp [Gh.out]⟩, R.ok.stn⟩,
    ⟨R.stp.z, fun b l e => out_some.mpr ⟨R.stp.lab b l e, R.s0 b l e⟩, R.stp.keep, fun b l e => R.stp.labn b l (out_some.mp e).1, R.stp.zn, R.stp.mu, R.stp.dom⟩⟩
end

section
variable {X : Cx} {cl : ClsP} {W : WX} {e : Expr} {c : Ex} {pos : Pos} {st : Stmt} {rest : List Stmt} {s1 s2 : Stm}
def sNx : Stm := fun ρ S => .nx ρ S
def sSeq (a b : Stm) : Stm := fun ρ S => match a ρ S with
  | .nx ρ' S' => b ρ' S'
  | r => r
theorem ss_nil : SSs X cl W [] sNx := PSs.weak pss_nil fun D σ H ⟨G0, H0, S, ρ, G, R, h⟩ => h G σ H R (Zle.refl _)
theorem ss_cons (h1 : SS X cl W st s1) (h2 : SSs X cl W rest s2) : SSs X cl W (st :: rest) (sSeq s1 s2) := PSs.weak (pss_cons h1 h2) fun D σ H ⟨G0, H0, S, ρ, G, R, h⟩ => by
  refine ⟨G0, H0, S, ρ, G, R, ?_⟩
  unfold sSeq at h
  cases q : s1 ρ S with
  | nx ρ' S' =>
    rw [q] at h
    exact fun G' σ' H' R' z => ⟨G0, H0, S', ρ', G', R', h.pre z⟩
  | rt v S' => rw [q] at h; exact h
  | bk ρ' S' => rw [q] at h; exact h
  | ct ρ' S' => rw [q] at h; exact h
  | exc n ρ' S' => rw [q] at h; exact h
  | stuck => rw [q] at h; exact h
def sEx {α : Type} (c : Env → Store → Res α) (k : α → Stm) : Stm := fun ρ S => match c ρ S with
  | .ok d S' => k d ρ S'
  | .exc n S' => .exc n ρ S'
  | .stuck => .stuck
theorem sEx_sem {α β : Type} {P : Post α β} {c : Env → Store → Res α} {k : α → Stm} {D : Ends} {σ : L2.St} {H : Hp} {M : β → Hp → Prop} (h : tS X.K cl W (sEx c k) D σ H)
    (hk : ∀ G0 H0 S' ρ G d v G' H', Rel X.K cl G0 H0 S' ρ G' σ H' → Stp G0 H0 G H → Stp G H G' H' → P G H G' H' d v → AftS X.K cl W G0 H0 G' D (k d ρ S') → M v H') : tX X.K cl P W c σ H M := by
  obtain ⟨G0, H0, S, ρ, G, R, h⟩ := h
  refine ⟨G0, H0, S, ρ, G, R, ?_⟩
  unfold sEx at h
  cases q : c ρ S with
  | ok d S' =>
    rw [q] at h
    exact fun v G' H' R' s p => hk G0 H0 S' ρ G d v G' H' R' R.stp s p (h.pre s.zle)
  | exc n S' =>
    rw [q] at h
    exact fun G' H' R' s => h G' σ H' R' s.zle
  | stuck => rw [q] at h; exact h
def sRet (c : Ex) : Stm := sEx c fun d _ S => .rt (.fr d) S
def sRetN (c : Ex) : Stm := sEx c fun d _ S => .rt (.ow d) S
theorem ss_ret (he : SE X cl W e c) : SS X cl W (.Return (some e) pos) (sRet c) := PS.weak (ps_ret he) fun D σ H h =>
  sEx_sem h fun G0 H0 S' ρ G d v G' H' R' s0 s p q => q v _ H' R'.leave.1 out_only R'.leave.2 p
theorem ss_retN (he : SN X cl W e c) : SS X cl W (.Return (some e) pos) (sRetN c) := PS.weak (ps_ret he) fun D σ H h =>
  sEx_sem h fun G0 H0 S' ρ G d v G' H' R' s0 s p q => by
    obtain ⟨a, as, rfl, ⟨cc, n⟩, hn⟩ := p
    refine q a as _ H' R'.leave.1 out_only R'.leave.2 ⟨cc, fun b hb => ⟨?_, (n b hb).2⟩⟩ fun b hb => s0.dom b (hn b hb)
    cases e : G'.out.lab b with
    | none => rfl
    | some l => have := (out_some.mp e).1; rw [(n b hb).1] at this; cases this
def sRetV (i : Nat) : Stm := fun ρ S => match ρ[i]? with
  | some (.ow d) => .rt (.ow d) S
  | some (.fr d) => .rt (.fr d) S
  | _ => .stuck
theorem ss_retV {i : Nat} {x : Str} {p : Pos} (hv : PE X (.Name x p) (tVar i)) : SS X cl W (.Return (some (.Name x p)) pos) (sRetV i) := PS.weak (ps_ret hv) fun D σ H ⟨G0, H0, S, ρ, G, R, h⟩ => by
  cases q : ρ[i]? with
  | none => simp only [sRetV, q, AftS] at h
  | some s =>
    obtain ⟨o, ho, hs⟩ := R.slot i s q
    cases s with
    | fr d =>
      simp only [sRetV, q] at h
      obtain ⟨v, rfl, r⟩ := hs
      exact ⟨v, ho, h v _ H R.leave.1 out_only R.leave.2 r⟩
    | ow d =>
      simp only [sRetV, q] at h
      obtain ⟨v, rfl, a, as, rfl, cc, hl⟩ := hs
      refine ⟨_, ho, h a as _ H R.leave.1 out_only R.leave.2 ⟨cc, fun b hb => ⟨?_, (R.ok.labz b _ (hl b hb)).1⟩⟩ fun b hb => R.ownNew (hl b hb)⟩
      cases e : G.out.lab b with
      | none => rfl
      | some l =>
        have := out_some.mp e
        rw [hl b hb] at this
        obtain ⟨h1, h2⟩ := this
        cases h1
        simp [Lab.st] at h2
    | un => simp only [sRetV, q, AftS] at h
    | bo d => simp only [sRetV, q, AftS] at h
    | me d => simp only [sRetV, q, AftS] at h
def sIf (tc : Tx) (a b : Stm) : Stm := sEx tc fun k ρ S => if k = true then a ρ S else b ρ S
theorem ss_if {tc : Tx} {cnd : Expr} {a b : List Stmt} (hc : STt X cl W cnd tc) (ha : SSs X cl W a s1) (hb : SSs X cl W b s2) : SS X cl W (.If cnd a b pos) (sIf tc s1 s2) := PS.weak (ps_if hc ha hb) fun D σ H h =>
  sEx_sem (P := PT1) h fun G0 H0 S' ρ G d v G' H' R' s0 s p q => by
    cases (show v = d from p)
    cases d with
    | true => exact ⟨G0, H0, S', ρ, G', R', q⟩
    | false => exact ⟨G0, H0, S', ρ, G', R', q⟩
def sSet (i : Nat) (c : Ex) : Stm := sEx c fun d ρ S => .nx (ρ.set i (.fr d)) S
def sSetN (i : Nat) (c : Ex) : Stm := sEx c fun d ρ S => .nx (ρ.set i (.ow d)) S
theorem ss_set {i : Nat} {x : Str} {pos' : Pos} (hN : X.N.Nodup) (hi : X.N[i]? = some x) (hx : Loc X.env.scope x) (he : SE X cl W e c) (hs : swapsWith e (some (.Name x pos')) pos.line X.env = pure false := by rfl) (hf : X.fn x = true ∨ X.env.scope.names.lookup x = some .local := by first | exact .inl rfl | exact .inr rfl | assumption) : SS X cl W (.Assign [.Name x pos'] e pos) (sSet i c) := PS.weak (ps_set hN hi hx he hs hf) fun D σ H h =>
  sEx_sem (P := PF X.K cl) h fun G0 H0 S' ρ G d v G' H' R' s0 s p q => q G' _ H' (R'.setF i p) (Zle.refl _)
theorem ss_setN {i : Nat} {x : Str} {pos' : Pos} (hN : X.N.Nodup) (hi : X.N[i]? = some x) (hx : Loc X.env.scope x) (he : SN X cl W e c) (hs : swapsWith e (some (.Name x pos')) pos.line X.env = pure false := by rfl) (hf : X.fn x = true ∨ X.env.scope.names.lookup x = some .local := by first | exact .inl rfl | exact .inr rfl | assumption) : SS X cl W (.Assign [.Name x pos'] e pos) (sSetN i c) := PS.weak (ps_set hN hi hx he hs hf) fun D σ H h =>
  sEx_sem (P := PN X.K cl) h fun G0 H0 S' ρ G d v G' H' R' s0 s p q => by
    obtain ⟨a, as, rfl, n, hn⟩ := p
    exact q _ _ H' (R'.setN i n fun b hb => s0.dom b (hn b hb)) ⟨Same.refl _, ⟨[], by simp [Gh.own]⟩⟩
theorem sEx_at {α β : Type} {P : Post α β} {c : Env → Store → Res α} {k : α → Stm} {D : Ends} {G0 G : Gh} {H0 H : Hp} {S : Store} {ρ : Env} {σ : L2.St} {M : β → Hp → Prop} (R : Rel X.K cl G0 H0 S ρ G σ H) (h : AftS X.K cl W G0 H0 G D (sEx c k ρ S))
    (hk : ∀ S' d v G' H', Rel X.K cl G0 H0 S' ρ G' σ H' → Stp G H G' H' → P G H G' H' d v → AftS X.K cl W G0 H0 G' D (k d ρ S') → M v H') : tX X.K cl P W c σ H M := by
  refine ⟨G0, H0, S, ρ, G, R, ?_⟩
  unfold sEx at h
  cases q : c ρ S with
  | ok d S' =>
    rw [q] at h
    exact fun v G' H' R' s p => hk S' d v G' H' R' s p (h.pre s.zle)
  | exc n S' =>
    rw [q] at h
    exact fun G' H' R' s => h G' σ H' R' s.zle
  | stuck => rw [q] at h; exact h
end
end PM
set_option maxHeartbeats 1000000
namespace PM
open PySem PySem.Spec PyProof.Rows L2

section
variable {X : Cx} {cl : ClsP} {W : WX} {e : Expr} {c : Ex} {pos : Pos} {st : Stmt} {rest : List Stmt} {s1 s2 : Stm} {es : List Expr}

def LmS (X : Cx) (cl : ClsP) (bm : List Bool) (r : V → List V → Hp → VK → Prop) (f : List D → List D → Option (List D)) : Prop :=
  ∀ {G : Gh} {H : Hp} {a : Addr} {vs xs : List V} {ds es ds' : List D} {Q : VK}, Same G.Z H → H a = some (.lst vs) → RepAll X.K cl G.mu G.Z vs ds → ArgsOk X.K cl G H bm xs es → f ds es = some ds' →
    (∀ vs', RepAll X.K cl G.mu G.Z vs' ds' → Q .non (upd H a (.lst vs'))) → r (.ref a) xs H Q
def sLm (i : Nat) (f : List D → List D → Option (List D)) (ca : Ax) : Stm := fun ρ S => match ρ[i]? with
  | some (.ow (.lst ds)) => sEx ca (fun es ρ S => match f ds es with
    | some ds' => .nx (ρ.set i (.ow (.lst ds'))) S
    | none => .stuck) ρ S
  | _ => .stuck
theorem OwnAt.lst {K : PySem.W.Frag} {G : Gh} {H : Hp} {l : Lab} {v : V} {ds : List D} (h : OwnAt K cl G H l v (.lst ds)) : ∃ a vs, v = .ref a ∧ H a = some (.lst vs) ∧ RepAll K cl G.mu G.Z vs ds ∧ G.lab a = some l := by
  obtain ⟨a, as, rfl, c, hl⟩ := h
  cases c with
  | lst h1 r => exact ⟨a, _, rfl, h1, r, hl a (by simp)⟩
theorem OwnAt.dic {K : PySem.W.Frag} {G : Gh} {H : Hp} {l : Lab} {v : V} {ds : List (Key × D)} (h : OwnAt K cl G H l v (.dic ds)) : ∃ a vs, v = .ref a ∧ H a = some (.dK vs) ∧ RepK K cl G.mu G.Z vs ds ∧ G.lab a = some l := by
  obtain ⟨a, as, rfl, c, hl⟩ := h
  cases c with
  | dic h1 r => exact ⟨a, _, rfl, h1, r, hl a (by simp)⟩
theorem ss_lm {i : Nat} {x name : Str} {p apos cpos : Pos} {id : String} {r : V → List V → Hp → VK → Prop} {bm : List Bool} {f : List D → List D → Option (List D)} {ca : Ax} (slot : PySem.Slot "list" name id) (hty : typeOf (.builtin id) = pure (.type "method_descriptor")) (hm : MtR X id r) (hs : LmS X cl bm r f) (hv : PE X (.Name x p) (tVar i)) (ha : SA X cl W bm (e :: es) ca)
    (hbase : attributeBase (.Name x p) name X.env (eval (.Name x p) X.env) = eval (.Name x p) X.env := by rfl)
    (hfew : ((backTo cpos (starEach (e :: es) X.env)).all (fun x => !x.1) && (backToKw cpos (keywordEach [] X.env)).all (fun x => x.1.isSome)
      && decide ((e :: es).length + ([] : List Keyword).length + (if ([] : List Keyword).isEmpty then 0 else 1) < 30)) = true := by rfl)
    (hline : (apos.endLine == cpos.line) = true := by rfl) (hst : starEach (e :: es) X.env = (false, eval e X.env) :: starEach es X.env := by rfl) (hplain : (backTo cpos (starEach es X.env)).any (·.1) = false := by rfl)
    (hsw : swapsWith (.Call (.Attribute (.Name x p) name apos) (e :: es) [] cpos) none pos.line X.env = pure false := by rfl) : SS X cl W (.Expr (.Call (.Attribute (.Name x p) name apos) (e :: es) [] cpos) pos) (sLm i f ca) :=
  PS.weak (ps_expr (pe_bm PySem.F.plainAttrs_list slot hty hm hv ha hbase hfew hline hst hplain) hsw) fun D σ H ⟨G0, H0, S, ρ, G, R, h⟩ => by
    unfold sLm at h
    split at h
    · rename_i ds q
      obtain ⟨o, ho, v, rfl, ow⟩ := R.slot i _ q
      obtain ⟨a, vs, rfl, h1, r1, l1⟩ := ow.lst
      refine ⟨_, ho, .inl ⟨rfl, vs, .inl (.inl h1)⟩, sEx_at (P := PA1 X.K cl bm) R h fun S' es xs G' H' R' s p q2 => ?_⟩
      obtain ⟨o', ho', v', rfl, ow'⟩ := R'.slot i _ q
      rw [ho] at ho'
      cases ho'
      obtain ⟨a', vs', e', h1', r1', l1'⟩ := ow'.lst
      cases e'
      cases q3 : f ds es with
      | none => rw [q3] at q2; exact q2.elim
      | some ds' =>
        rw [q3] at q2
        exact hs R'.ok.zsub h1' r1' p q3 fun vs' r' => q2 G' σ _ (R'.write (as := [a]) ho (fun b hb => by simp at hb; subst hb; exact l1') (by simp) (.lst upd_same r')) (Zle.refl _)
    · exact h.elim
def lAppend : List D → List D → Option (List D)
  | ds, [d] => if ds.length < 1000000 then some (ds ++ [d]) else none
  | _, _ => none
theorem ArgsOk.oneF {K : PySem.W.Frag} {G : Gh} {H : Hp} {vs : List V} {d : D} (h : ArgsOk K cl G H [false] vs [d]) : ∃ v, vs = [v] ∧ RepG K cl G v d := by
  cases h with
  | fr h t => cases t; exact ⟨_, rfl, h⟩
theorem lm_append : LmS X cl [false] rAppend lAppend := fun {G H a vs xs ds es ds' Q} zs h1 r p q k => by
  unfold lAppend at q
  split at q
  · split at q
    · cases q
      rename_i hz
      obtain ⟨v, rfl, rv⟩ := p.oneF
      exact ⟨a, vs, v, rfl, rfl, h1, by rw [r.length]; exact lim_lt hz, k _ (r.append (.cons rv .nil))⟩
    · cases q
  · cases q
def lReverse : List D → List D → Option (List D) := fun ds _ => some ds.reverse
theorem lm_reverse : LmS X cl [] rReverse lReverse := fun {G H a vs xs ds es ds' Q} zs h1 r p q k => by
  cases q
  cases p
  exact ⟨a, vs, rfl, rfl, h1, k _ r.reverse⟩
def lPop : List D → List D → Option (List D) := fun ds _ => if ds.length = 0 then none else some ds.dropLast
def D.key : D → Option Key
  | .int i => some (.inl i)
  | .str x => some (.inr x)
  | _ => none
theorem RepV.key {K : PySem.W.Frag} {G : Gh} {H : Hp} {v : V} {d : D} {k : Key} (h : RepV K cl G H v d) (e : d.key = some k) : v = kV k := by
  cases d <;> simp only [D.key, reduceCtorEq] at e <;> cases e
  · exact h.int
  · exact h.str
theorem RepT.key {K : PySem.W.Frag} {G : Gh} {H : Hp} {v : V} {d : D} {k : Key} (h : RepT K cl G H v d) (e : d.key = some k) : v = kV k := RepV.key h.vw e
def putD (ds : List (Key × D)) (k : Key) (d : D) : List (Key × D) := if (ds.any fun kv => decide (kv.1 = k)) = true then ds.map (fun kv => if kv.1 = k then (kv.1, d) else kv) else ds ++ [(k, d)]
def hasD (ds : List (Key × D)) (k : Key) : Bool := ds.any fun kv => decide (kv.1 = k)
theorem RepK.any {K : PySem.W.Frag} {mu : List Addr} {Z : Hp} {k : Key} : ∀ {vs : List (Key × V)} {ds : List (Key × D)}, RepK K cl mu Z vs ds → (vs.any fun kv => decide (kv.1 = k)) = (ds.any fun kv => decide (kv.1 = k))
  | _, _, .nil => rfl
  | _, _, .cons r t => by rw [List.any_cons, List.any_cons, RepK.any t]
theorem RepK.append {K : PySem.W.Frag} {mu : List Addr} {Z : Hp} : ∀ {vs ws : List (Key × V)} {ds es : List (Key × D)}, RepK K cl mu Z vs ds → RepK K cl mu Z ws es → RepK K cl mu Z (vs ++ ws) (ds ++ es)
  | _, _, _, _, .nil, t => t
  | _, _, _, _, .cons r s, t => .cons r (RepK.append s t)
theorem RepK.mapPut {K : PySem.W.Frag} {mu : List Addr} {Z : Hp} {k : Key} {v : V} {d : D} (rv : Rep K cl mu Z v d) : ∀ {vs : List (Key × V)} {ds : List (Key × D)}, RepK K cl mu Z vs ds → RepK K cl mu Z (vs.map fun kv => if kv.1 = k then (kv.1, v) else kv) (ds.map fun kv => if kv.1 = k then (kv.1, d) else kv)
  | _, _, .nil => .nil
  | _, _, @RepK.cons _ _ _ _ k' v' vs d' ds r t => by
    rw [List.map_cons, List.map_cons]
    by_cases h : k' = k
    · rw [if_pos h, if_pos h]; exact .cons rv (RepK.mapPut rv t)
    · rw [if_neg h, if_neg h]; exact .cons r (RepK.mapPut rv t)
theorem RepK.put {K : PySem.W.Frag} {mu : List Addr} {Z : Hp} {k : Key} {v : V} {d : D} (rv : Rep K cl mu Z v d) {vs : List (Key × V)} {ds : List (Key × D)} (r : RepK K cl mu Z vs ds) : RepK K cl mu Z (putK vs k v) (putD ds k d) := by
  unfold putK putD
  rw [r.any]
  split
  · exact r.mapPut rv
  · exact r.append (.cons rv .nil)
theorem RepK.val {K : PySem.W.Frag} {mu : List Addr} {Z : Hp} {k : Key} : ∀ {vs : List (Key × V)} {ds : List (Key × D)}, RepK K cl mu Z vs ds → (valV vs k).isSome = hasD ds k
  | _, _, .nil => rfl
  | _, _, @RepK.cons _ _ _ _ k' v' vs d' ds r t => by
    have ih := RepK.val (k := k) t
    unfold valV hasD at ih ⊢
    rw [List.find?_cons, List.any_cons]
    by_cases h : k' = k
    · simp [h]
    · rw [decide_eq_false h]
      simpa using ih
def sPut (i : Nat) (ci c : Ex) : Stm := fun ρ S => match ρ[i]? with
  | some (.ow (.dic ds)) => sEx c (fun d ρ S => sEx ci (fun k ρ S => match k.key with
    | some j => if ds.length < 1000000 then .nx (ρ.set i (.ow (.dic (putD ds j d)))) S else .stuck
    | none => .stuck) ρ S) ρ S
  | _ => .stuck
theorem ss_put {i : Nat} {x : Str} {k : Expr} {p pos' : Pos} {ck : Ex} (hu : X.A.units + 1 < cLine) (hv : PE X (.Name x p) (tVar i)) (hk : SB X cl W k ck) (he : SE X cl W e c) (hs : swapsWith e (some (.Subscript (.Name x p) k pos')) pos.line X.env = pure false := by rfl) : SS X cl W (.Assign [.Subscript (.Name x p) k pos'] e pos) (sPut i ck c) :=
  PS.weak (ps_dput hu hv hk he hs) fun D σ H ⟨G0, H0, S, ρ, G, R, h⟩ => by
    unfold sPut at h
    split at h
    · rename_i ds q
      refine sEx_at (P := PF X.K cl) R h fun S1 d v G1 H1 R1 st1 p1 q1 => ?_
      obtain ⟨o, ho, w, rfl, ow⟩ := R1.slot i _ q
      obtain ⟨a, vs, rfl, h1, r1, l1⟩ := ow.dic
      refine ⟨_, ho, sEx_at (P := PB X.K cl) R1 q1 fun S2 kd kv G2 H2 R2 st2 p2 q2 => ?_⟩
      obtain ⟨o', ho', w', rfl, ow'⟩ := R2.slot i _ q
      rw [ho] at ho'
      cases ho'
      obtain ⟨a', vs', e', h1', r1', l1'⟩ := ow'.dic
      cases e'
      cases q3 : kd.key with
      | none => rw [q3] at q2; exact q2.elim
      | some j =>
        rw [q3] at q2
        simp only at q2
        split at q2
        · rename_i hz
          have e2 := RepT.key p2 q3
          subst e2
          exact ⟨a, _, rfl, DPut.k h1' (by rw [r1'.length]; exact lim_lt hz), q2 G2 σ _ (R2.write (as := [a]) ho (fun b hb => by simp at hb; subst hb; exact l1') (by simp) (.dic upd_same (RepK.put (RepG.stp st2 p1) r1'))) (Zle.refl _)⟩
        · exact q2.elim
    · exact h.elim
section
variable {a b : Expr} {ca cb : Ex}
end
end
end PM
set_option maxHeartbeats 1000000
namespace PM
open PySem PySem.Spec PyProof.Rows L2

section
variable {K : PySem.W.Frag} {cl : ClsP} {W : WX} {G0 G G' G1 : Gh} {H0 H H' H1 : Hp} {S S' : Store} {ρ ρ' : Env} {σ : L2.St} {v : V} {d : D} {a : Addr} {as : List Addr} {i : Nat}
theorem Rel.step (R : Rel K cl G0 H0 S ρ G σ H) (s : Stp G H G' H') (ok : GOk K cl S' G' H') : Rel K cl G0 H0 S' ρ G' σ H' :=
  ⟨ok, R.len, fun i sl e => by
    obtain ⟨o, h1, h2⟩ := R.slot i sl e
    exact ⟨o, h1, h2.mono (fun b hb o ho => s.keep b o ho fun l hl => by rw [hb] at hl; cases hl; rfl) s.z (fun b hb => s.lab b _ hb) s.mu⟩, R.stp.trans s, R.s0⟩
theorem Rel.poke (R : Rel K cl G0 H0 S ρ G σ H) (h1 : G.lab a = none) (h2 : G.Z a = none) (h3 : H0 a = none) (h4 : ∃ o, H a = some o) (o : HO) : Rel K cl G0 H0 S ρ G σ (upd H a o) := by
  have oth : ∀ b l, G.lab b = some l → ∀ o', H b = some o' → upd H a o b = some o' := fun b l e o' ho => by
    rw [upd_ne fun q => by subst q; rw [h1] at e; cases e]
    exact ho
  refine ⟨⟨fun b o' e => ?_, fun b l e => ?_, fun n c e => (R.ok.st n c e).mono (fun b l e _ o' ho => oth b l e o' ho) (Same.refl _) (fun _ _ e _ => e) ⟨[], by simp⟩, R.ok.stn⟩, R.len, fun i s e => ?_, ⟨R.stp.z, R.stp.lab, fun b o' e hs => ?_, R.stp.labn, R.stp.zn, R.stp.mu, fun b e => ?_⟩, R.s0⟩
  · rw [upd_ne fun q => by subst q; rw [h2] at e; cases e]
    exact R.ok.zsub b o' e
  · obtain ⟨q1, o', q2⟩ := R.ok.labz b l e
    exact ⟨q1, o', oth b l e o' q2⟩
  · obtain ⟨o', q1, q2⟩ := R.slot i s e
    exact ⟨o', q1, q2.mono (fun b hb o' ho => oth b _ hb o' ho) (Same.refl _) (fun _ e => e) ⟨[], by simp⟩⟩
  · rw [upd_ne fun q => by subst q; rw [h3] at e; cases e]
    exact R.stp.keep b o' e hs
  · by_cases q : b = a
    · subst q; exact h3
    · rw [upd_ne q] at e; exact R.stp.dom b e
theorem Stp.poke (s : Stp G H G' H') (h : H a = none) (o : HO) : Stp G H G' (upd H' a o) :=
  ⟨s.z, s.lab, fun b o' e hs => by rw [upd_ne fun q => by subst q; rw [h] at e; cases e]; exact s.keep b o' e hs, s.labn, s.zn, s.mu, fun b e => by
    by_cases q : b = a
    · subst q; exact h
    · rw [upd_ne q] at e; exact s.dom b e⟩

structure IterOk (K : PySem.W.Frag) (cl : ClsP) (J : It) (ds : List D) (G0 : Gh) (H0 : Hp) (G : Gh) : Prop where
  go : ∀ S ρ G' σ H i d, Rel K cl G0 H0 S ρ G' σ H → Zle G G' → ds[i]? = some d → J.go i H ∧ ∀ x H2, J.yld i H x H2 → H2 = H ∧ RepG K cl G' x d
  stop : ∀ S ρ G' σ H, Rel K cl G0 H0 S ρ G' σ H → Zle G G' → J.stop ds.length H
abbrev Ix := Env → Store → Res (List D)
def tI (K : PySem.W.Frag) (cl : ClsP) (W : WX) (c : Ix) : TI := fun σ H R => ∃ (G0 : Gh) (H0 : Hp) (S : Store) (ρ : Env) (G : Gh), Rel K cl G0 H0 S ρ G σ H ∧
  match c ρ S with
  | .ok ds S' => ∀ J G' H', Rel K cl G0 H0 S' ρ G' σ H' → Stp G H G' H' → IterOk K cl J ds G0 H0 G' → R J H'
  | .exc n S' => ∀ G' H', Rel K cl G0 H0 S' ρ G' σ H' → Stp G H G' H' → W (.ref (cl n)) none σ H'
  | .stuck => False
end
abbrev SI (X : Cx) (cl : ClsP) (W : WX) (tg e : Expr) (c : Ix) : Prop := PI X tg e (tI X.K cl W c)
theorem PI.weak {X : Cx} {tg e : Expr} {t t' : TI} (h : PI X tg e t) (w : ∀ σ H R, t' σ H R → t σ H R) : PI X tg e t' := ⟨fun pins s σ H R I q => h.run pins s σ H R I (w σ H R q)⟩

section
variable {X : Cx} {cl : ClsP} {W : WX} {e tg : Expr} {c ca cb : Ex} {pos : Pos} {st : Stmt} {rest : List Stmt} {s1 s2 : Stm} {es : List Expr}
theorem iter_list {K : PySem.W.Frag} {G0 G : Gh} {H0 : Hp} {a : Addr} {vs : List V} {ds : List D} (h : ∀ S ρ G' σ H, Rel K cl G0 H0 S ρ G' σ H → Zle G G' → SqL K H a vs) (r : RepAll K cl G.mu G.Z vs ds)
    : IterOk K cl (Itl K a) ds G0 H0 G where
  go := fun S ρ G' σ H i d R z e => by
    obtain ⟨v, hv, rv⟩ := r.get e
    refine ⟨⟨vs, v, h S ρ G' σ H R z, hv⟩, fun x H2 y => ⟨y.1, ?_⟩⟩
    have hx := y.2 vs (h S ρ G' σ H R z)
    rw [hv] at hx
    cases hx
    exact Rep.mono z.z z.mu _ _ rv
  stop := fun S ρ G' σ H R z => ⟨vs, h S ρ G' σ H R z, by rw [r.length]; exact Nat.le_refl _⟩
def iL (ca : Ex) : Ix := fun ρ S => (ca ρ S).bind fun d S => match d with
  | .lst ds => .ok ds S
  | .scr ns => .ok (ns.map .int) S
  | _ => .stuck
theorem si_list (ha : SE X cl W e ca) : SI X cl W tg e (iL ca) := PI.weak (pi_list ha) fun σ H Rr ⟨G0, H0, S, ρ, G, R, h⟩ => by
  refine ⟨G0, H0, S, ρ, G, R, ?_⟩
  unfold iL at h
  cases q : ca ρ S with
  | ok d S' =>
    rw [q] at h
    intro v G' H' R' s p
    cases d <;> simp only [Res.bind] at h
    · rename_i ds
      cases p with
      | lst hs ra =>
        rename_i a vs
        exact ⟨a, rfl, ⟨vs, .inl (.inl (R'.ok.zsub _ _ hs))⟩, h (Itl X.K a) G' H' R' s (iter_list (vs := vs) (fun S ρ G'' σ H'' R'' z => .inl (.inl (R''.ok.zsub _ _ (z.z _ _ hs)))) ra)⟩
    · rename_i ns
      cases p with
      | scr hs =>
        rename_i a
        exact ⟨a, rfl, ⟨_, R'.ok.zsub.seq hs⟩, h (Itl X.K a) G' H' R' s (iter_list (vs := ns.map V.int) (fun S ρ G'' σ H'' R'' z => (z.z.trans R''.ok.zsub).seq hs) (RepAll.ints ns))⟩
  | exc n S' => rw [q] at h; exact h
  | stuck => rw [q] at h; exact h
def iB (i : Nat) : Ix := fun ρ S => match ρ[i]? with
  | some (.fr (.lst ds)) => .ok ds S
  | some (.bo (.lst ds)) => .ok ds S
  | some (.fr (.scr ns)) => .ok (ns.map .int) S
  | some (.bo (.scr ns)) => .ok (ns.map .int) S
  | _ => .stuck
theorem bor_sem {i : Nat} {σ : L2.St} {H : Hp} {Rr : It → Hp → Prop} (h0 : tI X.K cl W (iB i) σ H Rr) : iList X.K (tVar i) σ H Rr := by
  obtain ⟨G0, H0, S, ρ, G, R, h⟩ := h0
  have lists : ∀ ds v, σ[i]? = some (some v) → RepG X.K cl G v (.lst ds) → (∀ J G' H', Rel X.K cl G0 H0 S ρ G' σ H' → Stp G H G' H' → IterOk X.K cl J ds G0 H0 G' → Rr J H') → iList X.K (tVar i) σ H Rr := fun ds v ho r k => by
    cases r with
    | lst hs ra =>
      rename_i a vs
      exact ⟨_, ho, a, rfl, ⟨vs, .inl (.inl (R.ok.zsub _ _ hs))⟩, k (Itl X.K a) G H R (Stp.refl _ _) (iter_list (vs := vs) (fun S ρ G'' σ H'' R'' z => .inl (.inl (R''.ok.zsub _ _ (z.z _ _ hs)))) ra)⟩
  have scrs : ∀ ns v, σ[i]? = some (some v) → RepG X.K cl G v (.scr ns) → (∀ J G' H', Rel X.K cl G0 H0 S ρ G' σ H' → Stp G H G' H' → IterOk X.K cl J (ns.map .int) G0 H0 G' → Rr J H') → iList X.K (tVar i) σ H Rr := fun ns v ho r k => by
    cases r with
    | scr hs =>
      rename_i a
      exact ⟨_, ho, a, rfl, ⟨_, R.ok.zsub.seq hs⟩, k (Itl X.K a) G H R (Stp.refl _ _) (iter_list (vs := ns.map V.int) (fun S ρ G'' σ H'' R'' z => (z.z.trans R''.ok.zsub).seq hs) (RepAll.ints ns))⟩
  unfold iB at h
  cases q : ρ[i]? with
  | none => rw [q] at h; exact h.elim
  | some s =>
    obtain ⟨o, ho, hs⟩ := R.slot i s q
    rw [q] at h
    cases s with
    | un => exact h.elim
    | ow d => exact h.elim
    | me d => exact h.elim
    | fr d =>
      obtain ⟨v, rfl, r⟩ := hs
      cases d <;> simp only at h
      · exact lists _ v ho r h
      · exact scrs _ v ho r h
    | bo d =>
      obtain ⟨v, rfl, r⟩ := hs
      rcases r with r | ⟨a, as, rfl, cc, hl⟩
      · cases d <;> simp only at h
        · exact lists _ v ho r h
        · exact scrs _ v ho r h
      · cases d <;> simp only at h
        · rename_i ds
          cases cc with
          | lst h1 ra =>
            rename_i vs
            have ln : ∀ l, G0.lab a = some l → l.st = false := fun l e => by rw [hl a (by simp)] at e; cases e
            exact ⟨_, ho, a, rfl, ⟨vs, .inl (.inl (R.stp.keep _ _ h1 ln))⟩, h (Itl X.K a) G H R (Stp.refl _ _) (iter_list (vs := vs) (fun S ρ G'' σ H'' R'' z => .inl (.inl (R''.stp.keep _ _ h1 ln))) ra)⟩
        · cases cc
theorem si_bor {i : Nat} {x : Str} {p : Pos} (hv : PE X (.Name x p) (tVar i)) : SI X cl W tg (.Name x p) (iB i) := PI.weak (pi_list hv) fun σ H Rr h => bor_sem h
def iT (ca : Ex) : Ix := fun ρ S => (ca ρ S).bind fun d S => match d with
  | .tup ds => .ok ds S
  | _ => .stuck
theorem si_tup (ha : SE X cl W e ca) : SI X cl W tg e (iT ca) := PI.weak (pi_tup ha) fun σ H Rr ⟨G0, H0, S, ρ, G, R, h⟩ => by
  refine ⟨G0, H0, S, ρ, G, R, ?_⟩
  unfold iT at h
  cases q : ca ρ S with
  | ok d S' =>
    rw [q] at h
    intro v G' H' R' s p
    cases d <;> simp only [Res.bind] at h
    rename_i ds
    cases p with
    | tup hs ra =>
      rename_i a vs
      refine ⟨a, rfl, ⟨vs, sameT R'.ok.zsub hs⟩, h (Itt X.K a) G' H' R' s ⟨fun S ρ G'' σ H'' i d R'' z e => ?_, fun S ρ G'' σ H'' R'' z => ⟨vs, sameT (z.z.trans R''.ok.zsub) hs, by rw [ra.length]; exact Nat.le_refl _⟩⟩⟩
      obtain ⟨v, hv, rv⟩ := ra.get e
      refine ⟨⟨vs, v, sameT (z.z.trans R''.ok.zsub) hs, hv⟩, fun x H2 y => ⟨y.1, ?_⟩⟩
      have hx := y.2 vs (sameT (z.z.trans R''.ok.zsub) hs)
      rw [hv] at hx
      cases hx
      exact Rep.mono z.z z.mu _ _ rv
  | exc n S' => rw [q] at h; exact h
  | stuck => rw [q] at h; exact h
def rngD (lo : Int) (n : Nat) : List D := (List.range n).map fun (k : Nat) => .int (lo + (k : Int))
theorem iter_rng {K : PySem.W.Frag} {G0 G : Gh} {H0 : Hp} {lo : Int} {n : Nat} : IterOk K cl (Itr lo n) (rngD lo n) G0 H0 G where
  go := fun S ρ G' σ H i d R z e => by
    unfold rngD at e
    rw [List.getElem?_map] at e
    by_cases hi : i < n
    · rw [List.getElem?_range hi] at e
      cases e
      refine ⟨hi, fun x H2 y => ⟨y.1, ?_⟩⟩
      rw [y.2]
      exact .int _
    · rw [List.getElem?_eq_none (by simpa using hi)] at e
      cases e
  stop := fun S ρ G' σ H R z => by
    show n ≤ (rngD lo n).length
    unfold rngD
    rw [List.length_map, List.length_range]
    exact Nat.le_refl _
def fR1 : List D → Option (List D)
  | [.int j] => if -1000000000 ≤ j ∧ j ≤ 1000000000 then some (rngD 0 j.toNat) else none
  | _ => none
def fR2 : List D → Option (List D)
  | [.int i, .int j] => if (-1000000000 ≤ i ∧ i ≤ 1000000000) ∧ -1000000000 ≤ j ∧ j ≤ 1000000000 then some (rngD i (j - i).toNat) else none
  | _ => none
theorem fR1_some {ds zs : List D} (h : fR1 ds = some zs) : ∃ j, ds = [.int j] ∧ (-1000000000 ≤ j ∧ j ≤ 1000000000) ∧ zs = rngD 0 j.toNat := by
  unfold fR1 at h
  split at h
  · split at h
    · cases h
      exact ⟨_, rfl, by assumption, rfl⟩
    · cases h
  · cases h
theorem fR2_some {ds zs : List D} (h : fR2 ds = some zs) : ∃ i j, ds = [.int i, .int j] ∧ ((-1000000000 ≤ i ∧ i ≤ 1000000000) ∧ -1000000000 ≤ j ∧ j ≤ 1000000000) ∧ zs = rngD i (j - i).toNat := by
  unfold fR2 at h
  split at h
  · split at h
    · cases h
      exact ⟨_, _, rfl, by assumption, rfl⟩
    · cases h
  · cases h
def iFn (f : List D → Option (List D)) (ca : Ax) : Ix := fun ρ S => (ca ρ S).bind fun ds S => Res.opt (f ds) S
abbrev iR1 := iFn fR1
abbrev iR2 := iFn fR2
theorem si_range1 {a : Expr} {ax : Ax} {p : Pos} (hg : Gl X "range") (hm : X.mg "range" = none) (ha : SA X cl W [true] [a] ax) (hs : starEach [a] X.env = [(false, eval a X.env)] := by rfl) : SI X cl W tg (.Call (.Name "range" p) [a] [] pos) (iR1 ax) := PI.weak (pi_range1 hg hm ha hs) fun σ H Rr ⟨G0, H0, S, ρ, G, R, h⟩ => by
  refine ⟨G0, H0, S, ρ, G, R, ?_⟩
  unfold iR1 iFn at h
  cases q : ax ρ S with
  | ok ds S' =>
    rw [q] at h
    intro vs G' H' R' s p
    simp only [Res.bind] at h
    cases q2 : fR1 ds with
    | none => rw [q2] at h; exact h.elim
    | some zs =>
      rw [q2] at h
      obtain ⟨j, rfl, hz, rfl⟩ := fR1_some q2
      obtain ⟨v, rfl, rv⟩ := ArgsOk.one p
      exact ⟨j, by rw [rv.int], by have := hz.1; omega, by have := hz.2; omega, h _ G' H' R' s iter_rng⟩
  | exc n S' => rw [q] at h; exact h
  | stuck => rw [q] at h; exact h
theorem si_range2 {a b : Expr} {ax : Ax} {p : Pos} (hg : Gl X "range") (hm : X.mg "range" = none) (ha : SA X cl W [true, true] [a, b] ax) (hs : starEach [a, b] X.env = [(false, eval a X.env), (false, eval b X.env)] := by rfl) (hs2 : starEach [b] X.env = [(false, eval b X.env)] := by rfl) : SI X cl W tg (.Call (.Name "range" p) [a, b] [] pos) (iR2 ax) := PI.weak (pi_range2 hg hm ha hs hs2) fun σ H Rr ⟨G0, H0, S, ρ, G, R, h⟩ => by
  refine ⟨G0, H0, S, ρ, G, R, ?_⟩
  unfold iR2 iFn at h
  cases q : ax ρ S with
  | ok ds S' =>
    rw [q] at h
    intro vs G' H' R' s p
    simp only [Res.bind] at h
    cases q2 : fR2 ds with
    | none => rw [q2] at h; exact h.elim
    | some zs =>
      rw [q2] at h
      obtain ⟨i, j, rfl, hz, rfl⟩ := fR2_some q2
      obtain ⟨v, v', rfl, rv, rv'⟩ := ArgsOk.two p
      exact ⟨i, j, by rw [rv.int, rv'.int], ⟨by have := hz.1.1; omega, by have := hz.1.2; omega, by have := hz.2.1; omega, by have := hz.2.2; omega⟩, h _ G' H' R' s iter_rng⟩
  | exc n S' => rw [q] at h; exact h
  | stuck => rw [q] at h; exact h

abbrev Tgt := D → Env → Option Env
def TgS (X : Cx) (cl : ClsP) (g : TG) (tg : Tgt) : Prop :=
  ∀ {G0 : Gh} {H0 : Hp} {S : Store} {ρ ρ' : Env} {G : Gh} {σ : L2.St} {H : Hp} {x : V} {d : D} {Q : L2.St → Hp → Prop}, Rel X.K cl G0 H0 S ρ G σ H → RepG X.K cl G x d → tg d ρ = some ρ' → (∀ σ', Rel X.K cl G0 H0 S ρ' G σ' H → Q σ' H) → g x σ H Q
def gN (i : Nat) : Tgt := fun d ρ => some (ρ.set i (.fr d))
theorem tg_name {i : Nat} : TgS X cl (gName i) (gN i) := fun R r e k => by
  cases e
  exact k _ (R.setF i r)
def forS (tg : Tgt) (body : Stm) : List D → Stm
  | [] => sNx
  | d :: ds => fun ρ S => match tg d ρ with
    | none => .stuck
    | some ρ1 => match body ρ1 S with
      | .nx ρ' S' => forS tg body ds ρ' S'
      | .ct ρ' S' => forS tg body ds ρ' S'
      | .bk ρ' S' => .nx ρ' S'
      | .rt v S' => .rt v S'
      | .exc n ρ' S' => .exc n ρ' S'
      | .stuck => .stuck
def sFor (ci : Ix) (tg : Tgt) (body : Stm) : Stm := sEx ci fun ds ρ S => forS tg body ds ρ S
theorem ss_for {iter : Expr} {body : List Stmt} {g : TG} {gt : Tgt} {ci : Ix} {cb : Stm} (hp : PassesOwn (model X.prog X.w) X.A X.env X.xe) (hc : X.calm = true) (hi : SI X cl W tg iter ci) (hg : PG X tg g) (hgs : TgS X cl g gt) (hb : SSs X cl W body cb)
    (hs : ∀ x, foldedSetIterable iter X.env x = pure x := by intro _; rfl) : SS X cl W (.For tg iter body [] pos) (sFor ci gt cb) := PS.weak (ps_for hp hc hi hg hb hs) fun D σ H ⟨G0, H0, S, ρ, G, R, h⟩ => by
  refine ⟨G0, H0, S, ρ, G, R, ?_⟩
  unfold sFor sEx at h
  cases q : ci ρ S with
  | exc n S' => rw [q] at h; exact fun G' H' R' s => h G' σ H' R' s.zle
  | stuck => rw [q] at h; exact h
  | ok ds S1 =>
    rw [q] at h
    intro J G1 H1 R1 s1 it
    refine ⟨fun i m σ H => ∃ (S : Store) (ρ : Env) (G : Gh), Rel X.K cl G0 H0 S ρ G σ H ∧ Zle G1 G ∧ m = ds.length - i ∧ i ≤ ds.length ∧ AftS X.K cl W G0 H0 G D (forS gt cb (ds.drop i) ρ S), ⟨_, S1, ρ, G1, R1, Zle.refl _, rfl, Nat.zero_le _, by rw [List.drop_zero]; exact h.pre s1.zle⟩, ?_⟩
    rintro i m σ H ⟨S, ρ, G, R, z, rfl, hi, h⟩
    by_cases hlt : i < ds.length
    · right
      have hd : ds[i]? = some ds[i] := List.getElem?_eq_getElem hlt
      obtain ⟨go, yl⟩ := it.go S ρ G σ H i _ R z hd
      rw [List.drop_eq_getElem_cons hlt] at h
      refine ⟨go, fun σ H => ∃ (S : Store) (ρ : Env) (G : Gh), Rel X.K cl G0 H0 S ρ G σ H ∧ Zle G1 G ∧ AftS X.K cl W G0 H0 G D (forS gt cb (ds.drop (i + 1)) ρ S), fun σ' H' ⟨S', ρ', G', R', z', h'⟩ => ⟨ds.length - (i + 1), by omega, S', ρ', G', R', z', rfl, hlt, h'⟩, fun x H2 y => ?_⟩
      obtain ⟨rfl, rx⟩ := yl x H2 y
      unfold forS at h
      cases qt : gt ds[i] ρ with
      | none => simp only [qt, AftS] at h
      | some ρ1 =>
        simp only [qt] at h
        refine hgs R rx qt fun σ2 R2 => ⟨G0, H0, S, ρ1, G, R2, ?_⟩
        cases qb : cb ρ1 S with
        | nx ρ' S' => simp only [qb] at h; exact fun G' σ' H' R' z' => ⟨S', ρ', G', R', z.trans z', h.pre z'⟩
        | ct ρ' S' => simp only [qb] at h; exact fun G' σ' H' R' z' => ⟨S', ρ', G', R', z.trans z', h.pre z'⟩
        | bk ρ' S' => simp only [qb] at h; exact fun G' σ' H' R' z' => h G' σ' H' R' z'
        | rt v S' => simp only [qb] at h; exact h
        | exc n ρ' S' => simp only [qb] at h; exact h
        | stuck => simp only [qb] at h; exact h
    · left
      have e : i = ds.length := by omega
      subst e
      rw [List.drop_length] at h
      exact ⟨it.stop S ρ G σ H R z, h G σ H R (Zle.refl _)⟩

def whileS (tc : Tx) (body : Stm) : Nat → Stm
  | 0 => fun _ _ => .stuck
  | n + 1 => sEx tc fun k ρ S => if k = true then (match body ρ S with
      | .nx ρ' S' => whileS tc body n ρ' S'
      | .ct ρ' S' => whileS tc body n ρ' S'
      | .bk ρ' S' => .nx ρ' S'
      | .rt v S' => .rt v S'
      | .exc n ρ' S' => .exc n ρ' S'
      | .stuck => .stuck) else .nx ρ S
def FUEL : Nat := 2 ^ 64
def sWhile (tc : Tx) (body : Stm) : Stm := whileS tc body FUEL
theorem ss_while {cnd : Expr} {body : List Stmt} {tc : Tx} {cb : Stm} (hp : PassesOwn (model X.prog X.w) X.A X.env X.xe) (hc : STt X cl W cnd tc) (hb : SSs X cl W body cb) : SS X cl W (.While cnd body [] pos) (sWhile tc cb) := PS.weak (ps_while hp hc hb) fun D σ H ⟨G0, H0, S, ρ, G, R, h⟩ => by
  refine ⟨fun m σ H => ∃ (S : Store) (ρ : Env) (G : Gh), Rel X.K cl G0 H0 S ρ G σ H ∧ AftS X.K cl W G0 H0 G D (whileS tc cb m ρ S), ⟨FUEL, S, ρ, G, R, h⟩, ?_⟩
  rintro m σ H ⟨S, ρ, G, R, h⟩
  cases m with
  | zero => exact h.elim
  | succ m =>
    unfold whileS at h
    refine sEx_at (P := PT1) R h fun S' d v G' H' R' s p q => ?_
    cases (show v = d from p)
    cases d with
    | false => exact q G' σ H' R' (Zle.refl _)
    | true =>
      rw [if_pos rfl] at q ⊢
      refine ⟨fun σ H => ∃ (S : Store) (ρ : Env) (G : Gh), Rel X.K cl G0 H0 S ρ G σ H ∧ AftS X.K cl W G0 H0 G D (whileS tc cb m ρ S), fun σ' H' h => ⟨m, Nat.lt_succ_self _, h⟩, G0, H0, S', ρ, G', R', ?_⟩
      cases qb : cb ρ S' with
      | nx ρ' S2 => simp only [qb] at q; exact fun G2 σ2 H2 R2 z => ⟨S2, ρ', G2, R2, q.pre z⟩
      | ct ρ' S2 => simp only [qb] at q; exact fun G2 σ2 H2 R2 z => ⟨S2, ρ', G2, R2, q.pre z⟩
      | bk ρ' S2 => simp only [qb] at q; exact fun G2 σ2 H2 R2 z => q G2 σ2 H2 R2 z
      | rt v S2 => simp only [qb] at q; exact q
      | exc n ρ' S2 => simp only [qb] at q; exact q
      | stuck => simp only [qb] at q; exact q

def wipeE (ρ : Env) : List Nat → Env
  | [] => ρ
  | v :: vs => (wipeE ρ vs).set v .un
theorem Rel.wipe {K : PySem.W.Frag} {G0 G : Gh} {H0 H : Hp} {S : Store} {ρ : Env} {σ : L2.St} (R : Rel K cl G0 H0 S ρ G σ H) : ∀ vs : List Nat, Rel K cl G0 H0 S (wipeE ρ vs) G (L2.wipe σ vs) H
  | [] => R
  | v :: vs => (Rel.wipe R vs).setU v none
theorem wipe_set {i : Nat} {o : Option V} : ∀ {vs : List Nat} {σ : L2.St}, i ∈ vs → L2.wipe (σ.set i o) vs = L2.wipe σ vs
  | v :: vs, σ, h => by
    unfold L2.wipe
    by_cases hv : i ∈ vs
    · rw [wipe_set hv]
    · have e : i = v := by simpa [hv] using h
      subst e
      have comm : ∀ (us : List Nat) (σ : L2.St), i ∉ us → L2.wipe (σ.set i o) us = (L2.wipe σ us).set i o := fun us => by
        induction us with
        | nil => intro σ _; rfl
        | cons u us ih =>
          intro σ hu
          unfold L2.wipe
          rw [ih σ fun q => hu (List.mem_cons_of_mem _ q), List.set_comm _ _ (show i ≠ u from fun q => hu (by simp [q]))]
      rw [comm vs σ hv, List.set_set]
theorem wipe_wipe : ∀ (us : List Nat) (vs : List Nat) (σ : L2.St), (∀ u ∈ us, u ∈ vs) → L2.wipe (L2.wipe σ us) vs = L2.wipe σ vs
  | [], vs, σ, _ => rfl
  | u :: us, vs, σ, h => by
    show L2.wipe ((L2.wipe σ us).set u none) vs = _
    rw [wipe_set (h u (by simp)), wipe_wipe us vs σ fun x hx => h x (List.mem_cons_of_mem _ hx)]
def lcS (tg : Tgt) (tt : Tx) (elt : Ex) (ρ : Env) : List D → List D → Store → Res D
  | [], acc, S => .ok (.lst acc) S
  | d :: ds, acc, S => match tg d ρ with
    | none => .stuck
    | some ρ1 => match tt ρ1 S with
      | .ok k S => if k = true then (match elt ρ1 S with
          | .ok y S => if acc.length < 1000000 then lcS tg tt elt ρ ds (acc ++ [y]) S else .stuck
          | _ => .stuck) else lcS tg tt elt ρ ds acc S
      | _ => .stuck
def eLc (own : List Nat) (ci : Ix) (tg : Tgt) (tt : Tx) (elt : Ex) : Ex := fun ρ S => (ci ρ S).bind fun ds S => lcS tg tt elt (wipeE ρ own) ds [] S
def tYesD : Tx := fun _ S => .ok true S
abbrev W0 : WX := fun _ _ _ _ => False
abbrev STs (X : Cx) (cl : ClsP) (W : WX) (ifs : List Expr) (c : Tx) : Prop := PTs X ifs (tX X.K cl PT1 W c)
theorem sts_nil : STs X cl W [] tYesD := ⟨fun pins s σ H Q I ⟨G0, H0, S, ρ, G, R, h⟩ => pts_nil.run pins s σ H Q I (h true G H R (Stp.refl _ _) rfl)⟩
theorem sts_one {cnd : Expr} {tc : Tx} (h : STt X cl W cnd tc) : STs X cl W [cnd] tc := pts_one h
def TgO (g : TG) (own : List Nat) : Prop := ∀ x σ H (Q Q' : L2.St → Hp → Prop), g x σ H Q → (∀ σ' H', Q σ' H' → H' = H → L2.wipe σ' own = L2.wipe σ own → Q' σ' H') → g x σ H Q'
theorem tgo_name {i : Nat} {own : List Nat} (h : i ∈ own) : TgO (gName i) own := fun x σ H Q Q' q k => k _ _ q rfl (wipe_set h)
theorem lc_sem {G0 : Gh} {H0 : Hp} {g : TG} {gt : Tgt} {own : List Nat} {tt : Tx} {elt : Ex} {ds : List D} {J : It} {Gs G1 : Gh} {Hs H1 : Hp} {S1 : Store} {ρ : Env} {σ : L2.St} {Q : VK} (R1 : Rel X.K cl G0 H0 S1 ρ G1 σ H1) (s1 : Stp Gs Hs G1 H1) (it : IterOk X.K cl J ds G0 H0 G1)
    (hgs : TgS X cl g gt) (hgo : TgO g own) (h : Aft X.K cl (PN X.K cl) W G0 H0 ρ σ Gs Hs (lcS gt tt elt (wipeE ρ own) ds [] S1) Q) (L : Addr) (hL : H1 L = none) :
    ∃ Wv : Nat → Nat → Hp → Prop, (∃ m, Wv 0 m (upd H1 L (.lst []))) ∧ ∀ i m H, Wv i m H → (J.stop i H ∧ Q (.ref L) H) ∨ (J.go i H ∧ ∃ Nx : Hp → Prop, (∀ H', Nx H' → ∃ m', m' < m ∧ Wv (i + 1) m' H') ∧ ∀ x H', J.yld i H x H' → g x (L2.wipe σ own) H' fun σ2 H2 => L2.wipe σ2 own = L2.wipe σ own ∧ (tX X.K cl PT1 W0 tt) σ2 H2 fun b H3 =>
      if b = true then (tX X.K cl (PF X.K cl) W0 elt) σ2 H3 fun y H4 => ∃ acc, H4 L = some (.lst acc) ∧ acc.length < sizeLine ∧ Nx (upd H4 L (.lst (acc ++ [y]))) else Nx H3) := by
  have hLs : Hs L = none := s1.dom L hL
  let Wv : Nat → Hp → Prop := fun i H => ∃ (S : Store) (G : Gh) (vs : List V) (acc : List D), Rel X.K cl G0 H0 S ρ G σ H ∧ Stp Gs Hs G H ∧ Zle G1 G ∧ H L = some (.lst vs) ∧ RepAll X.K cl G.mu G.Z vs acc ∧ G.lab L = none ∧ G.Z L = none ∧ i ≤ ds.length ∧
    Aft X.K cl (PN X.K cl) W G0 H0 ρ σ Gs Hs (lcS gt tt elt (wipeE ρ own) (ds.drop i) acc S) Q
  refine ⟨fun i m H => m = ds.length - i ∧ Wv i H, ⟨_, rfl, ?_⟩, ?_⟩
  · obtain ⟨R2, s2, n⟩ := R1.newL hL (vs := []) (ds := []) .nil
    exact ⟨S1, G1, [], [], R2, s1.trans s2, Zle.refl _, upd_same, .nil, (n.2 L (by simp)).1, (n.2 L (by simp)).2, Nat.zero_le _, by rw [List.drop_zero]; exact h⟩
  · rintro i m H ⟨rfl, S, G, vs, acc, R, s, z, hv, r, l1, l2, hi, h⟩
    by_cases hlt : i < ds.length
    · right
      have hd : ds[i]? = some ds[i] := List.getElem?_eq_getElem hlt
      obtain ⟨go, yl⟩ := it.go S ρ G σ H i _ R z hd
      rw [List.drop_eq_getElem_cons hlt] at h
      refine ⟨go, fun H' => Wv (i + 1) H', fun H' w => ⟨ds.length - (i + 1), by omega, rfl, w⟩, fun x H2 y => ?_⟩
      obtain ⟨rfl, rx⟩ := yl x H2 y
      unfold lcS at h
      cases qt : gt ds[i] (wipeE ρ own) with
      | none => simp only [qt, Aft] at h
      | some ρ1 =>
        simp only [qt] at h
        refine hgo _ _ _ _ _ (hgs (Q := fun σ' H' => Rel X.K cl G0 H0 S ρ1 G σ' H2) (R.wipe own) rx qt fun σ2 R2 => R2) fun σ2 H2' R2 eH hw => ⟨hw.trans (wipe_wipe own own σ fun _ h => h), G0, H0, S, ρ1, G, by rw [eH]; exact R2, ?_⟩
        subst eH
        cases qtt : tt ρ1 S with
        | exc n S2 => simp only [qtt, Aft] at h
        | stuck => simp only [qtt, Aft] at h
        | ok k S2 =>
          simp only [qtt] at h
          intro b G2 H3 R3 s3 eb
          obtain rfl : b = k := eb
          have out : ∀ {G' : Gh} {H' : Hp}, Stp G H2' G' H' → H' L = some (.lst vs) ∧ G'.lab L = none ∧ G'.Z L = none := fun {G' H'} st => by
            refine ⟨st.keep L _ hv (fun l e => by rw [l1] at e; cases e), ?_, ?_⟩
            · cases e : G'.lab L with
              | none => rfl
              | some l =>
                rcases st.labn L l e with h | h
                · rw [l1] at h; cases h
                · rw [hv] at h; cases h
            · cases e : G'.Z L with
              | none => rfl
              | some o =>
                rcases st.zn L o e with h | h
                · rw [l2] at h; cases h
                · rw [hv] at h; cases h
          cases b with
          | false =>
            obtain ⟨o1, o2, o3⟩ := out s3
            exact ⟨S2, G2, vs, acc, R.step s3 R3.ok, s.trans s3, z.trans s3.zle, o1, RepAll.mono s3.z s3.mu _ _ r, o2, o3, hlt, h⟩
          | true =>
            rw [if_pos rfl]
            refine ⟨G0, H0, S2, ρ1, G2, R3, ?_⟩
            cases qe : elt ρ1 S2 with
            | exc n S3 => simp only [qe, if_true, Aft] at h
            | stuck => simp only [qe, if_true, Aft] at h
            | ok y S3 =>
              simp only [qe, if_true] at h
              intro yv G3 H4 R4 s4 ry
              have s34 := s3.trans s4
              obtain ⟨o1, o2, o3⟩ := out s34
              split at h
              · rename_i hz
                refine ⟨vs, o1, by rw [r.length]; exact lim_lt hz, S3, G3, vs ++ [yv], acc ++ [y], (R.step s34 R4.ok).poke o2 o3 (R1.stp.dom L hL) ⟨_, o1⟩ _, (s.trans s34).poke hLs _, z.trans s34.zle, upd_same, (RepAll.mono s34.z s34.mu _ _ r).append (.cons ry .nil), o2, o3, hlt, h⟩
              · exact h.elim
    · left
      have e : i = ds.length := by omega
      subst e
      rw [List.drop_length] at h
      exact ⟨it.stop S ρ G σ H R z, h _ G H R s ⟨L, [L], rfl, ⟨.lst hv r, fun b hb => by simp at hb; subst hb; exact ⟨l1, l2⟩⟩, fun b hb => by simp at hb; subst hb; exact hLs⟩⟩
theorem sn_lc {elt iter : Expr} {ifs : List Expr} {scope : Scope} {own : List (Str × Nat)} {g : TG} {gt : Tgt} {ci : Ix} {tt : Tx} {ce : Ex} (hc : X.calm = true) (hN : X.N.Nodup) (hi : SI X cl W tg iter ci) (ok : BlkOk X.N X.env.scope scope own)
    (hg : ∀ (s : Shared) (H : Hp) (C : Addr) (cs : List (Str × Addr)) (fp : List Addr), PG (X.blk s H scope (compEnvC scope cs C X.env) fp) tg g) (hgs : TgS X cl g gt) (hgo : TgO g (own.map (·.2)))
    (ht : ∀ (s : Shared) (H : Hp) (C : Addr) (cs : List (Str × Addr)) (fp : List Addr), STs (X.blk s H scope (compEnvC scope cs C X.env) fp) cl W0 ifs tt) (he : ∀ (s : Shared) (H : Hp) (C : Addr) (cs : List (Str × Addr)) (fp : List Addr), SE (X.blk s H scope (compEnvC scope cs C X.env) fp) cl W0 elt ce)
    (hs : ∀ x, foldedSetIterable iter X.env x = pure x := by intro _; rfl) : SN X cl W (.ListComp elt [⟨tg, iter, ifs, 0⟩] scope pos) (eLc (own.map (·.2)) ci gt tt ce) := PE.weak (pe_lc (tt := tX X.K cl PT1 W0 tt) (te := tX X.K cl (PF X.K cl) W0 ce) hc hN hi ok hg ht he hs) fun σ H Q ⟨G0, H0, S, ρ, G, R, h⟩ => by
  refine ⟨G0, H0, S, ρ, G, R, ?_⟩
  unfold eLc at h
  cases q : ci ρ S with
  | exc n S' => rw [q] at h; exact h
  | stuck => rw [q] at h; exact h
  | ok ds S1 =>
    rw [q] at h
    exact fun J G1 H1 R1 s1 it L hL => lc_sem R1 s1 it hgs hgo h L hL
end
end PM
set_option maxHeartbeats 1000000
namespace PM
open PySem PySem.Spec PyProof.Rows L2

section
variable (K : PySem.W.Frag) (cl : ClsP)
def FnEnd (G : Gh) (H : Hp) (r : Res Val) (Q : VK) (E : XK) : Prop :=
  match r with
  | .ok v S' => RtOk K cl G H S' v Q
  | .exc n S' => ∀ G' H', GOk K cl S' G' H' → StOnly G' → Stp G H G' H' → E (.ref (cl n)) none H'
  | .stuck => False
def spOf (bm : List Bool) (m : Fn) : Sp := fun vs H Q E => ∃ (G : Gh) (S : Store) (ds : List D), GOk K cl S G H ∧ StOnly G ∧ ArgsOk K cl G H bm vs ds ∧ FnEnd K cl G H (m ds S) Q E
end
def parE : List Bool → List D → List Slot
  | true :: bm, d :: ds => .bo d :: parE bm ds
  | false :: bm, d :: ds => .fr d :: parE bm ds
  | _, _ => []
def startE (bm : List Bool) (ds : List D) (k : Nat) : Env := parE bm ds ++ List.replicate k .un
def fin (r : SR) : Res Val := match r with
  | .nx _ S => .ok (.fr .non) S
  | .rt v S => .ok v S
  | .exc n _ S => .exc n S
  | _ => .stuck
def mkFn (bm : List Bool) (k : Nat) (body : Stm) : Fn := fun ds S => fin (body (startE bm ds k) S)

section
variable {K : PySem.W.Frag} {cl : ClsP} {W : WX} {G0 G G' G1 : Gh} {H0 H H' H1 : Hp} {S S' : Store} {ρ ρ' : Env} {σ : L2.St} {v : V} {d : D} {a : Addr} {as : List Addr} {i : Nat}
theorem ArgsOk.slots : ∀ {bm : List Bool} {vs : List V} {ds : List D}, ArgsOk K cl G H bm vs ds → StOnly G → ∀ (j i : Nat) (s : Slot), (parE bm ds)[i]? = some s → ∃ o, (vs.map some)[i]? = some o ∧ SlotOk K cl G H G H (.slot j) s o
  | _, _, _, .nil, _, _, _, _, h => by simp [parE] at h
  | _, _, _, .fr r t, hs, j, 0, s, h => by
    simp only [parE, List.getElem?_cons_zero, Option.some.injEq] at h
    subst h
    exact ⟨_, rfl, _, rfl, r⟩
  | _, _, _, .bo r t, hs, j, 0, s, h => by
    simp only [parE, List.getElem?_cons_zero, Option.some.injEq] at h
    subst h
    refine ⟨_, rfl, _, rfl, ?_⟩
    rcases r with r | ⟨a, as, e, c, q⟩
    · exact .inl r
    · refine .inr ⟨a, as, e, c, fun b hb => ?_⟩
      cases e2 : G.lab b with
      | none => rfl
      | some l =>
        have h1 := q b hb l e2
        rw [hs b l e2] at h1
        cases h1
  | _, _, _, .fr r t, hs, j, i + 1, s, h => by
    simp only [parE, List.getElem?_cons_succ] at h
    obtain ⟨o, h1, h2⟩ := t.slots hs j i s h
    exact ⟨o, by simpa using h1, h2⟩
  | _, _, _, .bo r t, hs, j, i + 1, s, h => by
    simp only [parE, List.getElem?_cons_succ] at h
    obtain ⟨o, h1, h2⟩ := t.slots hs j i s h
    exact ⟨o, by simpa using h1, h2⟩
theorem parE_len : ∀ {bm : List Bool} {vs : List V} {ds : List D}, ArgsOk K cl G H bm vs ds → (parE bm ds).length = vs.length
  | _, _, _, .nil => rfl
  | _, _, _, .fr r t => congrArg (· + 1) (parE_len t)
  | _, _, _, .bo r t => congrArg (· + 1) (parE_len t)
theorem Rel.start {bm : List Bool} {vs : List V} {ds : List D} {k n : Nat} (ok : GOk K cl S G H) (so : StOnly G) (p : ArgsOk K cl G H bm vs ds) (hn : n = k) : Rel K cl G H S (startE bm ds k) G (vs.map some ++ List.replicate n none) H := by
  have sl : ∀ i s, (startE bm ds k)[i]? = some s → ∃ o, (vs.map some ++ List.replicate n none)[i]? = some o ∧ SlotOk K cl G H G H (.slot i) s o := fun i s h => by
    unfold startE at h
    by_cases hi : i < (parE bm ds).length
    · rw [List.getElem?_append_left hi] at h
      obtain ⟨o, h1, h2⟩ := p.slots so i i s h
      exact ⟨o, by rw [List.getElem?_append_left (by rw [List.length_map, ← parE_len p]; exact hi)]; exact h1, h2⟩
    · rw [List.getElem?_append_right (by omega), List.getElem?_replicate] at h
      split at h
      · cases h
        rename_i h2
        refine ⟨none, ?_, trivial⟩
        rw [List.getElem?_append_right (by rw [List.length_map, ← parE_len p]; omega), List.getElem?_replicate, if_pos (by rw [List.length_map, ← parE_len p, hn]; exact h2)]
      · cases h
  exact ⟨ok, by unfold startE; rw [List.length_append, List.length_append, parE_len p, List.length_map, List.length_replicate, List.length_replicate, hn], sl, Stp.refl _ _, so⟩

def Gh.join (G G' : Gh) : Gh := { G' with lab := fun b => match G.lab b with
  | some l => if l.st = true then G'.lab b else some l
  | none => G'.lab b }
theorem join_cases {b : Addr} {l : Lab} (h : (G.join G').lab b = some l) : (G.lab b = some l ∧ l.st = false) ∨ G'.lab b = some l := by
  have h' : (match G.lab b with
    | some l => if l.st = true then G'.lab b else some l
    | none => G'.lab b) = some l := h
  cases q : G.lab b with
  | none => rw [q] at h'; exact .inr h'
  | some m =>
    rw [q] at h'
    simp only at h'
    split at h'
    · exact .inr h'
    · cases h'
      exact .inl ⟨rfl, by simpa using (by assumption : ¬ l.st = true)⟩
theorem join_slot {b : Addr} {l : Lab} (h : G.lab b = some l) (hs : l.st = false) : (G.join G').lab b = some l := by
  show (match G.lab b with
    | some l => if l.st = true then G'.lab b else some l
    | none => G'.lab b) = some l
  rw [h]
  simp [hs]
theorem join_new {b : Addr} (h : G.lab b = none) : (G.join G').lab b = G'.lab b := by
  show (match G.lab b with
    | some l => if l.st = true then G'.lab b else some l
    | none => G'.lab b) = G'.lab b
  rw [h]
theorem join_st {b : Addr} {l : Lab} (h : G.lab b = some l) (hs : l.st = true) : (G.join G').lab b = G'.lab b := by
  show (match G.lab b with
    | some l => if l.st = true then G'.lab b else some l
    | none => G'.lab b) = G'.lab b
  rw [h]
  simp [hs]
theorem Rel.join (R : Rel K cl G0 H0 S ρ G σ H) (ok : GOk K cl S' G' H') (so : StOnly G') (st : Stp G.out H G' H') : Rel K cl G0 H0 S' ρ (G.join G') σ H' ∧ Stp G H (G.join G') H' := by
  have slotOut : ∀ b l, G.lab b = some l → l.st = false → G.out.lab b = none := fun b l h hs => by
    cases e : G.out.lab b with
    | none => rfl
    | some m =>
      have := out_some.mp e
      rw [h] at this
      obtain ⟨h1, h2⟩ := this
      cases h1
      rw [hs] at h2
      cases h2
  -- a store label of the callee is one of the join
  have stl : ∀ b l, G'.lab b = some l → (G.join G').lab b = some l := fun b l h => by
    cases q : G.lab b with
    | none => rw [join_new q]; exact h
    | some m =>
      cases hm : m.st with
      | true => rw [join_st q hm]; exact h
      | false =>
        rcases st.labn b l h with h2 | h2
        · rw [slotOut b m q hm] at h2; cases h2
        · obtain ⟨_, o, h3⟩ := R.ok.labz b m q
          rw [h2] at h3; cases h3
  have sj : Stp G H (G.join G') H' := by
    refine ⟨st.z, fun b l h => ?_, fun b o h hs => st.keep b o h fun l hl => ?_, fun b l h => ?_, st.zn, st.mu, st.dom⟩
    · cases hl : l.st with
      | false => exact join_slot h hl
      | true => exact stl b l (st.lab b l (out_some.mpr ⟨h, hl⟩))
    · exact hs l (out_some.mp hl).1
    · rcases join_cases h with ⟨h1, _⟩ | h1
      · exact .inl h1
      · rcases st.labn b l h1 with h2 | h2
        · exact .inl (out_some.mp h2).1
        · exact .inr h2
  refine ⟨R.step sj ⟨ok.zsub, fun b l h => ?_, fun n c e => (ok.st n c e).mono (fun _ _ _ _ _ e => e) (Same.refl _) (fun b l e _ => stl b l e) ⟨[], by simp [Gh.join]⟩, ok.stn⟩, sj⟩
  rcases join_cases h with ⟨h1, h2⟩ | h1
  · obtain ⟨z, o, ho⟩ := R.ok.labz b l h1
    refine ⟨?_, o, st.keep b o ho fun l' e => ?_⟩
    · cases q : G'.Z b with
      | none => exact q
      | some o' =>
        rcases st.zn b o' q with h3 | h3
        · have z' : G.out.Z b = none := z
          rw [z'] at h3; cases h3
        · rw [ho] at h3; cases h3
    · rw [slotOut b l h1 h2] at e; cases e
  · exact ok.labz b l h1
theorem ArgsOk.out : ∀ {bm : List Bool} {vs : List V} {ds : List D}, ArgsOk K cl G H bm vs ds → ArgsOk K cl G.out H bm vs ds
  | _, _, _, .nil => .nil
  | _, _, _, .fr r t => .fr r t.out
  | _, _, _, .bo r t => .bo (by
    rcases r with r | ⟨a, as, e, c, q⟩
    · exact .inl r
    · exact .inr ⟨a, as, e, c, fun b hb l h => q b hb l (out_some.mp h).1⟩) t.out
def resF (r : Res Val) : Res D := match r with
  | .ok (.fr d) S => .ok d S
  | .ok (.ow d) S => .ok d S
  | .exc n S => .exc n S
  | .stuck => .stuck
def resN (r : Res Val) : Res D := match r with
  | .ok (.ow d) S => .ok d S
  | .exc n S => .exc n S
  | _ => .stuck
theorem new_join (R : Rel K cl G0 H0 S ρ G σ H) (n : NewAt K cl G' H' a d as) (hn : ∀ b ∈ as, H b = none) : NewAt K cl (G.join G') H' a d as :=
  ⟨n.1, fun b hb => ⟨by rw [join_new (R.nobody (hn b hb)).1]; exact (n.2 b hb).1, (n.2 b hb).2⟩⟩
theorem call_semF {r : Res Val} {Q : VK} (R : Rel K cl G0 H0 S ρ G σ H) (h : Aft K cl (PF K cl) W G0 H0 ρ σ G H (resF r) Q) : FnEnd K cl G.out H r Q (WE W σ) := by
  cases r with
  | ok v S' =>
    cases v with
    | fr d =>
      intro v G' H' ok so st r
      obtain ⟨R', s'⟩ := R.join ok so st
      exact h v _ H' R' s' r
    | ow d =>
      intro a as G' H' ok so st n hn
      obtain ⟨R', s'⟩ := R.join ok so st
      obtain ⟨R2, s2, rp⟩ := R'.freeze R.stp s' (new_join R n hn) hn
      exact h _ _ H' R2 s2 rp
  | exc n S' =>
    intro G' H' ok so st
    obtain ⟨R', s'⟩ := R.join ok so st
    exact h _ H' R' s'
  | stuck => exact h
theorem call_semN {r : Res Val} {Q : VK} (R : Rel K cl G0 H0 S ρ G σ H) (h : Aft K cl (PN K cl) W G0 H0 ρ σ G H (resN r) Q) : FnEnd K cl G.out H r Q (WE W σ) := by
  cases r with
  | ok v S' =>
    cases v with
    | fr d => exact h.elim
    | ow d =>
      intro a as G' H' ok so st n hn
      obtain ⟨R', s'⟩ := R.join ok so st
      exact h _ _ H' R' s' ⟨a, as, rfl, new_join R n hn, hn⟩
  | exc n S' =>
    intro G' H' ok so st
    obtain ⟨R', s'⟩ := R.join ok so st
    exact h _ H' R' s'
  | stuck => exact h
end

section
variable {P : Program} {w : World} {K : PySem.W.Frag} {mg : Str → Option Value} {base : Heap} {cl : ClsP}
theorem fn_ok {x qual : Str} {st : Stmt} {f : Addr} {fd : FuncData} {N ps : List Str} {lv k : Nat} {bm : List Bool} {body : Stm} (F : Fun K x qual st f fd) (Sc : FnScope N ps (defScope st)) (hbm : bm.length = ps.length) (hk : N.length = ps.length + k)
    (hbody : ∀ (cdv : Value) (A : Around) (outer : List PySem.Env) (s : Shared) (H : Hp) (E : XK), Room lv (A.deeper (envOfC qual (defScope st) s.heap.objs.size f cdv)) →
      L2N.Takes (cxOf (L2N.CX P w) P w K mg base N qual (defScope st) f cdv A outer s H E) (fun c d _ H => E c d H) →
      SSs (cxOf (L2N.CX P w) P w K mg base N qual (defScope st) f cdv A outer s H E) cl (fun c d _ H => E c d H) (defBody st) body) : FnOk P w K mg base (L2N.CX P w) (lv + 1) f fd ps (spOf K cl bm (mkFn bm k body)) := by
  refine F.okN Sc (fun vs H Q E ⟨G, S, ds, ok, so, p, q⟩ => (p.len.1).trans hbm) (fun cdv A outer s H vs Q E hr ⟨G, S, ds, ok, so, p, q⟩ => ?_)
  refine ⟨_, hbody cdv A outer s H E hr (L2N.takes_of rfl rfl rfl rfl), G, H, S, startE bm ds k, G, Rel.start ok so p (by rw [p.len.1, hbm, hk]; omega), ?_⟩
  unfold mkFn at q
  cases r : body (startE bm ds k) S with
  | nx ρ' S' => rw [r] at q; exact fun G' σ' H' R' z => q .non _ H' R'.leave.1 out_only R'.leave.2 .non
  | rt v S' => rw [r] at q; exact q
  | exc n ρ' S' => rw [r] at q; exact fun G' σ' H' R' z => q _ H' R'.leave.1 out_only R'.leave.2
  | bk ρ' S' => rw [r] at q; exact q.elim
  | ct ρ' S' => rw [r] at q; exact q.elim
  | stuck => rw [r] at q; exact q.elim
end

section
variable {X : Cx} {cl : ClsP} {W : WX} {e o : Expr} {es : List Expr} {pos : Pos} {k : Nat} {f : Addr} {fd : FuncData} {ps : List Str} {m : Fn} {bm : List Bool} {x : Str} {p : Pos} {ax : Ax}
def eCall (m : Fn) (ca : Ax) : Ex := fun ρ S => (ca ρ S).bind fun ds S => resF (m ds S)
def eCallN (m : Fn) (ca : Ax) : Ex := fun ρ S => (ca ρ S).bind fun ds S => resN (m ds S)
theorem se_call (F : FnOk X.prog X.w X.K X.mg X.base (L2N.CX X.prog X.w) k f fd ps (spOf X.K cl bm m)) (hr : Room k X.A) (hg : Gl X x) (hm : X.mg x = some (.ref f)) (hk : PySem.W.keepIn X.K (.ref f) = true) (hb : Binds X.K fd ps []) (tk : L2N.Takes X W) (ha : SA X cl W bm (e :: es) ax)
    (hdb : (x == ("__debug__" : Str)) = false := by decide) (he : starEach (e :: es) X.env = (false, eval e X.env) :: starEach es X.env := by rfl) (hpl : (backTo pos (starEach es X.env)).any (·.1) = false := by rfl) : SE X cl W (.Call (.Name x p) (e :: es) [] pos) (eCall m ax) :=
  PE.weak (pe_callS F hr hg hm hk hb (L2N.passAt tk) ha hdb he hpl) fun σ H Q ⟨G0, H0, S, ρ, G, R, h⟩ => by
    refine tX.bind (Pa := PA1 X.K cl bm) pfM R h fun ds vs S1 G1 H1 R1 s1 p1 h1 => ?_
    exact ⟨G1.out, S1, ds, R1.leave.1, out_only, ArgsOk.out p1, call_semF R1 h1⟩
theorem sn_call (F : FnOk X.prog X.w X.K X.mg X.base (L2N.CX X.prog X.w) k f fd ps (spOf X.K cl bm m)) (hr : Room k X.A) (hg : Gl X x) (hm : X.mg x = some (.ref f)) (hk : PySem.W.keepIn X.K (.ref f) = true) (hb : Binds X.K fd ps []) (tk : L2N.Takes X W) (ha : SA X cl W bm (e :: es) ax)
    (hdb : (x == ("__debug__" : Str)) = false := by decide) (he : starEach (e :: es) X.env = (false, eval e X.env) :: starEach es X.env := by rfl) (hpl : (backTo pos (starEach es X.env)).any (·.1) = false := by rfl) : SN X cl W (.Call (.Name x p) (e :: es) [] pos) (eCallN m ax) :=
  PE.weak (pe_callS F hr hg hm hk hb (L2N.passAt tk) ha hdb he hpl) fun σ H Q ⟨G0, H0, S, ρ, G, R, h⟩ => by
    refine tX.bind (Pa := PA1 X.K cl bm) pnM R h fun ds vs S1 G1 H1 R1 s1 p1 h1 => ?_
    exact ⟨G1.out, S1, ds, R1.leave.1, out_only, ArgsOk.out p1, call_semN R1 h1⟩

def MethOk (X : Cx) (m : Str) (C : Addr) (sp : Sp) : Prop := ∃ (g : Addr) (fd : FuncData) (j : Nat) (ps : List Str), Cls X.K C ∧ Meth X.K C m g ∧ FnOk X.prog X.w X.K X.mg X.base (L2N.CX X.prog X.w) j g fd ps sp ∧ Room j X.A ∧ Binds X.K fd ps []
def tMD (X : Cx) (m : Str) (W : WX) (ta : TE) (t : TA) : TE := fun σ H Q => ta σ H fun v H1 => ∃ (a C dx : Addr) (fs : List (Str × V)) (sp : Sp), v = .ref a ∧ H1 a = some (.ins C dx fs) ∧ fs.lookup m = none ∧ MethOk X m C sp ∧ t σ H1 fun vs H2 => sp (v :: vs) H2 Q (WE W σ)
theorem pe_md0 {mn : Str} {apos : Pos} {ta : TE} {pl : Sem Bool} (ho : PE X o ta) (tk : L2N.Takes X W)
    (ht : eval (.Call (.Attribute o mn apos) [] [] pos) X.env = (do
      let ov ← eval o X.env
      standAt apos.atName
      let (f, first) ← holding [ov] (getMethod ov mn pl)
      callWith pos f first (backTo pos (starEach [] X.env)) (backToKw pos (keywordEach [] X.env))) := by rfl) : PE X (.Call (.Attribute o mn apos) [] [] pos) (tMD X mn W ta tNil) :=
  ⟨fun pins s σ H Q I h => PySem.W.methodCall_KW (pl := pl) (thn (ho.run pins s σ H _ I h) fun u s1 ⟨v, H1, I1, rv, a, C, dx, fs, sp, ev, ea, l, ⟨g, fd, j, ps, c, hm, F, hr, hb⟩, q⟩ => by
    subst ev
    cases (show u = Value.ref a from rv)
    refine getmeth_ok I1 ea c hm l ?_
    exact PySem.W.callWith_K0 (first := [.ref a]) I1.kIn hm.kp (run_fnS (E := WE W) (us := [Value.ref a]) (vs := [V.ref a]) F hr hb (L2N.passAt tk σ) I1 (.cons rfl .nil) q)) ht⟩
abbrev MTab := Nat → Option Fn
def eMeth (mn : Str) (mt : MTab) (co : Ex) (ca : Ax) (fin : Res Val → Res D) : Ex := fun ρ S => (co ρ S).bind fun d S => match d with
  | .obj c fs => (match fs.lookup mn, mt c with
    | none, some fn => (ca ρ S).bind fun ds S => fin (fn (d :: ds) S)
    | _, _ => .stuck)
  | .rf n => (match S[n]? with
    | some (.obj c fs) => (match fs.lookup mn, mt c with
      | none, some fn => (ca ρ S).bind fun ds S => fin (fn (d :: ds) S)
      | _, _ => .stuck)
    | _ => .stuck)
  | _ => .stuck
def MtOk (X : Cx) (cl : ClsP) (mn : Str) (bm : List Bool) (mt : MTab) : Prop := ∀ c fn, mt c = some fn → MethOk X mn (cl c) (spOf X.K cl (true :: bm) fn)
theorem recv {K : PySem.W.Frag} {G0 G : Gh} {H0 H : Hp} {S : Store} {ρ : Env} {σ : L2.St} {v : V} {mn : Str} {mt : MTab} {d : D} {fn : Fn} {c : Nat} (R : Rel K cl G0 H0 S ρ G σ H) (p : RepT K cl G H v d)
    (h : (∃ fs, d = .obj c fs ∧ fs.lookup mn = none ∧ mt c = some fn) ∨ ∃ n fs, d = .rf n ∧ S[n]? = some (.obj c fs) ∧ fs.lookup mn = none ∧ mt c = some fn) : ∃ a dx fs, v = .ref a ∧ H a = some (.ins (cl c) dx fs) ∧ fs.lookup mn = none := by
  rcases h with ⟨fs, rfl, h1, h2⟩ | ⟨n, fs, rfl, hn, h1, h2⟩
  · rcases p with p | ⟨a, as, rfl, cc, _⟩
    · cases p with
      | obj hs hx ha => exact ⟨_, _, _, rfl, R.ok.zsub _ _ hs, ha.lookupN h1⟩
    · cases cc with
      | obj hs hx ha => exact ⟨_, _, _, rfl, hs, ha.lookupN h1⟩
  · rcases p with p | ⟨a, as, rfl, cc, _⟩
    · cases p with
      | rf e =>
        obtain ⟨a, as, e1, cc, _⟩ := (R.ok.st n _ hn).ok
        rw [e] at e1
        cases e1
        cases cc with
        | obj hs hx ha => exact ⟨_, _, _, rfl, hs, ha.lookupN h1⟩
    · cases cc
theorem meth_sem {mn : Str} {mt : MTab} {co : Ex} {bm : List Bool} {P : Post D V} {fn : Res Val → Res D} (hP : PostM P) (hfin : ∀ {G0 : Gh} {H0 : Hp} {S : Store} {ρ : Env} {G : Gh} {σ : L2.St} {H : Hp} {r : Res Val} {Q : VK}, Rel X.K cl G0 H0 S ρ G σ H → Aft X.K cl P W G0 H0 ρ σ G H (fn r) Q → FnEnd X.K cl G.out H r Q (WE W σ)) (hmt : MtOk X cl mn bm mt)
    {σ : L2.St} {H : Hp} {Q : VK} (h : tX X.K cl P W (eMeth mn mt co ax fn) σ H Q) : tMD X mn W (tX X.K cl (PB X.K cl) W co) (tX X.K cl (PA1 X.K cl bm) W ax) σ H Q := by
  obtain ⟨G0, H0, S, ρ, G, R, h⟩ := h
  refine tX.bind hP R h fun d v S1 G1 H1 R1 s1 p1 h1 => ?_
  have go : ∀ (c : Nat) (fn1 : Fn), mt c = some fn1 → ((∃ fs, d = .obj c fs ∧ fs.lookup mn = none ∧ mt c = some fn1) ∨ ∃ n fs, d = .rf n ∧ S1[n]? = some (.obj c fs) ∧ fs.lookup mn = none ∧ mt c = some fn1) →
      Aft X.K cl P W G0 H0 ρ σ G1 H1 ((ax ρ S1).bind fun ds S => fn (fn1 (d :: ds) S)) Q → ∃ (a C dx : Addr) (fs : List (Str × V)) (sp : Sp), v = .ref a ∧ H1 a = some (.ins C dx fs) ∧ fs.lookup mn = none ∧ MethOk X mn C sp ∧ tX X.K cl (PA1 X.K cl bm) W ax σ H1 fun vs H2 => sp (v :: vs) H2 Q (WE W σ) := fun c fn1 hf hr h1 => by
    obtain ⟨a, dx, fs, rfl, h2, h3⟩ := recv R1 p1 hr
    refine ⟨a, cl c, dx, fs, _, rfl, h2, h3, hmt c fn1 hf, tX.bind (Pa := PA1 X.K cl bm) hP R1 h1 fun ds vs S2 G2 H2 R2 s2 p2 h4 => ?_⟩
    exact ⟨G2.out, S2, d :: ds, R2.leave.1, out_only, ArgsOk.out (.bo (RepT.stp p1 s2) p2), hfin R2 h4⟩
  cases d with
  | obj c fs =>
    simp only at h1
    cases q1 : fs.lookup mn with
    | some y => simp only [q1, Aft] at h1
    | none =>
      cases q2 : mt c with
      | none => simp only [q1, q2, Aft] at h1
      | some fn1 =>
        simp only [q1, q2] at h1
        exact go c fn1 q2 (.inl ⟨fs, rfl, q1, q2⟩) h1
  | rf n =>
    simp only at h1
    cases q0 : S1[n]? with
    | none => simp only [q0, Aft] at h1
    | some cell =>
      cases cell with
      | box _ => simp only [q0, Aft] at h1
      | obj c fs =>
        simp only [q0] at h1
        cases q1 : fs.lookup mn with
        | some y => simp only [q1, Aft] at h1
        | none =>
          cases q2 : mt c with
          | none => simp only [q1, q2, Aft] at h1
          | some fn1 =>
            simp only [q1, q2] at h1
            exact go c fn1 q2 (.inr ⟨n, fs, rfl, q0, q1, q2⟩) h1
  | _ => simp only [Aft] at h1
theorem aNil_sem {σ : L2.St} {H : Hp} {Q : List V → Hp → Prop} (h : tX X.K cl (PA1 X.K cl []) W aNil σ H Q) : tNil σ H Q := by
  obtain ⟨G0, H0, S, ρ, G, R, h⟩ := h
  exact h _ G H R (Stp.refl _ _) .nil
theorem tMD_nil {mn : Str} {ta : TE} {σ : L2.St} {H : Hp} {Q : VK} (mono : ∀ (M M' : V → Hp → Prop), (∀ v H, M v H → M' v H) → ta σ H M → ta σ H M') (h : tMD X mn W ta (tX X.K cl (PA1 X.K cl []) W aNil) σ H Q) : tMD X mn W ta tNil σ H Q :=
  mono _ _ (fun v H1 ⟨a, C, dx, fs, sp, e1, e2, e3, e4, q⟩ => ⟨a, C, dx, fs, sp, e1, e2, e3, e4, aNil_sem q⟩) h
theorem tX_mono {K : PySem.W.Frag} {α β : Type} {P : Post α β} {c : Env → Store → Res α} {σ : L2.St} {H : Hp} {Q Q' : β → Hp → Prop} (k : ∀ v H, Q v H → Q' v H) (h : tX K cl P W c σ H Q) : tX K cl P W c σ H Q' := by
  obtain ⟨G0, H0, S, ρ, G, R, h⟩ := h
  refine ⟨G0, H0, S, ρ, G, R, ?_⟩
  cases q : c ρ S with
  | ok d S' => rw [q] at h; exact fun v G' H' R' s p => k _ _ (h v G' H' R' s p)
  | exc n S' => rw [q] at h; exact h
  | stuck => rw [q] at h; exact h
theorem se_meth0 {mn : Str} {apos : Pos} {mt : MTab} {co : Ex} {pl : Sem Bool} (hmt : MtOk X cl mn [] mt) (ho : SB X cl W o co) (tk : L2N.Takes X W)
    (ht : eval (.Call (.Attribute o mn apos) [] [] pos) X.env = (do
      let ov ← eval o X.env
      standAt apos.atName
      let (f, first) ← holding [ov] (getMethod ov mn pl)
      callWith pos f first (backTo pos (starEach [] X.env)) (backToKw pos (keywordEach [] X.env))) := by rfl) : SE X cl W (.Call (.Attribute o mn apos) [] [] pos) (eMeth mn mt co aNil resF) :=
  PE.weak (pe_md0 (pl := pl) ho tk ht) fun σ H Q h => tMD_nil (fun _ _ k q => tX_mono k q) (meth_sem pfM call_semF hmt h)
theorem sn_meth0 {mn : Str} {apos : Pos} {mt : MTab} {co : Ex} {pl : Sem Bool} (hmt : MtOk X cl mn [] mt) (ho : SB X cl W o co) (tk : L2N.Takes X W)
    (ht : eval (.Call (.Attribute o mn apos) [] [] pos) X.env = (do
      let ov ← eval o X.env
      standAt apos.atName
      let (f, first) ← holding [ov] (getMethod ov mn pl)
      callWith pos f first (backTo pos (starEach [] X.env)) (backToKw pos (keywordEach [] X.env))) := by rfl) : SN X cl W (.Call (.Attribute o mn apos) [] [] pos) (eMeth mn mt co aNil resN) :=
  PE.weak (pe_md0 (pl := pl) ho tk ht) fun σ H Q h => tMD_nil (fun _ _ k q => tX_mono k q) (meth_sem pnM call_semN hmt h)
end

section
variable {X : Cx} {cl : ClsP} {W : WX} {a b c : Expr} {ca cb cc : Ex} {pos : Pos}
end
theorem _root_.L2.Room.u65 {k : Nat} {A : Around} (r : Room k A) : A.units + 65 < cLine := by have := r.un; omega
theorem _root_.L2.Room.u1 {k : Nat} {A : Around} (r : Room k A) : A.units + 1 < cLine := by have := r.un; omega
end PM
set_option maxHeartbeats 1000000
namespace PM
open PySem PySem.Spec PyProof.Rows L2
theorem cx_end {P : Program} {w : World} {H : Hp} {s : Shared} {e : Value} {s' : Shared} (z : L2N.CX P w [] H s (fun _ _ _ => False) e s') : False := by
  obtain ⟨_, _, _, _, _, _, _, _, _, _, _, _, h⟩ := z
  exact h
end PM
set_option maxHeartbeats 1000000
namespace PM
open PySem PySem.Spec PyProof.Rows L2

abbrev FTab := Nat → Str → Bool
def CInfo (K : PySem.W.Frag) (cl : ClsP) (fl : FTab) : Prop := ∀ c f, fl c f = true → Cls K (cl c) ∧ NoAttr K (cl c) f
def pD (f : Str) (d : D) : List (Str × D) → List (Str × D)
  | [] => [(f, d)]
  | (g, x) :: r => if g = f then (g, d) :: r else (g, x) :: pD f d r
section
variable {K : PySem.W.Frag} {cl : ClsP} {mu : List Addr} {Z H : Hp} {G : Gh} {v : V}
theorem RepF.put {f : Str} {d : D} (r : Rep K cl mu Z v d) : ∀ {vs : List (Str × V)} {ds : List (Str × D)}, RepF K cl mu Z vs ds → RepF K cl mu Z (putF f v vs) (pD f d ds)
  | _, _, .nil => .cons r .nil
  | _, _, @RepF.cons _ _ _ _ g w vs e ds q t => by
    unfold putF pD
    by_cases h : g = f
    · rw [if_pos h, if_pos h]; exact .cons r t
    · rw [if_neg h, if_neg h]; exact .cons q (RepF.put r t)
theorem RepV.obj {c : Nat} {fs : List (Str × D)} (h : RepV K cl G H v (.obj c fs)) (zs : Same G.Z H) : ∃ a dx vs, v = .ref a ∧ H a = some (.ins (cl c) dx vs) ∧ RepF K cl G.mu G.Z vs fs := by
  rcases h with h | ⟨a, as, e, cc, _⟩
  · cases h with
    | obj hs hx ha => exact ⟨_, _, _, rfl, zs _ _ hs, ha⟩
  · cases cc with
    | obj hs hx ha => exact ⟨_, _, _, e, hs, ha⟩
theorem RepT.obj {c : Nat} {fs : List (Str × D)} (h : RepT K cl G H v (.obj c fs)) (zs : Same G.Z H) : ∃ a dx vs, v = .ref a ∧ H a = some (.ins (cl c) dx vs) ∧ RepF K cl G.mu G.Z vs fs := RepV.obj h.vw zs
theorem RepV.rfn {n : Nat} (h : RepV K cl G H v (.rf n)) : ∃ a, v = .ref a ∧ G.mu[n]? = some a := by
  rcases h with h | ⟨a, as, e, cc, _⟩
  · cases h with
    | rf e => exact ⟨_, rfl, e⟩
  · cases cc
theorem RepT.rfn {n : Nat} (h : RepT K cl G H v (.rf n)) : ∃ a, v = .ref a ∧ G.mu[n]? = some a := RepV.rfn h.vw
end
def eFld (fl : FTab) (f : Str) (co : Ex) : Ex := fun ρ S => (co ρ S).bind fun d S => match d with
  | .obj c fs => if fl c f = true then Res.opt (fs.lookup f) S else .stuck
  | .rf n => (match S[n]? with
    | some (.obj c fs) => if fl c f = true then Res.opt (fs.lookup f) S else .stuck
    | _ => .stuck)
  | _ => .stuck
section
variable {X : Cx} {cl : ClsP} {W : WX} {e o : Expr} {c co : Ex} {pos : Pos} {fl : FTab} {f : Str}
theorem se_fld (hi : CInfo X.K cl fl) (ho : SB X cl W o co) (hb : attributeBase o f X.env (eval o X.env) = eval o X.env := by rfl) : SE X cl W (.Attribute o f pos) (eFld fl f co) := PE.weak (pe_fld ho hb) fun σ H Q ⟨G0, H0, S, ρ, G, R, h⟩ => by
  refine tX.bind (Pa := PB X.K cl) pfM R h fun d v S1 G1 H1 R1 s1 p1 h1 => ?_
  cases d with
  | obj k fs =>
    simp only at h1
    split at h1
    · rename_i hf
      obtain ⟨hc, hn⟩ := hi k f hf
      cases q : fs.lookup f with
      | none => rw [q] at h1; exact h1.elim
      | some y =>
        rw [q] at h1
        obtain ⟨a, dx, vs, rfl, ha, r⟩ := RepT.obj p1 R1.ok.zsub
        obtain ⟨w, hw, rw'⟩ := r.lookup q
        exact ⟨a, cl k, dx, vs, w, rfl, ha, hc, hn, hw, h1 _ G1 H1 R1 (Stp.refl _ _) rw'⟩
    · exact h1.elim
  | rf n =>
    simp only at h1
    cases q0 : S1[n]? with
    | none => simp only [q0, Aft] at h1
    | some cell =>
      cases cell with
      | box _ => simp only [q0, Aft] at h1
      | obj k fs =>
        simp only [q0] at h1
        split at h1
        · rename_i hf
          obtain ⟨hc, hn⟩ := hi k f hf
          cases q : fs.lookup f with
          | none => rw [q] at h1; exact h1.elim
          | some y =>
            rw [q] at h1
            obtain ⟨a, rfl, ha⟩ := RepT.rfn p1
            obtain ⟨a', as, e1, cc, _⟩ := (R1.ok.st n _ q0).ok
            rw [ha] at e1
            cases e1
            cases cc with
            | obj hs hx r =>
              obtain ⟨w, hw, rw'⟩ := r.lookup q
              exact ⟨a, cl k, _, _, w, rfl, hs, hc, hn, hw, h1 _ G1 H1 R1 (Stp.refl _ _) rw'⟩
        · exact h1.elim
  | _ => simp only [Aft] at h1
def sFldMe (fl : FTab) (i : Nat) (f : Str) (c : Ex) : Stm := sEx c fun d ρ S => match ρ[i]? with
  | some (.me (.obj k fs)) => if fl k f = true ∧ fs.length < 1000 then .nx (ρ.set i (.me (.obj k (pD f d fs)))) S else .stuck
  | _ => .stuck
theorem ss_fldMe {i : Nat} {x : Str} {p pos' : Pos} (hi : CInfo X.K cl fl) (hv : PE X (.Name x p) (tVar i)) (he : SE X cl W e c) (hs : swapsWith e (some (.Attribute (.Name x p) f pos')) pos.line X.env = pure false := by rfl) : SS X cl W (.Assign [.Attribute (.Name x p) f pos'] e pos) (sFldMe fl i f c) := PS.weak (ps_fld hv he hs) fun D σ H h =>
  sEx_sem (P := PF X.K cl) h fun G0 H0 S' ρ G d v G' H' R' s0 s p q => by
    cases qi : ρ[i]? with
    | none => simp only [qi, AftS] at q
    | some sl =>
      cases sl with
      | me d0 =>
        cases d0 with
        | obj k fs =>
          simp only [qi] at q
          split at q
          · rename_i hf
            obtain ⟨hc, hn⟩ := hi k f hf.1
            obtain ⟨o, ho, w, rfl, ⟨a, as, rfl, cc, hl⟩, hm⟩ := R'.slot i _ qi
            cases cc with
            | obj h1 h2 r =>
              rename_i dx vs
              have ne : dx ≠ a := fun z => by subst z; rw [h1] at h2; cases h2
              exact ⟨_, ho, a, cl k, dx, vs, rfl, h1, hc, hn, by rw [r.length]; exact hf.2, q G' σ _ (R'.writeMe qi ho hl (by simp) (.obj upd_same (by rw [upd_ne ne]; exact h2) (RepF.put p r))) (Zle.refl _)⟩
          · exact q.elim
        | _ => simp only [qi, AftS] at q
      | _ => simp only [qi, AftS] at q
end

abbrev Ini := Nat → List D → Store → Res D
section
variable (K : PySem.W.Frag) (cl : ClsP)
def IniEnd (G : Gh) (H : Hp) (x : Addr) (r : Res D) (Q : VK) (E : XK) : Prop :=
  match r with
  | .ok d S' => ∀ as G' H', GOk K cl S' G' H' → StOnly G' → Stp G H G' H' → NewAt K cl G' H' x d as → (∀ b ∈ as, H b = none) → Q .non H'
  | .exc n S' => ∀ G' H', GOk K cl S' G' H' → StOnly G' → Stp G H G' H' → E (.ref (cl n)) none H'
  | .stuck => False
def spIni (c : Nat) (bm : List Bool) (m : Ini) : Sp := fun vs H Q E => ∃ (G : Gh) (S : Store) (ds : List D) (x dx : Addr) (vs' : List V) (H1 : Hp), vs = .ref x :: vs' ∧ H = upd (upd H1 dx (.own x)) x (.ins (cl c) dx []) ∧ H1 x = none ∧ H1 dx = none ∧ dx ≠ x ∧
  GOk K cl S G H1 ∧ StOnly G ∧ ArgsOk K cl G H1 bm vs' ds ∧ IniEnd K cl G H1 x (m c ds S) Q E
end
def mkIni (bm : List Bool) (k : Nat) (body : Stm) : Ini := fun c ds S => match body (.me (.obj c []) :: startE bm ds k) S with
  | .nx ρ S' => (match (ρ[0]? : Option Slot) with
    | some (Slot.me d) => .ok d S'
    | _ => .stuck)
  | .exc n _ S' => .exc n S'
  | _ => .stuck
section
variable {K : PySem.W.Frag} {cl : ClsP} {G : Gh} {H : Hp} {S : Store}
theorem parE_slots {bm : List Bool} {vs : List V} {ds : List D} {x : Addr} {c dxa : Addr} {H' : Hp} (p : ArgsOk K cl G H bm vs ds) (so : StOnly G) (as : List Addr) (l : Lab) (mv : Option V) : ∀ (j i : Nat) (s : Slot), (parE bm ds)[i]? = some s → ∃ o, (vs.map some)[i]? = some o ∧ SlotOk K cl { G with me := mv } H (({ G with me := mv } : Gh).own as l) H' (.slot j) s o := by
  induction p with
  | nil => intro j i s h; simp [parE] at h
  | @fr bm v vs d ds r t ih =>
    intro j i s h
    cases i with
    | zero =>
      simp only [parE, List.getElem?_cons_zero, Option.some.injEq] at h
      subst h
      exact ⟨_, rfl, _, rfl, r⟩
    | succ i =>
      simp only [parE, List.getElem?_cons_succ] at h
      obtain ⟨o, h1, h2⟩ := ih j i s h
      exact ⟨o, by simpa using h1, h2⟩
  | @bo bm v vs d ds r t ih =>
    intro j i s h
    cases i with
    | zero =>
      simp only [parE, List.getElem?_cons_zero, Option.some.injEq] at h
      subst h
      refine ⟨_, rfl, _, rfl, ?_⟩
      rcases r with r | ⟨a, as', e, cc, q⟩
      · exact .inl r
      · refine .inr ⟨a, as', e, cc, fun b hb => ?_⟩
        show G.lab b = none
        cases e2 : G.lab b with
        | none => rfl
        | some l =>
          have h1 := q b hb l e2
          rw [so b l e2] at h1
          cases h1
    | succ i =>
      simp only [parE, List.getElem?_cons_succ] at h
      obtain ⟨o, h1, h2⟩ := ih j i s h
      exact ⟨o, by simpa using h1, h2⟩
theorem Stp.me {G' : Gh} {H' : Hp} {mv : Option V} (s : Stp { G with me := mv } H G' H') : Stp G H G' H' := ⟨s.z, s.lab, s.keep, s.labn, s.zn, s.mu, s.dom⟩
theorem Rel.startMe {bm : List Bool} {vs : List V} {ds : List D} {k n c : Nat} {x dx : Addr} (ok : GOk K cl S G H) (so : StOnly G) (p : ArgsOk K cl G H bm vs ds) (hn : n = k) (hx : H x = none) (hdx : H dx = none) (ne : dx ≠ x) :
    Rel K cl { G with me := some (.ref x) } H S (.me (.obj c []) :: startE bm ds k) (({ G with me := some (.ref x) } : Gh).own [x, dx] (.slot 0)) ((V.ref x :: vs).map some ++ List.replicate n none) (upd (upd H dx (.own x)) x (.ins (cl c) dx [])) := by
  have sm : Same H (upd (upd H dx (.own x)) x (.ins (cl c) dx [])) := fun b o e => by
    rw [upd_ne (ne_of_none e hx), upd_ne (ne_of_none e hdx)]; exact e
  have hd : upd (upd H dx (.own x)) x (.ins (cl c) dx []) dx = some (.own x) := by rw [upd_ne ne, upd_same]
  have lab : ∀ b l, G.lab b = some l → (({ G with me := some (.ref x) } : Gh).own [x, dx] (.slot 0)).lab b = some l := fun b l e => by
    rw [own_out]
    · exact e
    · intro hb
      obtain ⟨_, o, h⟩ := ok.labz b l e
      simp at hb
      rcases hb with rfl | rfl
      · rw [hx] at h; cases h
      · rw [hdx] at h; cases h
  have labn : ∀ b l, (({ G with me := some (.ref x) } : Gh).own [x, dx] (.slot 0)).lab b = some l → G.lab b = some l ∨ (b = x ∨ b = dx) := fun b l e => by
    by_cases hb : b ∈ [x, dx]
    · exact .inr (by simpa using hb)
    · rw [own_out hb] at e; exact .inl e
  refine ⟨⟨ok.zsub.trans sm, fun b l e => ?_, fun m cc e => (ok.st m cc e).mono (fun b _ _ _ o e => sm b o e) (Same.refl _) (fun b l e _ => lab b l e) ⟨[], by simp [Gh.own]⟩, ok.stn⟩, ?_, fun i s h => ?_, ⟨Same.refl _, lab, fun b o e _ => sm b o e, fun b l e => ?_, fun b o e => .inl e, ⟨[], by simp [Gh.own]⟩, fun b e => sm.free e⟩, so⟩
  · rcases labn b l e with h | h | h
    · obtain ⟨h1, o, h2⟩ := ok.labz b l h
      exact ⟨h1, o, sm b o h2⟩
    · subst h; exact ⟨ok.zsub.free hx, _, upd_same⟩
    · subst h; exact ⟨ok.zsub.free hdx, _, hd⟩
  · have := parE_len p
    unfold startE
    simp only [List.length_cons, List.length_append, List.length_map, List.length_replicate, this, hn]
    omega
  · cases i with
    | zero =>
      simp only [List.getElem?_cons_zero, Option.some.injEq] at h
      subst h
      refine ⟨some (.ref x), rfl, _, rfl, ⟨x, [x, dx], rfl, .obj upd_same hd .nil, fun b hb => own_in hb⟩, rfl⟩
    | succ i =>
      simp only [List.getElem?_cons_succ] at h
      unfold startE at h
      by_cases hi : i < (parE bm ds).length
      · rw [List.getElem?_append_left hi] at h
        obtain ⟨o, h1, h2⟩ := parE_slots (x := x) (c := x) (dxa := x) (H' := upd (upd H dx (.own x)) x (.ins (cl c) dx [])) p so [x, dx] (.slot 0) (some (.ref x)) (i + 1) i s h
        refine ⟨o, ?_, h2⟩
        simp only [List.map_cons, List.cons_append, List.getElem?_cons_succ]
        rw [List.getElem?_append_left (by rw [List.length_map, ← parE_len p]; exact hi)]
        exact h1
      · rw [List.getElem?_append_right (by omega), List.getElem?_replicate] at h
        split at h
        · cases h
          rename_i h2
          refine ⟨none, ?_, trivial⟩
          simp only [List.map_cons, List.cons_append, List.getElem?_cons_succ]
          rw [List.getElem?_append_right (by rw [List.length_map, ← parE_len p]; omega), List.getElem?_replicate, if_pos (by rw [List.length_map, ← parE_len p, hn]; exact h2)]
        · cases h
  · rcases labn b l e with h | h | h
    · exact .inl h
    · subst h; exact .inr hx
    · subst h; exact .inr hdx
end
section
variable {P : Program} {w : World} {K : PySem.W.Frag} {mg : Str → Option Value} {base : Heap} {cl : ClsP}
theorem ini_ok {x qual : Str} {st : Stmt} {f : Addr} {fd : FuncData} {N : List Str} {p0 : Str} {ps : List Str} {lv k c : Nat} {bm : List Bool} {body : Stm} (F : Fun K x qual st f fd) (Sc : FnScope N (p0 :: ps) (defScope st)) (hbm : bm.length = ps.length) (hk : N.length = 1 + ps.length + k)
    (hbody : ∀ (cdv : Value) (A : Around) (outer : List PySem.Env) (s : Shared) (H : Hp) (E : XK), Room lv (A.deeper (envOfC qual (defScope st) s.heap.objs.size f cdv)) →
      L2N.Takes (cxOf (L2N.CX P w) P w K mg base N qual (defScope st) f cdv A outer s H E) (fun c d _ H => E c d H) →
      SSs (cxOf (L2N.CX P w) P w K mg base N qual (defScope st) f cdv A outer s H E) cl (fun c d _ H => E c d H) (defBody st) body) : FnOk P w K mg base (L2N.CX P w) (lv + 1) f fd (p0 :: ps) (spIni K cl c bm (mkIni bm k body)) := by
  refine F.okN Sc (fun vs H Q E ⟨G, S, ds, x, dx, vs', H1, e, _, _, _, _, _, _, p, _⟩ => by rw [e, List.length_cons, p.len.1, hbm, List.length_cons]) (fun cdv A outer s H vs Q E hr ⟨G, S, ds, x, dx, vs', H1, e, eH, hx, hdx, ne, ok, so, p, q⟩ => ?_)
  subst e eH
  refine ⟨_, hbody cdv A outer s _ E hr (L2N.takes_of rfl rfl rfl rfl), _, H1, S, .me (.obj c []) :: startE bm ds k, _, Rel.startMe ok so p (by rw [List.length_cons, p.len.1, hbm, hk]; omega) hx hdx ne, ?_⟩
  unfold mkIni at q
  cases r : body (.me (.obj c []) :: startE bm ds k) S with
  | nx ρ' S' =>
    rw [r] at q
    intro G' σ' H' R' z
    simp only at q
    cases q0 : ρ'[0]? with
    | none => simp only [q0, IniEnd] at q
    | some sl =>
      cases sl with
      | me d =>
        simp only [q0] at q
        obtain ⟨o, ho, v, rfl, ⟨a, as, rfl, cc, hl⟩, hm⟩ := R'.slot 0 _ q0
        have ea : a = x := by
          have : some (V.ref x) = some (V.ref a) := hm
          cases this
          rfl
        subst ea
        refine q as _ H' R'.leave.1 out_only (Stp.me R'.leave.2) ⟨cc, fun b hb => ⟨?_, (R'.ok.labz b _ (hl b hb)).1⟩⟩ fun b hb => R'.ownNew (hl b hb)
        cases e : G'.out.lab b with
        | none => rfl
        | some l =>
          have := out_some.mp e
          rw [hl b hb] at this
          obtain ⟨h1, h2⟩ := this
          cases h1
          simp [Lab.st] at h2
      | _ => simp only [q0, IniEnd] at q
  | rt v S' => rw [r] at q; exact q.elim
  | exc n ρ' S' => rw [r] at q; exact fun G' σ' H' R' z => q _ H' R'.leave.1 out_only (Stp.me R'.leave.2)
  | bk ρ' S' => rw [r] at q; exact q.elim
  | ct ρ' S' => rw [r] at q; exact q.elim
  | stuck => rw [r] at q; exact q.elim
end
section
variable {X : Cx} {cl : ClsP} {W : WX} {e : Expr} {es : List Expr} {pos : Pos} {k : Nat} {f C : Addr} {fd : FuncData} {ps : List Str} {bm : List Bool} {x : Str} {p : Pos} {ax : Ax} {sp : Sp} {t : TA}
def tMakeS (C : Addr) (sp : Sp) (W : WX) (t : TA) : TE := fun σ H Q => t σ H fun vs H1 => ∀ x dx, H1 x = none → H1 dx = none → dx ≠ x → sp (.ref x :: vs) (upd (upd H1 dx (.own x)) x (.ins C dx [])) (fun v H2 => v = .non ∧ Q (.ref x) H2) (WE W σ)
theorem run_makeS {pins : List (Addr × Obj)} {σ : L2.St} {H : Hp} {s : Shared} {Q : VK} {us : List Value} {vs : List V} (M : Mk X.K C f) (F : FnOk X.prog X.w X.K X.mg X.base (L2N.CX X.prog X.w) k f fd ps sp) (hr : Room (k + 1) X.A) (hb : Binds X.K fd ps [])
    (tk : L2N.Takes X W) (I : Inv X pins σ H s) (r : Vals vs us)
    (h : ∀ x dx, H x = none → H dx = none → dx ≠ x → sp (.ref x :: vs) (upd (upd H dx (.own x)) x (.ins C dx [])) (fun v H2 => v = .non ∧ Q (.ref x) H2) (WE W σ)) :
    wpAny (model X.prog X.w) X.A (call (.ref C) us) (EP X pins σ Q) X.xe s := by
  have hq := h (s.heap.objs.size + 1) s.heap.objs.size (I.hok.fresh (Nat.le_succ _)) (I.hok.fresh (Nat.le_refl _)) (Nat.ne_of_lt (Nat.lt_succ_self _))
  have I2 := Inv.made (C := C) I
  have r2 : Vals (V.ref (s.heap.objs.size + 1) :: vs) (Value.ref (s.heap.objs.size + 1) :: us) := .cons rfl r
  have hl : (Value.ref (s.heap.objs.size + 1) :: us).length = ps.length := by
    have e := r2.length
    rw [F.len _ _ _ _ hq] at e
    exact e.symm
  have hl2 : ((Value.ref (s.heap.objs.size + 1) :: us) ++ []).length = ps.length := by rw [List.append_nil]; exact hl
  have hb2 := hb _ (Value.ref (s.heap.objs.size + 1) :: us) I2.kIn hl2
  rw [List.append_nil] at hb2
  refine wpAny_call (make_map (f := f) I.kIn M.makes M.init (beq_iff_eq.mp M.fn) (codeAny_mono (F.run _ X.stack _ _ ⟨Value.ref (s.heap.objs.size + 1) :: us, []⟩ (Value.ref (s.heap.objs.size + 1) :: us) _ _ (WE W σ) (hr.make C us [])
    (I2.env0.make C us []) hb2 r2 hq) fun r s' hq' => ?_))
  cases r with
  | error e => exact L2N.passAt tk σ pins _ _ e s' I2 hq'
  | ok fl =>
    cases fl with
    | ret u =>
      obtain ⟨v, H', I3, rv, ev, q3⟩ := I2.after hq'
      subst ev
      exact ⟨rv, ⟨V.ref (s.heap.objs.size + 1), H', I3, rfl, q3⟩⟩
    | next => exact False.elim hq'
    | brk => exact False.elim hq'
    | cont => exact False.elim hq'
theorem pe_makeS (M : Mk X.K C f) (F : FnOk X.prog X.w X.K X.mg X.base (L2N.CX X.prog X.w) k f fd ps sp) (hr : Room (k + 1) X.A) (hg : Gl X x) (hm : X.mg x = some (.ref C)) (hb : Binds X.K fd ps []) (tk : L2N.Takes X W)
    (ha : PA X (e :: es) t) (hdb : (x == ("__debug__" : Str)) = false := by decide) (he : starEach (e :: es) X.env = (false, eval e X.env) :: starEach es X.env := by rfl) (hpl : (backTo pos (starEach es X.env)).any (·.1) = false := by rfl) :
    PE X (.Call (.Name x p) (e :: es) [] pos) (tMakeS C sp W t) := by
  refine ⟨fun pins s σ H Q I h => ?_⟩
  refine wpAny_Call_Name_kw (ld_glob I hg hm ?_ hdb)
  refine PySem.W.callWith_K (h₀ := X.base) I.ok.mod.kin M.kp (thn (ha.run pos pins s σ H _ I h) fun us s1 ⟨vs, H1, I1, r, q⟩ => ⟨I1.kIn, ?_⟩) he hpl
  exact run_makeS M F hr hb tk I1 r q
def eMake (m : List D → Store → Res D) (ca : Ax) : Ex := fun ρ S => (ca ρ S).bind fun ds S => m ds S
theorem make_sem {G0 : Gh} {H0 : Hp} {S : Store} {ρ : Env} {G : Gh} {σ : L2.St} {H : Hp} {y : Addr} {r : Res D} {Q : VK} (R : Rel X.K cl G0 H0 S ρ G σ H) (h : Aft X.K cl (PN X.K cl) W G0 H0 ρ σ G H r Q) : IniEnd X.K cl G.out H y r (fun v H2 => v = .non ∧ Q (.ref y) H2) (WE W σ) := by
  cases r with
  | ok d S' =>
    intro as G' H' ok so st n hn
    obtain ⟨R', s'⟩ := R.join ok so st
    exact ⟨rfl, h _ _ H' R' s' ⟨y, as, rfl, new_join R n hn, hn⟩⟩
  | exc n S' =>
    intro G' H' ok so st
    obtain ⟨R', s'⟩ := R.join ok so st
    exact h _ H' R' s'
  | stuck => exact h
theorem sn_make {c : Nat} {m : Ini} (M : Mk X.K (cl c) f) (F : FnOk X.prog X.w X.K X.mg X.base (L2N.CX X.prog X.w) k f fd ps (spIni X.K cl c bm m)) (hr : Room (k + 1) X.A) (hg : Gl X x) (hm : X.mg x = some (.ref (cl c))) (hb : Binds X.K fd ps []) (tk : L2N.Takes X W) (ha : SA X cl W bm (e :: es) ax)
    (hdb : (x == ("__debug__" : Str)) = false := by decide) (he : starEach (e :: es) X.env = (false, eval e X.env) :: starEach es X.env := by rfl) (hpl : (backTo pos (starEach es X.env)).any (·.1) = false := by rfl) : SN X cl W (.Call (.Name x p) (e :: es) [] pos) (eMake (m c) ax) :=
  PE.weak (pe_makeS M F hr hg hm hb tk ha hdb he hpl) fun σ H Q ⟨G0, H0, S, ρ, G, R, h⟩ => by
    refine tX.bind (Pa := PA1 X.K cl bm) pnM R h fun ds vs S1 G1 H1 R1 s1 p1 h1 => ?_
    intro y dx hy hdx ne
    exact ⟨G1.out, S1, ds, y, dx, vs, H1, rfl, rfl, hy, hdx, ne, R1.leave.1, out_only, ArgsOk.out p1, make_sem R1 h1⟩
structure ObCls (K : PySem.W.Frag) (C : Addr) : Prop where
  cls : Cls K C
  ha : PySem.W.findIn K (.ref C) "__class__" = some (some (.builtin "object.__class__"))
  hn : PySem.W.specialIn K (.builtin "object.__class__") "__get__" = some (some (.builtin "getset_descriptor.__get__"))
  ht : PySem.W.takesIn K (.builtin "object.__class__") = some true
  hm : PySem.W.mroIn K C (.type "object") = some true
structure ExCls (K : PySem.W.Frag) (C : Addr) : Prop where
  xi : PySem.W.excIn K C [.type "ValueError", .type "Exception", .type "BaseException", .type "object"] "ValueError.__new__" = true
  kp : PySem.W.keepIn K (.ref C) = true
  sb : PySem.W.subIn K (.ref C) (.type "BaseException") = some true
  ty : PySem.W.typeIn K (.ref C) = some (.type "type")
end
def clOf (K : PySem.W.Frag) (names : List Str) (n : Nat) : Addr := match names[n]? with
  | some x => (match PySem.W.nsIn K mainGlobals x with
    | some (some (.ref a)) => a
    | _ => 0)
  | none => 0
theorem clOf_eq {K : PySem.W.Frag} {names : List Str} {n : Nat} {x : Str} {a : Addr} (h1 : names[n]? = some x) (h2 : PySem.W.nsIn K mainGlobals x = some (some (.ref a))) : clOf K names n = a := by
  unfold clOf; rw [h1]; simp only [h2]
end PM
set_option maxHeartbeats 1000000
namespace PM
open PySem PySem.Spec PyProof.Rows L2
section
variable {X : Cx} {cl : ClsP} {W : WX} {e tg a b c : Expr} {ca cb cc : Ex} {pos : Pos}

def fMin2 : List D → Option D
  | [.int i, .int j] => some (.int (if j < i then j else i))
  | _ => none
theorem cs_min2 : CallS X cl [true, true] (fun xs H Q => ∃ i j, xs = [.int i, .int j] ∧ Q (.int (if j < i then j else i)) H) fMin2 (PF X.K cl) := fun {G0 H0 S ρ G σ H vs ds z Q} R p q k => by
  unfold fMin2 at q
  split at q
  · cases q
    obtain ⟨v, v', rfl, h, h'⟩ := p.two
    exact ⟨_, _, by rw [h.int, h'.int], k _ G H R (Stp.refl _ _) (.int _)⟩
  · cases q
def D.ints : List D → Option (List Int)
  | [] => some []
  | .int i :: r => (D.ints r).map (i :: ·)
  | _ :: _ => none
def D.bls : List D → Option (List Bool)
  | [] => some []
  | .bl i :: r => (D.bls r).map (i :: ·)
  | _ :: _ => none
def D.strs : List D → Option (List Str)
  | [] => some []
  | .str i :: r => (D.strs r).map (i :: ·)
  | _ :: _ => none
section
variable {K : PySem.W.Frag} {mu : List Addr} {Z : Hp}
theorem RepAll.toInts : ∀ {vs : List V} {ds : List D} {ns : List Int}, RepAll K cl mu Z vs ds → D.ints ds = some ns → vs = ns.map V.int
  | _, _, _, .nil, e => by simp only [D.ints] at e; cases e; rfl
  | _, _, ns, @RepAll.cons _ _ _ _ v vs d ds r t, e => by
    cases d <;> simp only [D.ints, reduceCtorEq] at e
    cases q : D.ints ds with
    | none => rw [q] at e; cases e
    | some ms =>
      rw [q] at e
      cases e
      cases r
      rw [RepAll.toInts t q]
      rfl
theorem RepAll.toBls : ∀ {vs : List V} {ds : List D} {ns : List Bool}, RepAll K cl mu Z vs ds → D.bls ds = some ns → vs = ns.map V.bl
  | _, _, _, .nil, e => by simp only [D.bls] at e; cases e; rfl
  | _, _, ns, @RepAll.cons _ _ _ _ v vs d ds r t, e => by
    cases d <;> simp only [D.bls, reduceCtorEq] at e
    cases q : D.bls ds with
    | none => rw [q] at e; cases e
    | some ms =>
      rw [q] at e
      cases e
      cases r
      rw [RepAll.toBls t q]
      rfl
theorem RepAll.toStrs : ∀ {vs : List V} {ds : List D} {ns : List Str}, RepAll K cl mu Z vs ds → D.strs ds = some ns → vs = ns.map V.str
  | _, _, _, .nil, e => by simp only [D.strs] at e; cases e; rfl
  | _, _, ns, @RepAll.cons _ _ _ _ v vs d ds r t, e => by
    cases d <;> simp only [D.strs, reduceCtorEq] at e
    cases q : D.strs ds with
    | none => rw [q] at e; cases e
    | some ms =>
      rw [q] at e
      cases e
      cases r
      rw [RepAll.toStrs t q]
      rfl
end
def fAll : List D → Option D
  | [.lst xs] => (D.bls xs).map fun ns => .bl (ns.all id)
  | _ => none
theorem cs_all : CallS X cl [true] (rAll X.K) fAll (PF X.K cl) := fun {G0 H0 S ρ G σ H vs ds z Q} R p q k => by
  unfold fAll at q
  split at q
  · rename_i xs
    cases q1 : D.bls xs with
    | none => rw [q1] at q; cases q
    | some ns =>
      rw [q1] at q
      cases q
      obtain ⟨v, rfl, h⟩ := p.one
      obtain ⟨a1, vs, rfl, h1, r1⟩ := h.lst R.ok.zsub
      exact ⟨a1, ns, rfl, .inl (.inl (by rw [← r1.toBls q1]; exact h1)), k _ G H R (Stp.refl _ _) (.bl _)⟩
  · cases q

end
end PM
set_option maxHeartbeats 1000000
namespace PM
open PySem PySem.Spec PyProof.Rows L2
def sWipe (is : List Nat) : Stm := fun ρ S => .nx (wipeE ρ is) S
section
variable {X : Cx} {cl : ClsP} {W : WX} {s1 : Stm} {rest : List Stmt}
theorem Rel.drops {K : PySem.W.Frag} {G0 G : Gh} {H0 H : Hp} {S : Store} {ρ : Env} {σ : L2.St} (R : Rel K cl G0 H0 S ρ G σ H) : ∀ is : List Nat, Rel K cl G0 H0 S (wipeE ρ is) G σ H
  | [] => R
  | i :: is => (Rel.drops R is).drop1 i
theorem ss_wipe {is : List Nat} (h : SSs X cl W rest s1) : SSs X cl W rest (sSeq (sWipe is) s1) := PSs.weak h fun D σ H ⟨G0, H0, S, ρ, G, R, q⟩ => ⟨G0, H0, S, wipeE ρ is, G, R.drops is, q⟩
end
end PM
namespace PM
open PySem PySem.Spec PyProof.Rows L2
theorem sp_startR {K : PySem.W.Frag} {cl : ClsP} (bm : List Bool) {m : Fn} {H : Hp} {a : Addr} {ns : List Int} (hb : bm = [true] ∨ bm = [false]) (h : ∃ S, resF (m [.scr ns] []) = .ok (.bl true) S) (hS : SqL K H a (ns.map V.int)) : spOf K cl bm m [.ref a] H (fun v _ => v = .bl true) (fun _ _ _ => False) := by
  obtain ⟨S, h⟩ := h
  refine ⟨{ Z := H, lab := fun _ => none, mu := [], me := none }, [], [.scr ns], ⟨fun _ _ e => e, fun _ _ e => (by cases e), fun n c e => (by simp at e), rfl⟩, fun _ _ e => (by cases e), ?_, ?_⟩
  · rcases hb with rfl | rfl
    · exact .bo (.inl (.scr hS)) .nil
    · exact .fr (.scr hS) .nil
  · cases q : m [.scr ns] [] with
    | ok v S' =>
      cases v with
      | fr d =>
        rw [q] at h
        simp only [resF] at h
        cases h
        intro v G' H' _ _ _ r
        cases r
        rfl
      | ow d =>
        rw [q] at h
        simp only [resF] at h
        cases h
        intro a as G' H' _ _ _ n _
        cases n.1
    | exc n S' => rw [q] at h; simp only [resF, reduceCtorEq] at h
    | stuck => rw [q] at h; simp only [resF, reduceCtorEq] at h
end PM
set_option maxHeartbeats 2000000
namespace PM
open PySem PySem.Spec PyProof.Rows L2
section
variable {X : Cx} {pins : List (Addr × Obj)} {σ : L2.St} {H : Hp} {s : Shared}
end
section
variable {X : Cx} {x n : Str} {c : Value} {i : Nat} {body suite : List Stmt} {first : Stmt} {np pos pos' : Pos} {tb : WX → TS} {ts : Value → Addr → TS} {Wout : WX}
end
end PM
set_option maxHeartbeats 1000000
namespace PM
open PySem PySem.Spec PyProof.Rows L2
section
variable {X : Cx} {cl : ClsP} {W : WX} {a : Expr} {ca : Ex} {pos : Pos}
abbrev HTab := Nat → Option Bool
end
def hands (n : Nat) (ρ : Env) (S : Store) : List (HTab × Stm) → SR
  | [] => .exc n ρ S
  | (hit, suite) :: r => match hit n with
    | some true => (match suite ρ S with
      | .exc _ _ _ => .stuck
      | q => q)
    | some false => hands n ρ S r
    | none => .stuck
def HitOk (K : PySem.W.Frag) (cl : ClsP) (hit : HTab) (c : Value) : Prop := ∀ n b, hit n = some b → PySem.W.exmOne K (.ref (cl n)) c = some b
section
variable {X : Cx} {cl : ClsP} {W : WX} {x n : Str} {c : Value} {i : Nat} {body suite : List Stmt} {first : Stmt} {np pos pos' : Pos} {s1 s2 : Stm} {hit : HTab}
inductive HdsS (X : Cx) (cl : ClsP) : List ExceptHandler → List (HTab × Stm) → List (Value × (Addr → Value → Option Addr → TS)) → Prop
  | nil : HdsS X cl [] [] []
  | cons {x : Str} {c : Value} {first : Stmt} {suite : List Stmt} {np pos' : Pos} {hit : HTab} {s2 : Stm} {hds : List ExceptHandler} {l : List (HTab × Stm)} {l' : List (Value × (Addr → Value → Option Addr → TS))} (hc : Names X x c) (hh : HitOk X.K cl hit c)
      (hsu : ∀ (e : Addr) (oe : Obj) (pn : List (Addr × Obj)), SSs (X.suite e ((e, oe) :: pn)) cl W0 (first :: suite) s2) (r : HdsS X cl hds l l') :
      HdsS X cl (.ExceptHandler (some (.Name x np)) none (first :: suite) pos' :: hds) ((hit, s2) :: l) ((c, fun _ _ _ => tS X.K cl W0 s2) :: l')
theorem HdsS.ok {hds : List ExceptHandler} {l : List (HTab × Stm)} {l' : List (Value × (Addr → Value → Option Addr → TS))} (h : HdsS X cl hds l l') : L2N.HdsOk X hds l' := by
  induction h with
  | nil => exact .nil
  | cons hc hh hsu r ih => exact .cons hc (fun a oe cls d pn _ _ => hsu a oe pn) ih
end
end PM
set_option maxHeartbeats 1000000
namespace PM
open PySem PySem.Spec PyProof.Rows L2
theorem _root_.L2H.RoomH.units {k : Nat} {A : Around} (r : L2H.RoomH k A) : A.units + 64 < cLine := by have := r.un; omega
theorem _root_.L2H.RoomH.u65 {k : Nat} {A : Around} (r : L2H.RoomH k A) : A.units + 65 < cLine := by have := r.un; omega
theorem _root_.L2H.RoomH.u1 {k : Nat} {A : Around} (r : L2H.RoomH k A) : A.units + 1 < cLine := by have := r.un; omega
def CXn : CXT := fun _ _ _ _ _ _ => False
structure FnQ (P : Program) (w : World) (K : PySem.W.Frag) (mg : Str → Option Value) (base : Heap) (k : Nat) (f : Addr) (fd : FuncData) (ps : List Str) (sp : Sp) : Prop where
  len : ∀ vs H Q E, sp vs H Q E → vs.length = ps.length
  run : ∀ (A : Around) (outer : List PySem.Env) (s : Shared) (H : Hp) (args : Args) (us : List Value) (vs : List V) (Q : VK), L2H.RoomH k A → Env0 P w K mg base A outer s H → BindsTo s fd args (ps.zip us) → Vals vs us → sp vs H Q (fun _ _ _ => False) →
    codeAny (model P w) A (.call (.ref f) args) (CR CXn outer P w H s Q (fun _ _ _ => False)) s
section
variable {P : Program} {w : World} {K : PySem.W.Frag} {mg : Str → Option Value} {base : Heap} {cl : ClsP}
end
section
variable {X : Cx} {cl : ClsP} {W : WX} {e : Expr} {es : List Expr} {pos : Pos} {k : Nat} {f : Addr} {fd : FuncData} {ps : List Str} {m : Fn} {bm : List Bool} {x : Str} {p : Pos} {ax : Ax}
end
end PM
namespace PM
open PySem PySem.Spec PyProof.Rows L2
section
variable {K : PySem.W.Frag} {cl : ClsP} {G0 G : Gh} {H0 H : Hp} {S : Store} {ρ : Env} {σ : L2.St} {p : Addr}
end
section
variable {X : Cx} {cl : ClsP} {W : WX} {o : Expr} {c : Ex}
end
end PM
namespace PM
open PySem PySem.Spec PyProof.Rows L2
mutual
def D.nk : D → Option NestedKey
  | .int i => some (.num i)
  | .str x => some (.text x)
  | .tup ds => (D.nks ds).map .tup
  | _ => none
def D.nks : List D → Option (List NestedKey)
  | [] => some []
  | d :: ds => match D.nk d, D.nks ds with
    | some k, some ks => some (k :: ks)
    | _, _ => none
end
mutual
theorem D.nk_py : ∀ (d : D) (k : NestedKey), d.nk = some k → d.py = some k.data
  | .int _, _, e => by simp only [D.nk] at e; cases e; rfl
  | .str _, _, e => by simp only [D.nk] at e; cases e; rfl
  | .tup ds, k, e => by
    simp only [D.nk] at e
    cases q : D.nks ds with
    | none => rw [q] at e; cases e
    | some ks =>
      rw [q] at e
      cases e
      simp only [D.py, D.nks_py ds ks q, NestedKey.data]
      rfl
  | .non, _, e => by simp only [D.nk] at e; cases e
  | .bl _, _, e => by simp only [D.nk] at e; cases e
  | .lst _, _, e => by simp only [D.nk] at e; cases e
  | .dic _, _, e => by simp only [D.nk] at e; cases e
  | .obj _ _, _, e => by simp only [D.nk] at e; cases e
  | .rf _, _, e => by simp only [D.nk] at e; cases e
  | .scr _, _, e => by simp only [D.nk] at e; cases e
  | .exn _, _, e => by simp only [D.nk] at e; cases e
  | .dit _, _, e => by simp only [D.nk] at e; cases e
theorem D.nks_py : ∀ (ds : List D) (ks : List NestedKey), D.nks ds = some ks → D.pys ds = some (NestedKey.datas ks)
  | [], _, e => by simp only [D.nks] at e; cases e; rfl
  | d :: ds, _, e => by
    simp only [D.nks] at e
    cases q1 : d.nk with
    | none => rw [q1] at e; cases e
    | some k =>
      cases q2 : D.nks ds with
      | none => rw [q1, q2] at e; cases e
      | some ks =>
        rw [q1, q2] at e
        cases e
        simp only [D.pys, D.nk_py d k q1, D.nks_py ds ks q2, NestedKey.datas]
end
section
variable {K : PySem.W.Frag} {cl : ClsP} {G : Gh} {H Z : Hp} {mu : List Addr} {v : V} {d : D} {k : NestedKey}
def valN (ds : List (NestedKey × D)) (k : NestedKey) : Option D := (ds.find? fun kv => decide (kv.1 = k)).map (·.2)
def hasN (ds : List (NestedKey × D)) (k : NestedKey) : Bool := ds.any fun kv => decide (kv.1 = k)
def putND (ds : List (NestedKey × D)) (k : NestedKey) (d : D) : List (NestedKey × D) := if hasN ds k = true then ds.map (fun kv => if kv.1 = k then (kv.1, d) else kv) else ds ++ [(k, d)]
theorem RepN.keys : ∀ {vs : List NRow} {ds : List (NestedKey × D)}, RepN K cl mu Z vs ds → ∀ x ∈ vs, KeyAt K Z x.1 x.2.1
  | _, _, .nil, x, hx => nomatch hx
  | _, _, .cons h1 _ t, x, hx => by
    rcases List.mem_cons.mp hx with rfl | hx
    · exact h1
    · exact RepN.keys t x hx
theorem RepN.has : ∀ {vs : List NRow} {ds : List (NestedKey × D)}, RepN K cl mu Z vs ds → (atN vs k).isSome = hasN ds k
  | _, _, .nil => rfl
  | _, _, @RepN.cons _ _ _ _ k' b' v' vs d' ds h1 r t => by
    have ih := RepN.has t
    unfold atN hasN at ih ⊢
    rw [List.find?_cons, List.any_cons]
    by_cases h : k' = k
    · simp [h]
    · rw [decide_eq_false h]
      simpa using ih
theorem RepN.val : ∀ {vs : List NRow} {ds : List (NestedKey × D)} {d : D}, RepN K cl mu Z vs ds → valN ds k = some d → ∃ v, atN vs k = some v ∧ Rep K cl mu Z v d
  | _, _, _, .nil, e => by simp [valN] at e
  | _, _, d, @RepN.cons _ _ _ _ k' b' v' vs d' ds h1 r t, e => by
    have ih := fun e => RepN.val (d := d) t e
    unfold valN atN at *
    rw [List.find?_cons] at e ⊢
    by_cases h : k' = k
    · simp only [h, decide_true] at e ⊢
      cases e
      exact ⟨v', rfl, r⟩
    · simp only [h, decide_false] at e ⊢
      exact ih e
theorem valN_has {ds : List (NestedKey × D)} : (valN ds k).isSome = hasN ds k := by
  induction ds with
  | nil => rfl
  | cons p ds ih =>
    unfold valN hasN at ih ⊢
    rw [List.find?_cons, List.any_cons]
    by_cases h : p.1 = k
    · simp [h]
    · rw [decide_eq_false h]
      simpa using ih
theorem RepN.append : ∀ {vs ws : List NRow} {ds es : List (NestedKey × D)}, RepN K cl mu Z vs ds → RepN K cl mu Z ws es → RepN K cl mu Z (vs ++ ws) (ds ++ es)
  | _, _, _, _, .nil, t => t
  | _, _, _, _, .cons h1 r s, t => .cons h1 r (RepN.append s t)
theorem RepN.repl (rv : Rep K cl mu Z v d) : ∀ {vs : List NRow} {ds : List (NestedKey × D)}, RepN K cl mu Z vs ds → RepN K cl mu Z (vs.map fun x => if x.1 = k then (x.1, x.2.1, v) else x) (ds.map fun kv => if kv.1 = k then (kv.1, d) else kv)
  | _, _, .nil => .nil
  | _, _, @RepN.cons _ _ _ _ k' b' v' vs d' ds h1 r t => by
    rw [List.map_cons, List.map_cons]
    by_cases h : k' = k
    · rw [if_pos h, if_pos h]; exact .cons h1 rv (RepN.repl rv t)
    · rw [if_neg h, if_neg h]; exact .cons h1 r (RepN.repl rv t)
theorem RepN.put {b : Addr} (hk : KeyAt K Z k b) (rv : Rep K cl mu Z v d) {vs : List NRow} {ds : List (NestedKey × D)} (r : RepN K cl mu Z vs ds) : RepN K cl mu Z (putN vs k b v) (putND ds k d) := by
  unfold putN putND
  rw [r.has]
  split
  · exact r.repl rv
  · exact r.append (.cons hk rv .nil)
theorem OwnAt.dit {l : Lab} {ds : List (NestedKey × D)} (h : OwnAt K cl G H l v (.dit ds)) : ∃ a vs, v = .ref a ∧ H a = some (nestO cl.P cl.w a vs) ∧ RepN K cl G.mu G.Z vs ds ∧ G.lab a = some l := by
  obtain ⟨a, as, rfl, c, hl⟩ := h
  cases c with
  | dit h1 r => exact ⟨a, _, rfl, h1, r, hl a (by simp)⟩
end
section
variable {X : Cx} {cl : ClsP} {W : WX} {a b e : Expr} {ca cb c : Ex} {pos : Pos}
theorem RepN.getD {K : PySem.W.Frag} {mu : List Addr} {Z : Hp} {vs : List NRow} {ds : List (NestedKey × D)} {k : NestedKey} {z : D} {v : V} (r : RepN K cl mu Z vs ds) (rv : Rep K cl mu Z v z) : Rep K cl mu Z ((atN vs k).getD v) ((valN ds k).getD z) := by
  cases q : valN ds k with
  | none =>
    have h : (atN vs k).isSome = false := by rw [r.has, ← valN_has, q]; rfl
    cases q2 : atN vs k with
    | none => exact rv
    | some y => rw [q2] at h; cases h
  | some d =>
    obtain ⟨y, hy, ry⟩ := r.val q
    rw [hy]
    exact ry
end
end PM
namespace PM
open PySem PySem.Spec PyProof.Rows L2
section
variable {X : Cx} {cl : ClsP} {W : WX} {a : Expr} {ca : Ex}
end
end PM
namespace PM
open PySem PySem.Spec PyProof.Rows L2
def strsOf : List D → Option (List Str)
  | [] => some []
  | .str x :: r => (strsOf r).map (x :: ·)
  | _ => none
theorem strsOf_map : ∀ (ys : List Str), strsOf (ys.map D.str) = some ys
  | [] => rfl
  | y :: r => by simp only [List.map_cons, strsOf, strsOf_map r, Option.map_some]
theorem strsOf_rep {K : PySem.W.Frag} {cl : ClsP} {mu : List Addr} {Z : Hp} : ∀ {ds : List D} {vs : List V} {ys : List Str}, strsOf ds = some ys → RepAll K cl mu Z vs ds → vs = ys.map V.str
  | [], _, _, e, h => by cases e; cases h; rfl
  | d :: ds, _, ys, e, h => by
    cases h with
    | cons h1 h2 =>
      cases d <;> simp only [strsOf, reduceCtorEq] at e
      rename_i x
      cases q : strsOf ds with
      | none => rw [q] at e; cases e
      | some zs =>
        rw [q] at e
        cases e
        cases h1
        rw [strsOf_rep q h2]
        rfl
def joinD (a : Str) (ds : List D) : Option D := (strsOf ds).bind fun ys => if (ys.map (·.length)).sum + ys.length * a.length ≤ 16777216 then some (.str (Txt.join a ys)) else none
def eJoin (co ce : Ex) : Ex := fun ρ S => (co ρ S).bind fun d S => match d with
  | .str a => (ce ρ S).bind fun e S => (match e with
    | .lst ds => Res.opt (joinD a ds) S
    | .tup ds => Res.opt (joinD a ds) S
    | _ => .stuck)
  | _ => .stuck
theorem joinD_some {a : Str} {ds : List D} {z : D} (h : joinD a ds = some z) : ∃ ys, strsOf ds = some ys ∧ (ys.map (·.length)).sum + ys.length * a.length ≤ 16777216 ∧ z = .str (Txt.join a ys) := by
  unfold joinD at h
  cases q : strsOf ds with
  | none => rw [q] at h; cases h
  | some ys =>
    rw [q, Option.bind_some] at h
    split at h
    · cases h; exact ⟨ys, rfl, by assumption, rfl⟩
    · cases h
section
variable {X : Cx} {cl : ClsP} {W : WX} {o e : Expr} {co ce : Ex} {apos pos : Pos} {st : Stmt} {body : List Stmt}
theorem se_join (ho : SB X cl W o co) (he : SB X cl W e ce) (hs : starEach [e] X.env = [(false, eval e X.env)] := by rfl) (hbase : attributeBase o "join" X.env (eval o X.env) = eval o X.env := by rfl) (hline : (apos.endLine == pos.line) = true := by rfl) :
    SE X cl W (.Call (.Attribute o "join" apos) [e] [] pos) (eJoin co ce) := PE.weak (pe_join ho he hs hbase hline) fun σ H Q ⟨G0, H0, S, ρ, G, R, h⟩ => by
  refine tX.bind (Pa := PB X.K cl) pfM R h fun d x S1 G1 H1 R1 s1 p1 h1 => ?_
  cases d <;> simp only [Aft] at h1
  rename_i a
  cases RepT.str p1
  refine ⟨⟨a, rfl⟩, ?_⟩
  refine tX.bind (Pa := PB X.K cl) pfM R1 h1 fun e y S2 G2 H2 R2 s2 p2 h2 => ?_
  cases e <;> simp only [Aft] at h2
  · rename_i ds
    obtain ⟨p, vs, rfl, h3, r3⟩ := RepT.lst p2 R2.ok.zsub
    cases q : joinD a ds with
    | none => rw [q] at h2; exact h2.elim
    | some z =>
      rw [q] at h2
      obtain ⟨ys, q1, q2, rfl⟩ := joinD_some q
      have e3 := strsOf_rep q1 r3
      subst e3
      exact ⟨a, p, ys, rfl, rfl, .inl (.inl (.inl h3)), q2, h2 _ G2 H2 R2 (Stp.refl _ _) (.str _)⟩
  · rename_i ds
    obtain ⟨p, vs, rfl, h3, r3⟩ := RepT.tup p2 R2.ok.zsub
    cases q : joinD a ds with
    | none => rw [q] at h2; exact h2.elim
    | some z =>
      rw [q] at h2
      obtain ⟨ys, q1, q2, rfl⟩ := joinD_some q
      have e3 := strsOf_rep q1 r3
      subst e3
      exact ⟨a, p, ys, rfl, rfl, .inr h3, q2, h2 _ G2 H2 R2 (Stp.refl _ _) (.str _)⟩
end
end PM
set_option maxHeartbeats 1000000
namespace PM
open PySem PySem.Spec PyProof.Rows L2
section
variable {K : PySem.W.Frag} {cl : ClsP} {W : WX} {G0 G G' G'' G1 : Gh} {H0 H H' H'' H1 : Hp} {S S' : Store} {ρ ρ' : Env} {σ : L2.St} {v : V} {d : D} {a b p : Addr} {as bs : List Addr} {i j : Nat} {mu : List Addr} {Z : Hp} {ds es : List D} {vs : List V}
theorem OwnAt.nst {l : Lab} (h : OwnAt K cl G H l v (.nst ds)) : ∃ a bs, v = .ref a ∧ H a = some (.lst (bs.map .ref)) ∧ Inn K cl G.mu G.Z H bs ds ∧ (a :: bs).Nodup ∧ ∀ b ∈ a :: bs, G.lab b = some l := by
  obtain ⟨a, as, rfl, c, hl⟩ := h
  cases c with
  | nst h1 r n => exact ⟨a, _, rfl, h1, r, n, hl⟩
theorem Rel.back (R : Rel K cl G0 H0 S ρ G σ H) (hl : ∀ b l, G'.lab b = some l → G.lab b = some l) (hS : S = []) (hs : S' = []) (k : Stp G' H G'' H'') : Rel K cl G0 H0 S' ρ G σ H'' ∧ Stp G H G H'' := by
  have keep : ∀ a o, H a = some o → (∀ l, G.lab a = some l → l.st = false) → H'' a = some o := fun a o h q => k.keep a o h fun l e => q l (hl a l e)
  have st : Stp G H G H'' := ⟨Same.refl _, fun _ _ e => e, keep, fun _ _ e => .inl e, fun _ _ e => .inl e, ⟨[], by simp⟩, k.dom⟩
  subst hs hS
  exact ⟨R.step st ⟨fun b o e => keep b o (R.ok.zsub b o e) fun l q => (by rw [(R.ok.labz b l q).1] at e; cases e), fun b l e => (by
    obtain ⟨h1, o, h2⟩ := R.ok.labz b l e
    refine ⟨h1, ?_⟩
    cases q : H'' b with
    | none => rw [k.dom b q] at h2; cases h2
    | some o' => exact ⟨o', rfl⟩), fun n c e => (by simp at e), R.ok.stn⟩, st⟩
end

section
variable {X : Cx} {cl : ClsP} {W : WX} {e tg elt iter : Expr} {c ce : Ex} {tc : Tx} {pos : Pos} {es : List Expr}
theorem Inn.snoc {K : PySem.W.Frag} {mu : List Addr} {Z H : Hp} {b : Addr} {vs : List V} {es : List D} (h : H b = some (.lst vs)) (r : RepAll K cl mu Z vs es) : ∀ {bs : List Addr} {ds : List D}, Inn K cl mu Z H bs ds → Inn K cl mu Z H (bs ++ [b]) (ds ++ [.lst es])
  | _, _, .nil => .cons h r .nil
  | _, _, .cons h1 r1 t => .cons h1 r1 (Inn.snoc h r t)
end
end PM
set_option maxHeartbeats 1000000
namespace PM
open PySem PySem.Spec PyProof.Rows L2
section
variable {K : PySem.W.Frag} {cl : ClsP} {H : Hp} {mu : List Addr} {Z : Hp}
theorem Inn.get : ∀ {bs : List Addr} {ds : List D} {k : Nat} {d : D}, Inn K cl mu Z H bs ds → ds[k]? = some d → ∃ b vs es, bs[k]? = some b ∧ d = .lst es ∧ H b = some (.lst vs) ∧ RepAll K cl mu Z vs es
  | _, _, _, _, .nil, e => by simp at e
  | _, _, 0, _, .cons h r t, e => by
    simp at e
    subst e
    exact ⟨_, _, _, rfl, rfl, h, r⟩
  | _, _, k + 1, d, .cons h r t, e => by
    obtain ⟨b, vs, es, h1, h2⟩ := Inn.get (k := k) (d := d) t (by simpa using e)
    exact ⟨b, vs, es, by simpa using h1, h2⟩
theorem Inn.upd {x : HO} {p : Addr} : ∀ {bs : List Addr} {ds : List D}, Inn K cl mu Z H bs ds → p ∉ bs → Inn K cl mu Z (L2.upd H p x) bs ds
  | _, _, .nil, _ => .nil
  | _, _, .cons h r t, hp => by
    simp only [List.mem_cons, not_or] at hp
    exact .cons (by rw [upd_ne (Ne.symm hp.1)]; exact h) r (Inn.upd t hp.2)
theorem Inn.set {b : Addr} {vs : List V} {es : List D} (r' : RepAll K cl mu Z vs es) : ∀ {bs : List Addr} {ds : List D} {k : Nat}, Inn K cl mu Z H bs ds → bs.Nodup → bs[k]? = some b → Inn K cl mu Z (L2.upd H b (.lst vs)) bs (ds.set k (.lst es))
  | _, _, _, .nil, _, e => by simp at e
  | _, _, 0, .cons h r t, hn, e => by
    simp at e
    subst e
    exact .cons upd_same r' (t.upd (List.nodup_cons.mp hn).1)
  | _, _, k + 1, .cons (b := b0) h r t, hn, e => by
    have e' := (show _ = some b by simpa using e)
    have hm : b ∈ _ := List.mem_of_getElem? e'
    have ne : b0 ≠ b := fun q => (List.nodup_cons.mp hn).1 (by rw [q]; exact hm)
    exact .cons (by rw [upd_ne ne]; exact h) r (Inn.set r' t (List.nodup_cons.mp hn).2 e')
end
section
variable {X : Cx} {cl : ClsP} {W : WX} {e tg elt iter : Expr} {c ce : Ex} {tc : Tx} {pos : Pos} {es : List Expr}
end
end PM
set_option maxHeartbeats 1000000
namespace PM
open PySem PySem.Spec PyProof.Rows L2
section
variable {K : PySem.W.Frag} {cl : ClsP} {W : WX} {G0 G G' G'' G1 : Gh} {H0 H H' H'' H1 : Hp} {S S' : Store} {ρ ρ' : Env} {σ : L2.St} {v : V} {d : D} {a b p : Addr} {as bs : List Addr} {i j : Nat} {ds es : List D}
end
section
variable {X : Cx} {cl : ClsP} {W : WX} {e tg elt iter : Expr} {c ce : Ex} {tc : Tx} {pos : Pos} {es : List Expr}
end
end PM
set_option maxHeartbeats 1000000
namespace PM
open PySem PySem.Spec PyProof.Rows L2
def stuckFn : Fn := fun _ _ => .stuck
theorem fnOk_stuck {P : Program} {w : World} {K : PySem.W.Frag} {mg : Str → Option Value} {base : Heap} {CX : CXT} {k : Nat} {f : Addr} {fd : FuncData} {ps : List Str} {cl : ClsP} {bm : List Bool} : FnOk P w K mg base CX k f fd ps (spOf K cl bm stuckFn) :=
  ⟨fun vs H Q E ⟨_, _, _, _, _, _, h⟩ => h.elim, fun A outer s H args us vs Q E hr he hb hv ⟨_, _, _, _, _, _, h⟩ => h.elim⟩
end PM
set_option maxHeartbeats 1000000
namespace PM
open PySem PySem.Spec PyProof.Rows L2
section
variable {X : Cx} {W : WX} {e : Expr} {es : List Expr} {pos : Pos} {k : Nat} {g C : Addr} {fd : FuncData} {ps : List Str} {sp : Sp} {t : TA} {mc : Value} {cx mn : Str} {p apos : Pos}
theorem pe_cfun {pl : Sem Bool} (hg : Gl X cx) (hm : X.mg cx = some (.ref C)) (rd : ClX.CRead X.K C mc) (hv : PySem.W.findCls X.K (.ref C) mc mn = some (.val (.ref g))) (hk : PySem.W.keepIn X.K (.ref g) = true)
    (F : FnOk X.prog X.w X.K X.mg X.base (L2N.CX X.prog X.w) k g fd ps sp) (hr : Room k X.A) (hb : Binds X.K fd ps []) (tk : L2N.Takes X W) (ha : PA X (e :: es) t)
    (hdb : (cx == ("__debug__" : Str)) = false := by decide) (hst : starEach (e :: es) X.env = (false, eval e X.env) :: starEach es X.env := by rfl) (hpl : (backTo pos (starEach es X.env)).any (·.1) = false := by rfl)
    (ht : eval (.Call (.Attribute (.Name cx p) mn apos) (e :: es) [] pos) X.env = (do
      let ov ← eval (.Name cx p) X.env
      standAt apos.atName
      let (f, first) ← holding [ov] (getMethod ov mn pl)
      callWith pos f first (backTo pos (starEach (e :: es) X.env)) (backToKw pos (keywordEach [] X.env))) := by rfl) :
    PE X (.Call (.Attribute (.Name cx p) mn apos) (e :: es) [] pos) (fun σ H Q => t σ H fun vs H1 => sp vs H1 Q (WE W σ)) := by
  refine ⟨fun pins s σ H Q I h => PySem.W.methodCall_KW (pl := pl) (thn ((pe_glob hg hm (show RelV (.ref C) (.ref C) from rfl) hdb).run pins s σ H (fun x H1 => x = .ref C ∧ t σ H1 fun vs H2 => sp vs H2 Q (WE W σ)) I ⟨rfl, h⟩) fun u s1 ⟨x, H1, I1, rx, ex, q⟩ => ?_) ht⟩
  subst ex
  obtain rfl : u = Value.ref C := rx
  refine PySem.W.method_cls I1.kIn rd.ga (ClX.getcval_ok I1 rd (show ClX.CVal X.K C mc mn (.ref g) (.ref g) from ⟨hv, rfl⟩) fun s2 I2 => ?_)
  refine PySem.W.callWith_K (h₀ := X.base) I.ok.mod.kin hk (thn (ha.run pos pins s2 σ H1 _ I2 q) fun us s3 ⟨vs, H2, I3, r, q2⟩ => ⟨I3.kIn, ?_⟩) hst hpl
  exact run_fnS (E := WE W) F hr hb (L2N.passAt tk σ) I3 r q2
end
section
variable {K : PySem.W.Frag} {cl : ClsP} {W : WX} {G0 G G' G1 : Gh} {H0 H H' H1 : Hp} {S S' : Store} {ρ : Env} {σ : L2.St} {d : D} {x dx : Addr}
theorem ArgsOk.loose : ∀ {bm : List Bool} {vs : List V} {ds : List D}, ArgsOk K cl G H (bm.map fun _ => false) vs ds → ArgsOk K cl G.out H1 bm vs ds
  | [], _, _, .nil => .nil
  | true :: bm, _, _, .fr r t => .bo (.inl r) t.loose
  | false :: bm, _, _, .fr r t => .fr r t.loose
def cutH (H : Hp) (x dx : Addr) : Hp := fun b => if b = x ∨ b = dx then none else H b
def Gh.cut (G : Gh) (x dx : Addr) : Gh := { G with lab := fun b => if b = x ∨ b = dx then none else G.lab b }
theorem cutH_ne {b : Addr} (h : ¬ (b = x ∨ b = dx)) : cutH H x dx b = H b := if_neg h
theorem cut_lab {b : Addr} {l : Lab} (h : (G.cut x dx).lab b = some l) : ¬ (b = x ∨ b = dx) ∧ G.lab b = some l := by
  have h' : (if b = x ∨ b = dx then none else G.lab b) = some l := h
  by_cases hb : b = x ∨ b = dx
  · rw [if_pos hb] at h'; cases h'
  · rw [if_neg hb] at h'; exact ⟨hb, h'⟩
theorem Rel.cut (R : Rel K cl G0 H0 S ρ G σ H) (h1 : G.lab x = some (.slot 0)) (h2 : G.lab dx = some (.slot 0)) : Rel K cl G0 H0 S (ρ.set 0 .un) (G.cut x dx) σ (cutH H x dx) := by
  have R1 := R.drop1 0
  have l0 : ∀ b, (b = x ∨ b = dx) → G.lab b = some (.slot 0) := fun b hb => by rcases hb with rfl | rfl <;> assumption
  have ne : ∀ b l, G.lab b = some l → l ≠ .slot 0 → ¬ (b = x ∨ b = dx) := fun b l e hl hb => by rw [l0 b hb] at e; cases e; exact hl rfl
  have labc : ∀ b l, G.lab b = some l → l ≠ .slot 0 → (G.cut x dx).lab b = some l := fun b l e hl => by
    show (if b = x ∨ b = dx then none else G.lab b) = some l
    rw [if_neg (ne b l e hl)]; exact e
  refine ⟨⟨fun b o e => ?_, fun b l e => ?_, fun n c e => (R.ok.st n c e).mono (fun b l hb hs o ho => by rw [cutH_ne (ne b l hb (fun q => by subst q; simp [Lab.st] at hs))]; exact ho) (Same.refl _) (fun b l hb hs => labc b l hb (fun q => by subst q; simp [Lab.st] at hs)) ⟨[], by simp [Gh.cut]⟩, R.ok.stn⟩, R1.len, fun j s e => ?_, ⟨R.stp.z, fun b l e => ?_, fun b o e hl => ?_, fun b l e => R.stp.labn b l (cut_lab e).2, R.stp.zn, R.stp.mu, fun b e => ?_⟩, R.s0⟩
  · have : ¬ (b = x ∨ b = dx) := fun hb => by
      have e' : G.Z b = some o := e
      rw [(R.ok.labz b _ (l0 b hb)).1] at e'
      cases e'
    rw [cutH_ne this]
    exact R.ok.zsub b o e
  · obtain ⟨hb, e⟩ := cut_lab e
    obtain ⟨z, o, ho⟩ := R.ok.labz b l e
    exact ⟨z, o, by rw [cutH_ne hb]; exact ho⟩
  · by_cases hj : j = 0
    · subst hj
      have hl : 0 < ρ.length := by
        rcases Nat.lt_or_ge 0 ρ.length with h | h
        · exact h
        · rw [List.getElem?_eq_none (by simpa using h)] at e; cases e
      rw [List.getElem?_set_self hl] at e
      cases e
      exact ⟨σ[0]'(by rw [← R.len]; exact hl), List.getElem?_eq_getElem _, trivial⟩
    · rw [List.getElem?_set_ne (Ne.symm hj)] at e
      obtain ⟨o, q1, q2⟩ := R.slot j s e
      have hne : (.slot j : Lab) ≠ .slot 0 := fun q => hj (by cases q; rfl)
      exact ⟨o, q1, q2.mono (fun b hb o ho => by rw [cutH_ne (ne b _ hb hne)]; exact ho) (Same.refl _) (fun b hb => labc b _ hb hne) ⟨[], by simp [Gh.cut]⟩⟩
  · refine labc b l (R.stp.lab b l e) fun q => ?_
    subst q
    exact absurd (R.s0 b _ e) (by simp [Lab.st])
  · have : ¬ (b = x ∨ b = dx) := fun hb => by rw [R.ownNew (l0 b hb)] at e; cases e
    rw [cutH_ne this]
    exact R.stp.keep b o e hl
  · by_cases hb : b = x ∨ b = dx
    · exact R.ownNew (l0 b hb)
    · rw [cutH_ne hb] at e
      exact R.stp.dom b e
end
section
variable {X : Cx} {cl : ClsP} {W : WX} {es : List Expr} {pos : Pos} {k : Nat} {g : Addr} {fd : FuncData} {ps : List Str} {mc : Value} {cx mn self : Str} {p sp_ apos cpos : Pos} {ca : Ax} {bm : List Bool} {m : Ini} {bc : Nat}
def sBase (m : Ini) (ca : Ax) : Stm := fun ρ S => match (ρ[0]? : Option Slot) with
  | some (Slot.me (D.obj c [])) => sEx ca (fun ds ρ S => match m c ds S with
    | .ok d S' => .nx (ρ.set 0 (.me d)) S'
    | _ => .stuck) ρ S
  | _ => .stuck
theorem ss_base {pl : Sem Bool} (hg : Gl X cx) (hm : X.mg cx = some (.ref (cl bc))) (rd : ClX.CRead X.K (cl bc) mc) (hv : PySem.W.findCls X.K (.ref (cl bc)) mc mn = some (.val (.ref g))) (hk : PySem.W.keepIn X.K (.ref g) = true)
    (F : ∀ c, FnOk X.prog X.w X.K X.mg X.base (L2N.CX X.prog X.w) k g fd ps (spIni X.K cl c bm m)) (hr : Room k X.A) (hb : Binds X.K fd ps []) (tk : L2N.Takes X W) (hself : PE X (.Name self sp_) (tVar 0)) (ha : SA X cl W (bm.map fun _ => false) es ca)
    (hdb : (cx == ("__debug__" : Str)) = false := by decide) (hst : starEach (.Name self sp_ :: es) X.env = (false, eval (.Name self sp_) X.env) :: starEach es X.env := by rfl) (hpl : (backTo cpos (starEach es X.env)).any (·.1) = false := by rfl)
    (ht : eval (.Call (.Attribute (.Name cx p) mn apos) (.Name self sp_ :: es) [] cpos) X.env = (do
      let ov ← eval (.Name cx p) X.env
      standAt apos.atName
      let (f, first) ← holding [ov] (getMethod ov mn pl)
      callWith cpos f first (backTo cpos (starEach (.Name self sp_ :: es) X.env)) (backToKw cpos (keywordEach [] X.env))) := by rfl)
    (hsw : swapsWith (.Call (.Attribute (.Name cx p) mn apos) (.Name self sp_ :: es) [] cpos) none pos.line X.env = pure false := by rfl) :
    SS X cl W (.Expr (.Call (.Attribute (.Name cx p) mn apos) (.Name self sp_ :: es) [] cpos) pos) (sBase m ca) := by
  -- the class is the receiver's own, told by the data
  refine ⟨fun pins s σ H D I h => ?_⟩
  obtain ⟨G0, H0, S, ρ, G, R, h⟩ := h
  unfold sBase at h
  split at h
  · rename_i c q
    refine (ps_expr (pe_cfun (pl := pl) hg hm rd hv hk (F c) hr hb tk (pa_cons hself ha hst) hdb hst hpl ht) hsw).run pins s σ H D I ?_
    obtain ⟨o, ho, v, rfl, ow, hme⟩ := R.slot 0 _ q
    obtain ⟨a, as, rfl, cc, hl⟩ := ow
    refine ⟨_, ho, sEx_at (P := PA1 X.K cl (bm.map fun _ => false)) R h fun S' ds xs G' H' R' s' p q2 => ?_⟩
    obtain ⟨o', ho', v', ev, ow', _⟩ := R'.slot 0 _ q
    subst ev
    rw [ho] at ho'
    cases ho'
    obtain ⟨a', as', e', cc', hl'⟩ := ow'
    cases e'
    cases cc' with
    | obj h1 h2 r =>
      rename_i dx vs
      cases r
      have l1 := hl' a (by simp)
      have l2 := hl' dx (by simp)
      have ne : dx ≠ a := fun e => by subst e; rw [h1] at h2; cases h2
      have Rc := R'.cut l1 l2
      have eH : H' = upd (upd (cutH H' a dx) dx (.own a)) a (.ins (cl c) dx []) := by
        funext b
        by_cases hb : b = a
        · subst hb; rw [upd_same]; exact h1
        · rw [upd_ne hb]
          by_cases hb2 : b = dx
          · subst hb2; rw [upd_same]; exact h2
          · rw [upd_ne hb2, cutH_ne (fun q => q.elim hb hb2)]
      have p2 : ArgsOk X.K cl (G'.cut a dx).out (cutH H' a dx) bm xs ds := (show ArgsOk X.K cl (G'.cut a dx) H' (bm.map fun _ => false) xs ds from by
        have : ∀ {bm : List Bool} {xs : List V} {ds : List PM.D}, ArgsOk X.K cl G' H' (bm.map fun _ => false) xs ds → ArgsOk X.K cl (G'.cut a dx) H' (bm.map fun _ => false) xs ds := by
          intro bm
          induction bm with
          | nil => intro xs ds h; cases h; exact .nil
          | cons b bm ih => intro xs ds h; cases h with | fr r t => exact .fr r (ih t)
        exact this p).loose
      refine ⟨(G'.cut a dx).out, S', ds, a, dx, xs, cutH H' a dx, rfl, eH, by simp [cutH], by simp [cutH], ne, Rc.leave.1, out_only, p2, ?_⟩
      cases q3 : m c ds S' with
      | exc n S2 => rw [q3] at q2; exact q2.elim
      | stuck => rw [q3] at q2; exact q2.elim
      | ok d S2 =>
        rw [q3] at q2
        intro as2 G2 H2 ok so st n hn
        obtain ⟨R3, s3⟩ := Rc.join ok so st
        have R4 := R3.setN 0 (new_join Rc n hn) fun b hb => Rc.stp.dom b (hn b hb)
        rw [List.set_set] at R4
        have es : σ.set 0 (some (.ref a)) = σ := List.ext_getElem? fun k => by
          by_cases q : k = 0
          · subst q
            rw [List.getElem?_set_self (List.getElem?_eq_some_iff.mp ho).1, ho]
          · rw [List.getElem?_set_ne (Ne.symm q)]
        rw [es] at R4
        have R5 : Rel X.K cl G0 H0 S2 (ρ.set 0 (.me d)) (((G'.cut a dx).join G2).own as2 (.slot 0)) σ H2 := by
          refine ⟨R4.ok, by rw [List.length_set]; have := R4.len; rw [List.length_set] at this; exact this, fun j sl e => ?_, R4.stp, R4.s0⟩
          have hl0 : 0 < ρ.length := (List.getElem?_eq_some_iff.mp q).1
          by_cases ej : j = 0
          · subst ej
            rw [List.getElem?_set_self hl0] at e
            cases e
            obtain ⟨o, ho2, v, ev, ow2⟩ := R4.slot 0 (.ow d) (List.getElem?_set_self hl0)
            rw [ho] at ho2
            cases ho2
            exact ⟨_, ho, v, ev, ow2, by rw [← ev]; exact hme⟩
          · rw [List.getElem?_set_ne (Ne.symm ej)] at e
            exact R4.slot j sl (by rw [List.getElem?_set_ne (Ne.symm ej)]; exact e)
        exact q2 _ σ H2 R5 ⟨s3.z, s3.mu⟩
  · exact h.elim
end
end PM
set_option maxHeartbeats 1000000
namespace PM
open PySem PySem.Spec PyProof.Rows L2
section
variable {K : PySem.W.Frag} {cl : ClsP} {W : WX} {G0 G G' G1 : Gh} {H0 H H' H1 : Hp} {S S' : Store} {ρ ρ' : Env} {σ : L2.St} {v : V} {d : D} {a : Addr} {as : List Addr} {n i : Nat} {c : Cell}
theorem Rel.setCell (R : Rel K cl G0 H0 S ρ G σ H) (hl : ∀ b ∈ as, G.lab b = some (.cell n)) (ha : a ∈ as) {a0 : Addr} (hmu : G.mu[n]? = some a0) (hn : n < S.length) {o' : HO} {c' : Cell} (cc : ContG K cl G (upd H a o') a0 c'.dat as) :
    Rel K cl G0 H0 (S.set n c') ρ G σ (upd H a o') ∧ Stp G H G (upd H a o') := by
  have la := hl a ha
  have oth : ∀ b l, G.lab b = some l → l ≠ .cell n → ∀ o, H b = some o → upd H a o' b = some o := fun b l h hne o ho => by
    rw [upd_ne fun q => by subst q; rw [la] at h; cases h; exact hne rfl]
    exact ho
  have zs : Same G.Z (upd H a o') := fun b o h => by
    rw [upd_ne fun q => by subst q; rw [(R.ok.labz _ _ la).1] at h; cases h]
    exact R.ok.zsub b o h
  have st : Stp G H G (upd H a o') := ⟨Same.refl _, fun _ _ e => e, fun b o e hs => by
      rw [upd_ne fun q => by subst q; have := hs _ la; simp [Lab.st] at this]
      exact e, fun _ _ e => .inl e, fun _ _ e => .inl e, ⟨[], by simp⟩, fun b e => by
      by_cases q : b = a
      · subst q; rw [upd_same] at e; cases e
      · rw [upd_ne q] at e; exact e⟩
  refine ⟨R.step st ⟨zs, fun b l h => ?_, fun m c e => ?_, by rw [List.length_set]; exact R.ok.stn⟩, st⟩
  · obtain ⟨h1, o, h2⟩ := R.ok.labz b l h
    refine ⟨h1, ?_⟩
    by_cases q : b = a
    · subst q; exact ⟨_, upd_same⟩
    · exact ⟨o, by rw [upd_ne q]; exact h2⟩
  · by_cases q : m = n
    · subst q
      rw [List.getElem?_set_self hn] at e
      cases e
      exact ⟨a0, as, hmu, cc, hl⟩
    · rw [List.getElem?_set_ne (Ne.symm q)] at e
      obtain ⟨a2, as2, h1, h2, h3⟩ := (R.ok.st m c e).ok
      exact ⟨a2, as2, h1, h2.mono (fun b hb o ho => oth b _ (h3 b hb) (fun z => q (by cases z; rfl)) o ho) (Same.refl _) ⟨[], by simp⟩, h3⟩
def Gh.cellAt (G : Gh) (as : List Addr) (a : Addr) (n : Nat) : Gh := { G with lab := fun b => if b ∈ as then some (.cell n) else G.lab b, mu := G.mu ++ [a] }
theorem cellAt_in {b : Addr} (hb : b ∈ as) : (G.cellAt as a n).lab b = some (.cell n) := if_pos hb
theorem cellAt_out {b : Addr} (hb : b ∉ as) : (G.cellAt as a n).lab b = G.lab b := if_neg hb
theorem Rel.newCell (R : Rel K cl G0 H0 S ρ G σ H) (nw : NewAt K cl G H a c.dat as) (s01 : Stp G0 H0 G1 H1) (st : Stp G1 H1 G H) (hn : ∀ b ∈ as, H1 b = none) :
    Rel K cl G0 H0 (S ++ [c]) ρ (G.cellAt as a S.length) σ H ∧ Stp G1 H1 (G.cellAt as a S.length) H ∧ RepG K cl (G.cellAt as a S.length) (.ref a) (.rf S.length) := by
  have hm : ∃ t, (G.cellAt as a S.length).mu = G.mu ++ t := ⟨[a], rfl⟩
  have lab : ∀ b l, G.lab b = some l → (G.cellAt as a S.length).lab b = some l := fun b l e => by
    rw [cellAt_out fun hb => by rw [(nw.2 b hb).1] at e; cases e]
    exact e
  have labn : ∀ b l, (G.cellAt as a S.length).lab b = some l → G.lab b = some l ∨ b ∈ as := fun b l e => by
    by_cases hb : b ∈ as
    · exact .inr hb
    · rw [cellAt_out hb] at e; exact .inl e
  have st2 : Stp G1 H1 (G.cellAt as a S.length) H := ⟨st.z, fun b l e => lab b l (st.lab b l e), st.keep, fun b l e => by
      rcases labn b l e with h | h
      · exact st.labn b l h
      · exact .inr (hn b h), st.zn, by obtain ⟨t, e⟩ := st.mu; exact ⟨t ++ [a], by show G.mu ++ [a] = _; rw [e, List.append_assoc]⟩, st.dom⟩
  have hmu : (G.cellAt as a S.length).mu[S.length]? = some a := by
    show (G.mu ++ [a])[S.length]? = some a
    rw [← R.ok.stn, List.getElem?_append_right (Nat.le_refl _), Nat.sub_self]
    rfl
  refine ⟨⟨⟨R.ok.zsub, fun b l e => ?_, fun m c' e => ?_, ?_⟩, R.len, fun j s e => ?_, s01.trans st2, R.s0⟩, st2, .rf hmu⟩
  · rcases labn b l e with h | h
    · exact R.ok.labz b l h
    · exact ⟨(nw.2 b h).2, nw.1.there b h⟩
  · by_cases q : m < S.length
    · rw [List.getElem?_append_left q] at e
      exact (R.ok.st m c' e).mono (fun _ _ _ _ _ e => e) (Same.refl _) (fun b l e _ => lab b l e) hm
    · by_cases q2 : m = S.length
      · subst q2
        rw [List.getElem?_append_right (Nat.le_refl _), Nat.sub_self] at e
        cases e
        exact ⟨a, as, hmu, nw.1.mono (fun _ _ _ e => e) (Same.refl _) hm, fun b hb => cellAt_in hb⟩
      · rw [List.getElem?_eq_none (by rw [List.length_append]; simp; omega)] at e
        cases e
  · show (G.mu ++ [a]).length = _
    rw [List.length_append, List.length_append, R.ok.stn]
    rfl
  · obtain ⟨o, h1, h2⟩ := R.slot j s e
    exact ⟨o, h1, h2.mono (fun _ _ _ e => e) (Same.refl _) (fun b e => lab b _ e) hm⟩
def D.at (S : Store) : D → D
  | .rf n => match S[n]? with
    | some (.box d) => d
    | _ => .rf n
  | d => d
theorem RepT.at (R : Rel K cl G0 H0 S ρ G σ H) (p : RepT K cl G H v d) : RepV K cl G H v (d.at S) := by
  cases d with
  | rf n =>
    cases q : S[n]? with
    | none => simp only [D.at, q]; exact p.vw
    | some c =>
      cases c with
      | obj k fs => simp only [D.at, q]; exact p.vw
      | box d =>
        simp only [D.at, q]
        obtain ⟨a, rfl, e⟩ := RepT.rfn p
        obtain ⟨a', as, e', cc, _⟩ := (R.ok.st n _ q).ok
        rw [e] at e'
        cases e'
        exact .inr ⟨a, as, rfl, cc, trivial⟩
  | _ => exact p.vw
end
section
variable {X : Cx} {cl : ClsP} {W : WX} {e o a b : Expr} {es : List Expr} {c co ca cb : Ex} {ta tb : Tx} {pos : Pos} {fl : FTab}
def eBox (c : Ex) : Ex := fun ρ S => (c ρ S).bind fun d S => .ok (.rf S.length) (S ++ [.box d])
theorem se_box (h : SN X cl W e c) : SE X cl W e (eBox c) := PE.weak h fun σ H Q ⟨G0, H0, S, ρ, G, R, q⟩ => by
  refine ⟨G0, H0, S, ρ, G, R, ?_⟩
  unfold eBox at q
  cases r : c ρ S with
  | ok d S' =>
    rw [r] at q
    rintro v G' H' R' s ⟨a, as, rfl, n, hn⟩
    obtain ⟨R2, s2, rp⟩ := R'.newCell (c := .box d) n R.stp s hn
    exact q _ _ _ R2 s2 rp
  | exc n S' => rw [r] at q; exact q
  | stuck => rw [r] at q; exact q
section
variable {k : Nat} {f : Addr} {fd : FuncData} {ps : List Str} {bm : List Bool} {x : Str} {p : Pos} {ax : Ax}
end
def eListS (ca : Ex) : Ex := fun ρ S => (ca ρ S).bind fun d S => match d.at S with
  | .lst xs => .ok (.lst xs) S
  | _ => .stuck
theorem sn_listS {p : Pos} (hg : Gl X "list") (hm : X.mg "list" = none) (ha : SB X cl W a ca) (he : starEach [a] X.env = (false, eval a X.env) :: starEach [] X.env := by rfl) (hpl : (backTo pos (starEach [] X.env)).any (·.1) = false := by rfl) : SN X cl W (.Call (.Name "list" p) [a] [] pos) (eListS ca) :=
  PE.weak (pe_callTy call_list_of hg hm (by decide +kernel) (pa_cons ha pa_nil he) (by decide) (by decide) he hpl) fun σ H Q ⟨G0, H0, S, ρ, G, R, h⟩ => by
    refine tX.bind (Pa := PB X.K cl) pnM R h fun d x S1 G1 H1 R1 s1 p1 h1 => ?_
    have p1' := RepT.at R1 p1
    generalize d.at S1 = d at p1' h1
    cases d <;> first | exact h1.elim | skip
    rename_i xs
    obtain ⟨a1, vs, rfl, h2, r1⟩ := RepV.lst p1' R1.ok.zsub
    refine ⟨a1, vs, rfl, .inl (.inl (.inl h2)), fun l hl => ?_⟩
    obtain ⟨R', s', n⟩ := R1.newL hl r1
    exact h1 _ _ _ R' s' ⟨l, [l], rfl, n, fun b hb => by simp at hb; subst hb; exact hl⟩
def sLmS (f : List D → List D → Option (List D)) (co : Ex) (ca : Ax) : Stm := sEx co fun d ρ S => match d with
  | .rf n => (match S[n]? with
    | some (.box (.lst _)) => sEx ca (fun es ρ S => match S[n]? with
      | some (.box (.lst ds)) => (match f ds es with
        | some ds' => .nx ρ (S.set n (.box (.lst ds')))
        | none => .stuck)
      | _ => .stuck) ρ S
    | _ => .stuck)
  | _ => .stuck
theorem box_at {K : PySem.W.Frag} {G0 G : Gh} {H0 H : Hp} {S : Store} {ρ : Env} {σ : L2.St} {n : Nat} {a : Addr} {ds : List D} (R : Rel K cl G0 H0 S ρ G σ H) (hmu : G.mu[n]? = some a) (q : S[n]? = some (.box (.lst ds))) : ∃ vs, H a = some (.lst vs) ∧ RepAll K cl G.mu G.Z vs ds ∧ G.lab a = some (.cell n) := by
  obtain ⟨a', as, e', cc, hl⟩ := (R.ok.st n _ q).ok
  rw [hmu] at e'
  cases e'
  cases cc with
  | lst h1 r1 => exact ⟨_, h1, r1, hl _ (by simp)⟩
theorem ss_lmS {name : Str} {apos cpos : Pos} {id : String} {r : V → List V → Hp → VK → Prop} {bm : List Bool} {f : List D → List D → Option (List D)} {ca : Ax} (slot : PySem.Slot "list" name id) (hty : typeOf (.builtin id) = pure (.type "method_descriptor")) (hm : MtR X id r) (hs : LmS X cl bm r f) (hv : SB X cl W o co) (ha : SA X cl W bm (e :: es) ca)
    (hbase : attributeBase o name X.env (eval o X.env) = eval o X.env := by rfl)
    (hfew : ((backTo cpos (starEach (e :: es) X.env)).all (fun x => !x.1) && (backToKw cpos (keywordEach [] X.env)).all (fun x => x.1.isSome)
      && decide ((e :: es).length + ([] : List Keyword).length + (if ([] : List Keyword).isEmpty then 0 else 1) < 30)) = true := by rfl)
    (hline : (apos.endLine == cpos.line) = true := by rfl) (hst : starEach (e :: es) X.env = (false, eval e X.env) :: starEach es X.env := by rfl) (hplain : (backTo cpos (starEach es X.env)).any (·.1) = false := by rfl)
    (hsw : swapsWith (.Call (.Attribute o name apos) (e :: es) [] cpos) none pos.line X.env = pure false := by rfl) : SS X cl W (.Expr (.Call (.Attribute o name apos) (e :: es) [] cpos) pos) (sLmS f co ca) :=
  PS.weak (ps_expr (pe_bm PySem.F.plainAttrs_list slot hty hm hv ha hbase hfew hline hst hplain) hsw) fun D σ H ⟨G0, H0, S, ρ, G, R, h⟩ => by
    unfold sLmS at h
    refine sEx_at (P := PB X.K cl) R h fun S1 d v G1 H1 R1 s1 p1 q1 => ?_
    cases d with
    | rf n =>
      simp only at q1
      split at q1
      · rename_i ds0 q0
        obtain ⟨a, rfl, hmu⟩ := RepT.rfn p1
        obtain ⟨vs0, h0, r0, _⟩ := box_at R1 hmu q0
        refine ⟨.inl ⟨rfl, vs0, .inl (.inl h0)⟩, sEx_at (P := PA1 X.K cl bm) R1 q1 fun S2 es xs G2 H2 R2 s2 p2 q2 => ?_⟩
        split at q2
        · rename_i ds qd
          have hmu2 : G2.mu[n]? = some a := by
            obtain ⟨t, e⟩ := s2.mu
            rw [e, List.getElem?_append_left (List.getElem?_eq_some_iff.mp hmu).1]
            exact hmu
          obtain ⟨vs, h1, r1, l1⟩ := box_at R2 hmu2 qd
          cases q3 : f ds es with
          | none => rw [q3] at q2; exact q2.elim
          | some ds' =>
            rw [q3] at q2
            exact hs R2.ok.zsub h1 r1 p2 q3 fun vs' r' => q2 G2 σ _ (R2.setCell (as := [a]) (fun b hb => by simp at hb; subst hb; exact l1) (by simp) hmu2 (List.getElem?_eq_some_iff.mp qd).1 (c' := .box (.lst ds')) (.lst upd_same r')).1 (Zle.refl _)
        · exact q2.elim
      · exact q1.elim
    | _ => exact q1.elim
theorem ss_lmS0 {name : Str} {apos cpos : Pos} {id : String} {r : V → List V → Hp → VK → Prop} {f : List D → List D → Option (List D)} (slot : PySem.Slot "list" name id) (hty : typeOf (.builtin id) = pure (.type "method_descriptor")) (hm : MtR X id r) (hs : LmS X cl [] r f) (hv : SB X cl W o co)
    (hbase : attributeBase o name X.env (eval o X.env) = eval o X.env := by rfl) (hline : (apos.endLine == cpos.line) = true := by rfl)
    (hsw : swapsWith (.Call (.Attribute o name apos) [] [] cpos) none pos.line X.env = pure false := by rfl) : SS X cl W (.Expr (.Call (.Attribute o name apos) [] [] cpos) pos) (sLmS f co aNil) :=
  PS.weak (ps_expr (pe_bm0 PySem.F.plainAttrs_list slot hty hm hv hbase hline) hsw) fun D σ H ⟨G0, H0, S, ρ, G, R, h⟩ => by
    unfold sLmS at h
    refine sEx_at (P := PB X.K cl) R h fun S1 d v G1 H1 R1 s1 p1 q1 => ?_
    cases d with
    | rf n =>
      simp only at q1
      split at q1
      · rename_i ds0 q0
        obtain ⟨a, rfl, hmu⟩ := RepT.rfn p1
        obtain ⟨vs0, h0, r0, l0⟩ := box_at R1 hmu q0
        refine ⟨.inl ⟨rfl, vs0, .inl (.inl h0)⟩, ?_⟩
        simp only [sEx, aNil, q0] at q1
        cases q3 : f ds0 [] with
        | none => rw [q3] at q1; exact q1.elim
        | some ds' =>
          rw [q3] at q1
          exact hs R1.ok.zsub h0 r0 .nil q3 fun vs' r' => q1 G1 σ _ (R1.setCell (as := [a]) (fun b hb => by simp at hb; subst hb; exact l0) (by simp) hmu (List.getElem?_eq_some_iff.mp q0).1 (c' := .box (.lst ds')) (.lst upd_same r')).1 (Zle.refl _)
      · exact q1.elim
    | _ => exact q1.elim
end
end PM
set_option maxHeartbeats 1000000
namespace PM
open PySem PySem.Spec PyProof.Rows L2
section
variable {X : Cx} {cl : ClsP} {W : WX} {e o tg elt : Expr} {c co ca cb : Ex} {pos : Pos}
end
end PM
set_option maxHeartbeats 1000000
namespace PM
open PySem PySem.Spec PyProof.Rows L2
def srtI (ns : List Int) : List Int := ns.mergeSort fun a b => decide (a ≤ b)
def leS (x y : Str) : Bool := !ltCps y.cps.toList x.cps.toList
def srtS (xs : List Str) : List Str := xs.mergeSort leS
theorem srtI_perm (ns : List Int) : (srtI ns).Perm ns := List.mergeSort_perm _ _
theorem srtI_le (ns : List Int) : (srtI ns).Pairwise (· ≤ ·) := by
  have h := List.pairwise_mergeSort (le := fun a b : Int => decide (a ≤ b)) (fun a b c h1 h2 => by simp only [decide_eq_true_eq] at *; omega) (fun a b => by simp only [Bool.or_eq_true, decide_eq_true_eq]; omega) ns
  exact h.imp fun h => of_decide_eq_true h
theorem srtI_is {ns ys : List Int} (p : ys.Perm ns) (h : ys.Pairwise (· ≤ ·)) : ys = srtI ns :=
  List.Perm.eq_of_pairwise (le := (· ≤ ·)) (fun a b _ _ h1 h2 => Int.le_antisymm h1 h2) h (srtI_le ns) (p.trans (srtI_perm ns).symm)
theorem leS_iff {x y : Str} : leS x y = true ↔ x.cps.toList ≤ y.cps.toList := by
  unfold leS
  rw [ltCps_eq]
  simp only [Bool.not_eq_true', decide_eq_false_iff_not]
  exact Iff.rfl
theorem Str_ext {x y : Str} (h : x.cps.toList = y.cps.toList) : x = y := by
  obtain ⟨⟨a⟩⟩ := x
  obtain ⟨⟨b⟩⟩ := y
  exact congrArg (fun l => Str.mk ⟨l⟩) h
theorem leS_trans {a b c : Str} (h1 : leS a b = true) (h2 : leS b c = true) : leS a c = true := leS_iff.mpr (List.le_trans (leS_iff.mp h1) (leS_iff.mp h2))
theorem leS_total (a b : Str) : (leS a b || leS b a) = true := by
  rw [Bool.or_eq_true, leS_iff, leS_iff]
  exact List.le_total _ _
theorem leS_anti {a b : Str} (h1 : leS a b = true) (h2 : leS b a = true) : a = b := Str_ext (List.le_antisymm (leS_iff.mp h1) (leS_iff.mp h2))
theorem risingS_iff : ∀ (r : List Str) (p : Str), risingS p r = true ↔ (p :: r).Pairwise fun a b => leS a b = true
  | [], p => by simp [risingS]
  | x :: r, p => by
    have ih := risingS_iff r x
    show (leS p x && risingS x r) = true ↔ _
    rw [Bool.and_eq_true, ih]
    constructor
    · rintro ⟨h1, h2⟩
      refine List.pairwise_cons.mpr ⟨fun y hy => ?_, h2⟩
      rcases List.mem_cons.mp hy with rfl | hy
      · exact h1
      · exact leS_trans h1 ((List.pairwise_cons.mp h2).1 y hy)
    · intro h
      have h' := List.pairwise_cons.mp h
      exact ⟨h'.1 x (by simp), h'.2⟩
theorem sortedS_iff (r : List Str) : sortedS r = true ↔ r.Pairwise fun a b => leS a b = true := by
  cases r with
  | nil => simp [sortedS]
  | cons x r => exact risingS_iff r x
theorem srtS_perm (xs : List Str) : (srtS xs).Perm xs := List.mergeSort_perm _ _
theorem srtS_le (xs : List Str) : (srtS xs).Pairwise fun a b => leS a b = true := List.pairwise_mergeSort (le := leS) (fun _ _ _ => leS_trans) leS_total xs
theorem srtS_is {xs ys : List Str} (p : ys.Perm xs) (h : ys.Pairwise fun a b => leS a b = true) : ys = srtS xs :=
  List.Perm.eq_of_pairwise (fun a b _ _ h1 h2 => leS_anti h1 h2) h (srtS_le xs) (p.trans (srtS_perm xs).symm)
def fSorted : List D → Option D
  | [.lst xs] => match D.ints xs with
    | some ns => some (.lst ((srtI ns).map D.int))
    | none => match D.strs xs with
      | some ss => if ss.length < 64 then some (.lst ((srtS ss).map D.str)) else none
      | none => none
  | _ => none
def rSortAny (K : PySem.W.Frag) : List V → Hp → VK → Prop := fun vs H Q => rSortedI K vs H Q ∨ rSortedS K vs H Q
section
variable {X : Cx} {cl : ClsP}
theorem call_sortedAll : CallR X (.builtin "sorted") (rSortAny X.K) := by
  intro pins s σ H vs us Q I r h
  rcases h with h | h
  · exact cr_sortedI pins s σ H vs us Q I r h
  · exact cr_sortedS pins s σ H vs us Q I r h
theorem cs_sorted : CallS X cl [true] (rSortAny X.K) fSorted (PN X.K cl) := fun {G0 H0 S ρ G σ H vs ds z Q} R p q k => by
  unfold fSorted at q
  split at q
  · rename_i xs
    cases q1 : D.ints xs with
    | some ns =>
      rw [q1] at q
      cases q
      obtain ⟨v, rfl, h⟩ := p.one
      obtain ⟨a1, vs, rfl, h1, r1⟩ := h.lst R.ok.zsub
      refine .inl ⟨a1, ns, rfl, .inl (.inl (by rw [← r1.toInts q1]; exact h1)), fun ys l pm ps hl => ?_⟩
      rw [srtI_is pm ps]
      obtain ⟨R', s', n⟩ := R.newL hl (RepAll.ints (K := X.K) (cl := cl) (srtI ns))
      exact k _ _ _ R' s' ⟨l, [l], rfl, n, fun b hb => by simp at hb; subst hb; exact hl⟩
    | none =>
      rw [q1] at q
      cases q2 : D.strs xs with
      | none => rw [q2] at q; cases q
      | some ss =>
        rw [q2] at q
        simp only at q
        split at q
        · rename_i h64
          cases q
          obtain ⟨v, rfl, h⟩ := p.one
          obtain ⟨a1, vs, rfl, h1, r1⟩ := h.lst R.ok.zsub
          refine .inr ⟨a1, ss, rfl, .inl (.inl (by rw [← r1.toStrs q2]; exact h1)), h64, fun ys l pm ps hl => ?_⟩
          rw [srtS_is pm ((sortedS_iff ys).mp ps)]
          obtain ⟨R', s', n⟩ := R.newL hl (RepAll.strs (K := X.K) (cl := cl) (srtS ss))
          exact k _ _ _ R' s' ⟨l, [l], rfl, n, fun b hb => by simp at hb; subst hb; exact hl⟩
        · cases q
  · cases q
end
end PM
set_option maxHeartbeats 1000000
namespace PM
open PySem PySem.Spec PyProof.Rows L2
section
variable {X : Cx} {cl : ClsP} {W : WX} {e o tg elt a b : Expr} {c co ca cb : Ex} {pos : Pos}
open Classical in
noncomputable def forG (n : Nat) (ds0 : List D) (tg : Tgt) (body : Stm) : List D → Stm
  | [] => fun ρ S => if S[n]? = some (.box (.lst ds0)) then .nx ρ S else .stuck
  | d :: ds => fun ρ S => if S[n]? = some (.box (.lst ds0)) then (match tg d ρ with
    | none => .stuck
    | some ρ1 => match body ρ1 S with
      | .nx ρ' S' => forG n ds0 tg body ds ρ' S'
      | .ct ρ' S' => forG n ds0 tg body ds ρ' S'
      | .bk ρ' S' => .nx ρ' S'
      | .rt v S' => .rt v S'
      | .exc n ρ' S' => .exc n ρ' S'
      | .stuck => .stuck) else .stuck
noncomputable def sForG (co : Ex) (tg : Tgt) (body : Stm) : Stm := sEx co fun d ρ S => match d with
  | .rf n => (match S[n]? with
    | some (.box (.lst ds)) => forG n ds tg body ds ρ S
    | _ => .stuck)
  | _ => .stuck
theorem ss_forG {body : List Stmt} {g : TG} {gt : Tgt} {cb : Stm} (hp : PassesOwn (model X.prog X.w) X.A X.env X.xe) (hc : X.calm = true) (ho : SB X cl W o co) (hg : PG X tg g) (hgs : TgS X cl g gt) (hb : SSs X cl W body cb)
    (hs : ∀ x, foldedSetIterable o X.env x = pure x := by intro _; rfl) : SS X cl W (.For tg o body [] pos) (sForG co gt cb) := PS.weak (ps_for hp hc (pi_list ho) hg hb hs) fun D σ H ⟨G0, H0, S, ρ, G, R, h⟩ => by
  unfold sForG at h
  refine sEx_at (P := PB X.K cl) R h fun S1 d v G1 H1 R1 s1 p1 q1 => ?_
  cases d with
  | rf n =>
    simp only at q1
    split at q1
    · rename_i ds q
      obtain ⟨a, rfl, hmu⟩ := RepT.rfn p1
      obtain ⟨ws, hw, rw', lw⟩ := box_at R1 hmu q
      refine ⟨a, rfl, ⟨ws, .inl (.inl hw)⟩, fun i m σ H => ∃ (S : Store) (ρ : Env) (G : Gh), Rel X.K cl G0 H0 S ρ G σ H ∧ Zle G1 G ∧ m = ds.length - i ∧ i ≤ ds.length ∧ AftS X.K cl W G0 H0 G D (forG n ds gt cb (ds.drop i) ρ S), ⟨_, S1, ρ, G1, R1, Zle.refl _, rfl, Nat.zero_le _, by rw [List.drop_zero]; exact q1⟩, ?_⟩
      rintro i m σ H ⟨S, ρ, G, R, z, rfl, hi, h⟩
      have hmuG : G.mu[n]? = some a := by
        obtain ⟨t, e⟩ := z.mu
        rw [e, List.getElem?_append_left (List.getElem?_eq_some_iff.mp hmu).1]
        exact hmu
      by_cases qb : S[n]? = some (.box (.lst ds))
      · obtain ⟨ws, hw, rw', lw⟩ := box_at R hmuG qb
        by_cases hlt : i < ds.length
        · right
          have hd : ds[i]? = some ds[i] := List.getElem?_eq_getElem hlt
          obtain ⟨w, hwi, rx⟩ := rw'.get hd
          rw [List.drop_eq_getElem_cons hlt] at h
          refine ⟨⟨ws, w, .inl (.inl hw), hwi⟩, fun σ H => ∃ (S : Store) (ρ : Env) (G : Gh), Rel X.K cl G0 H0 S ρ G σ H ∧ Zle G1 G ∧ AftS X.K cl W G0 H0 G D (forG n ds gt cb (ds.drop (i + 1)) ρ S), fun σ' H' ⟨S', ρ', G', R', z', h'⟩ => ⟨ds.length - (i + 1), by omega, S', ρ', G', R', z', rfl, hlt, h'⟩, fun x H2 y => ?_⟩
          obtain ⟨rfl, hx⟩ := y
          have hx := hx _ (.inl (.inl hw))
          rw [hwi] at hx
          cases hx
          unfold forG at h
          rw [if_pos qb] at h
          cases qt : gt ds[i] ρ with
          | none => simp only [qt, AftS] at h
          | some ρ1 =>
            simp only [qt] at h
            refine hgs R rx qt fun σ2 R2 => ⟨G0, H0, S, ρ1, G, R2, ?_⟩
            cases qc : cb ρ1 S with
            | nx ρ' S' => simp only [qc] at h; exact fun G' σ' H' R' z' => ⟨S', ρ', G', R', z.trans z', h.pre z'⟩
            | ct ρ' S' => simp only [qc] at h; exact fun G' σ' H' R' z' => ⟨S', ρ', G', R', z.trans z', h.pre z'⟩
            | bk ρ' S' => simp only [qc] at h; exact fun G' σ' H' R' z' => h G' σ' H' R' z'
            | rt v S' => simp only [qc] at h; exact h
            | exc n ρ' S' => simp only [qc] at h; exact h
            | stuck => simp only [qc] at h; exact h
        · left
          have e : i = ds.length := by omega
          subst e
          rw [List.drop_length] at h
          unfold forG at h
          rw [if_pos qb] at h
          exact ⟨⟨ws, .inl (.inl hw), by rw [rw'.length]; exact Nat.le_refl _⟩, h G σ H R (Zle.refl _)⟩
      · exfalso
        cases hdr : ds.drop i with
        | nil => rw [hdr] at h; unfold forG at h; rw [if_neg qb] at h; exact h
        | cons x xs => rw [hdr] at h; unfold forG at h; rw [if_neg qb] at h; exact h
    · exact q1.elim
  | _ => exact q1.elim
def Reads (K : PySem.W.Frag) (H : Hp) (v : V) (d : D) : Prop := ∀ p, d.py = some p → Dp K H v p
end
end PM
set_option maxHeartbeats 1000000
namespace PM
open PySem PySem.Spec PyProof.Rows L2
section
variable {X : Cx} {cl : ClsP} {W : WX} {a b : Expr} {ca cb : Ex} {pos : Pos}
end
end PM
set_option maxHeartbeats 1000000
namespace L2
open PySem PySem.Spec PyProof.Rows
end L2
set_option maxHeartbeats 1000000
namespace PM
open PySem PySem.Spec PyProof.Rows L2
section
variable {X : Cx} {cl : ClsP} {W : WX}
end
end PM
set_option maxHeartbeats 1000000
namespace PM
open PySem PySem.Spec PyProof.Rows L2
section
variable {X : Cx} {cl : ClsP} {W : WX} {tg e : Expr} {c : Ex} {pos : Pos} {g : TG} {gt : Tgt}
end
end PM
set_option maxHeartbeats 1000000
namespace L2
open PySem PySem.Spec PyProof.Rows
section
variable {X : Cx}
end
end L2
set_option maxHeartbeats 1000000
namespace PM
open PySem PySem.Spec PyProof.Rows L2
section
variable {prog : Program} {w : World} {A : Around} {E : Value → Shared → Prop} {s : Shared}
end
section
variable {X : Cx} {cl : ClsP} {W : WX} {x n : Str} {c : Value} {i j : Nat} {body suite rest : List Stmt} {first ret : Stmt} {np pos pos' ip py p2 : Pos} {s1 s2 sb : Stm} {hit : HTab} {y : Str} {iter : Expr} {ci : Ex}
end
end PM
set_option maxHeartbeats 1000000
namespace PM
open PySem PySem.Spec PyProof.Rows L2
section
variable {X : Cx} {cl : ClsP} {W : WX} {o e : Expr} {co ce : Ex} {apos cpos pos : Pos}
end
def sPopApp (i : Nat) (c : Str) : Stm := fun ρ S => match ρ[i]? with
  | some (.ow (.lst ds)) => (match ds.getLast? with
    | some d => if ds.length < 1000000 then .nx (ρ.set i (.ow (.lst (ds.dropLast ++ [.tup [.str c, d]])))) S else .stuck
    | none => .stuck)
  | _ => .stuck
section
variable {X : Cx} {cl : ClsP} {W : WX}
theorem ss_popApp {i : Nat} {x c : Str} {p p2 apos cpos apos2 cpos2 kp tpos pos : Pos} {kk} {x1} (hv : PE X (.Name x p) (tVar i)) (hv2 : PE X (.Name x p2) (tVar i))
    (hbase2 : attributeBase (.Name x p2) "pop" X.env (eval (.Name x p2) X.env) = eval (.Name x p2) X.env := by rfl) (hline2 : (apos2.endLine == cpos2.line) = true := by rfl)
    (hbase : attributeBase (.Name x p) "append" X.env (eval (.Name x p) X.env) = eval (.Name x p) X.env := by rfl)
    (hfew : ((backTo cpos (starEach [.Tuple [.Constant (.str c) kk kp, .Call (.Attribute (.Name x p2) "pop" apos2) [] [] cpos2] x1 tpos] X.env)).all (fun x => !x.1) && (backToKw cpos (keywordEach [] X.env)).all (fun x => x.1.isSome)
      && decide (([.Tuple [.Constant (.str c) kk kp, .Call (.Attribute (.Name x p2) "pop" apos2) [] [] cpos2] x1 tpos] : List Expr).length + ([] : List Keyword).length + (if ([] : List Keyword).isEmpty then 0 else 1) < 30)) = true := by rfl)
    (hline : (apos.endLine == cpos.line) = true := by rfl)
    (hst : starEach [.Tuple [.Constant (.str c) kk kp, .Call (.Attribute (.Name x p2) "pop" apos2) [] [] cpos2] x1 tpos] X.env = (false, eval (.Tuple [.Constant (.str c) kk kp, .Call (.Attribute (.Name x p2) "pop" apos2) [] [] cpos2] x1 tpos) X.env) :: starEach [] X.env := by rfl)
    (hplain : (backTo cpos (starEach [] X.env)).any (·.1) = false := by rfl)
    (hst2 : starEach [.Constant (.str c) kk kp, .Call (.Attribute (.Name x p2) "pop" apos2) [] [] cpos2] X.env = (false, eval (.Constant (.str c) kk kp) X.env) :: starEach [.Call (.Attribute (.Name x p2) "pop" apos2) [] [] cpos2] X.env := by rfl)
    (hst3 : starEach [.Call (.Attribute (.Name x p2) "pop" apos2) [] [] cpos2] X.env = (false, eval (.Call (.Attribute (.Name x p2) "pop" apos2) [] [] cpos2) X.env) :: starEach [] X.env := by rfl)
    (hsw : swapsWith (.Call (.Attribute (.Name x p) "append" apos) [.Tuple [.Constant (.str c) kk kp, .Call (.Attribute (.Name x p2) "pop" apos2) [] [] cpos2] x1 tpos] [] cpos) none pos.line X.env = pure false := by rfl) :
    SS X cl W (.Expr (.Call (.Attribute (.Name x p) "append" apos) [.Tuple [.Constant (.str c) kk kp, .Call (.Attribute (.Name x p2) "pop" apos2) [] [] cpos2] x1 tpos] [] cpos) pos) (sPopApp i c) :=
  PS.weak (ps_expr (pe_bm PySem.F.plainAttrs_list PySem.F.slot_list_append PySem.F.type_list_append mt_append hv
    (pa_cons (pe_tup (pa_cons pe_str (pa_cons (pe_bm0 PySem.F.plainAttrs_list PySem.F.slot_list_pop PySem.F.type_list_pop mt_pop hv2 hbase2 hline2) pa_nil hst3) hst2)) pa_nil hst) hbase hfew hline hst hplain) hsw) fun D σ H ⟨G0, H0, S, ρ, G, R, h⟩ => by
    unfold sPopApp at h
    split at h
    · rename_i ds q
      split at h
      · rename_i d hd
        split at h
        · rename_i hz
          obtain ⟨o, ho, v, rfl, ow⟩ := R.slot i _ q
          obtain ⟨a, vs, rfl, h1, r1, l1⟩ := ow.lst
          have hne : ds ≠ [] := fun z => by rw [z] at hd; cases hd
          have hl := r1.length
          have hd2 : ds[ds.length - 1]? = some d := by rw [← List.getLast?_eq_getElem?]; exact hd
          obtain ⟨u, hu, ru⟩ := r1.get hd2
          have R1 := R.write (as := [a]) (o' := .lst vs.dropLast) (d' := .lst ds.dropLast) ho (fun b hb => by simp at hb; subst hb; exact l1) (by simp) (.lst upd_same r1.dropLast)
          refine ⟨_, ho, .inl ⟨rfl, vs, .inl (.inl h1)⟩, ?_⟩
          refine ⟨_, ho, .inl ⟨rfl, vs, .inl (.inl h1)⟩, a, vs, u, rfl, rfl, h1, by rw [hl]; exact hu, ?_⟩
          refine ⟨(by show 2 ≤ sizeLine; decide), fun t ht => ?_⟩
          obtain ⟨R2, s2, z2⟩ := R1.newF ht (.tup [.str c, u])
          have hta : t ≠ a := fun e => by rw [e, upd_same] at ht; cases ht
          have hil : i < ρ.length := (List.getElem?_eq_some_iff.mp q).1
          have hdl := r1.dropLast.length
          have hdl2 : ds.dropLast.length < 1000000 := by rw [List.length_dropLast]; omega
          refine ⟨a, vs.dropLast, .ref t, rfl, rfl, by rw [upd_ne (Ne.symm hta)]; exact upd_same, by rw [hdl]; exact lim_lt hdl2, ?_⟩
          obtain ⟨o3, ho3, v3, rfl, ow3⟩ := R2.slot i _ (List.getElem?_set_self hil)
          rw [ho] at ho3
          cases ho3
          obtain ⟨a', vs', e', h1', r1', l1'⟩ := ow3.lst
          cases e'
          have ev : vs' = vs.dropLast := by
            rw [upd_ne (Ne.symm hta), upd_same] at h1'
            exact (HO.lst.inj (Option.some.inj h1')).symm
          subst ev
          have rt : RepG X.K cl (G.fz (upd (upd H a (.lst vs.dropLast)) t (.tup [.str c, u])) [t]) (.ref t) (.tup [.str c, d]) := .tup (.inl (.inl z2)) (.cons (.str c) (.cons (Rep.mono s2.z s2.mu _ _ ru) .nil))
          have R3 := R2.write (as := [a]) (o' := .lst (vs.dropLast ++ [.ref t])) (d' := .lst (ds.dropLast ++ [.tup [.str c, d]])) ho (fun b hb => by simp at hb; subst hb; exact l1') (by simp) (.lst upd_same (r1'.append (.cons rt .nil)))
          rw [List.set_set] at R3
          exact h _ σ _ R3 s2.zle
        · exact h.elim
      · exact h.elim
    · exact h.elim
end
end PM
set_option maxHeartbeats 1000000
namespace PM
open PySem PySem.Spec PyProof.Rows L2
section
variable {X : Cx} {cl : ClsP} {W : WX} {o e e2 : Expr} {co ce ci : Ex} {apos pos : Pos}
end
theorem RepK.keysEq {K : PySem.W.Frag} {cl : ClsP} {mu : List Addr} {Z : Hp} : ∀ {vs : List (Key × V)} {ds : List (Key × D)}, RepK K cl mu Z vs ds → vs.map (·.1) = ds.map (·.1)
  | _, _, .nil => rfl
  | _, _, .cons _ t => congrArg (_ :: ·) (RepK.keysEq t)
def keysS : List (Key × D) → Option (List Str)
  | [] => some []
  | (.inr k, _) :: r => (keysS r).map (k :: ·)
  | (.inl _, _) :: _ => none
theorem keysS_some : ∀ {ds : List (Key × D)} {ks : List Str}, keysS ds = some ks → ds.map (·.1) = ks.map Sum.inr
  | [], _, e => by cases e; rfl
  | (.inr k, _) :: r, ks, e => by
    unfold keysS at e
    cases q : keysS r with
    | none => rw [q] at e; cases e
    | some l =>
      rw [q] at e
      cases e
      exact congrArg (_ :: ·) (keysS_some q)
  | (.inl _, _) :: _, _, e => by cases e
def gSortD (ds : List (Key × D)) : Option (List Str) := (keysS ds).bind fun ks => if ks.length < 64 then some (srtS ks) else none
def eSortD (ca : Ex) : Ex := fun ρ S => (ca ρ S).bind fun d S => match d with
  | .dic ds => Res.opt ((gSortD ds).map fun ks => .lst (ks.map D.str)) S
  | _ => .stuck
section
variable {X : Cx} {cl : ClsP} {W : WX} {a : Expr} {ca : Ex}
theorem sn_sortD {p pos : Pos} (hc : X.calm = true) (hg : Gl X "sorted") (hm : X.mg "sorted" = none) (ha : SB X cl W a ca) (he : starEach [a] X.env = (false, eval a X.env) :: starEach [] X.env := by rfl) (hpl : (backTo pos (starEach [] X.env)).any (·.1) = false := by rfl) : SN X cl W (.Call (.Name "sorted" p) [a] [] pos) (eSortD ca) :=
  PE.weak (pe_callB (call_sortedD hc) hg hm (by decide +kernel) (pa_cons ha pa_nil he) (by decide) (by decide) he hpl) fun σ H Q ⟨G0, H0, S, ρ, G, R, h⟩ => by
    refine tX.bind (Pa := PB X.K cl) pnM R h fun d x S1 G1 H1 R1 s1 p1 h1 => ?_
    cases d <;> simp only [Aft] at h1
    rename_i ds
    obtain ⟨a1, vs, rfl, h2, r1⟩ := RepT.dic p1 R1.ok.zsub
    unfold gSortD at h1
    cases q : keysS ds with
    | none => rw [q] at h1; exact h1.elim
    | some ks =>
      rw [q] at h1
      by_cases h64 : ks.length < 64
      · simp only [Option.bind_some, if_pos h64, Option.map_some, Res.opt, Aft] at h1
        refine ⟨a1, vs, ks, rfl, .inl h2, r1.keysEq.trans (keysS_some q), h64, fun ys l pm ps hl => ?_⟩
        rw [srtS_is pm ((sortedS_iff ys).mp ps)]
        obtain ⟨R', s', n⟩ := R1.newL hl (RepAll.strs (K := X.K) (cl := cl) (srtS ks))
        exact h1 _ _ _ R' s' ⟨l, [l], rfl, n, fun b hb => by simp at hb; subst hb; exact hl⟩
      · simp only [Option.bind_some, if_neg h64, Option.map_none, Res.opt, Aft] at h1
end
end PM
set_option maxHeartbeats 1000000
namespace PM
open PySem PySem.Spec PyProof.Rows L2
section
variable {X : Cx} {cl : ClsP} {W : WX}
end
end PM
set_option maxHeartbeats 1000000
namespace PM
open PySem PySem.Spec PyProof.Rows L2
section
variable {X : Cx} {cl : ClsP}
end
section
variable {X : Cx} {cl : ClsP} {W : WX}
end
section
variable {X : Cx} {cl : ClsP}
end
end PM
set_option maxHeartbeats 1000000
namespace PM
namespace C
open PySem PySem.Spec PyProof.Rows L2
section
theorem _root_.L2.Fun.okC {P : Program} {w : World} {K : PySem.W.Frag} {mg : Str → Option Value} {base : Heap} {x qual : Str} {st : Stmt} {f : Addr} {fd : FuncData} {N ps : List Str} {k : Nat} {sp : Sp} (F : Fun K x qual st f fd) (S : FnScope N ps (defScope st)) (len : ∀ vs H Q E, sp vs H Q E → vs.length = ps.length)
    (hbody : ∀ (cdv : Value) (A : Around) (outer : List PySem.Env) (s : Shared) (H : Hp) (vs : List V) (Q : VK) (E : XK), Room k (A.deeper (envOfC qual (defScope st) s.heap.objs.size f cdv)) → sp vs H Q E →
      ∃ t, PSs (cxOf (L2.CX P w) P w K mg base N qual (defScope st) f cdv A outer s H E) (defBody st) t ∧ t { nx := fun _ H' => Q .non H', rt := Q } (L2.start N vs) H) : FnOk P w K mg base (L2.CX P w) (k + 1) f fd ps sp := by
  obtain ⟨oc, od, kV, doc, pm, an, cdv, ct, osl, rfl, lk, hcd⟩ := F.ex
  exact fn_of lk hcd S len fun A outer s H vs Q E hr hsp => hbody cdv A outer s H vs Q E hr hsp
end
section
variable {P : Program} {w : World} {K : PySem.W.Frag} {mg : Str → Option Value} {base : Heap} {cl : ClsP}
theorem fn_ok {x qual : Str} {st : Stmt} {f : Addr} {fd : FuncData} {N ps : List Str} {lv k : Nat} {bm : List Bool} {body : Stm} (F : Fun K x qual st f fd) (Sc : FnScope N ps (defScope st)) (hbm : bm.length = ps.length) (hk : N.length = ps.length + k)
    (hbody : ∀ (cdv : Value) (A : Around) (outer : List PySem.Env) (s : Shared) (H : Hp) (E : XK), Room lv (A.deeper (envOfC qual (defScope st) s.heap.objs.size f cdv)) →
      L2.Takes (cxOf (L2.CX P w) P w K mg base N qual (defScope st) f cdv A outer s H E) (fun c d _ H => E c d H) →
      SSs (cxOf (L2.CX P w) P w K mg base N qual (defScope st) f cdv A outer s H E) cl (fun c d _ H => E c d H) (defBody st) body) : FnOk P w K mg base (L2.CX P w) (lv + 1) f fd ps (spOf K cl bm (mkFn bm k body)) := by
  refine F.okC Sc (fun vs H Q E ⟨G, S, ds, ok, so, p, q⟩ => (p.len.1).trans hbm) (fun cdv A outer s H vs Q E hr ⟨G, S, ds, ok, so, p, q⟩ => ?_)
  refine ⟨_, hbody cdv A outer s H E hr (L2.takes_of rfl rfl rfl rfl), G, H, S, startE bm ds k, G, Rel.start ok so p (by rw [p.len.1, hbm, hk]; omega), ?_⟩
  unfold mkFn at q
  cases r : body (startE bm ds k) S with
  | nx ρ' S' => rw [r] at q; exact fun G' σ' H' R' z => q .non _ H' R'.leave.1 out_only R'.leave.2 .non
  | rt v S' => rw [r] at q; exact q
  | exc n ρ' S' => rw [r] at q; exact fun G' σ' H' R' z => q _ H' R'.leave.1 out_only R'.leave.2
  | bk ρ' S' => rw [r] at q; exact q.elim
  | ct ρ' S' => rw [r] at q; exact q.elim
  | stuck => rw [r] at q; exact q.elim
end
section
variable {X : Cx} {cl : ClsP} {W : WX} {e o : Expr} {es : List Expr} {pos : Pos} {k : Nat} {f : Addr} {fd : FuncData} {ps : List Str} {m : Fn} {bm : List Bool} {x : Str} {p : Pos} {ax : Ax}
theorem se_call (F : FnOk X.prog X.w X.K X.mg X.base (L2.CX X.prog X.w) k f fd ps (spOf X.K cl bm m)) (hr : Room k X.A) (hg : Gl X x) (hm : X.mg x = some (.ref f)) (hk : PySem.W.keepIn X.K (.ref f) = true) (hb : Binds X.K fd ps []) (tk : L2.Takes X W) (ha : SA X cl W bm (e :: es) ax)
    (hdb : (x == ("__debug__" : Str)) = false := by decide) (he : starEach (e :: es) X.env = (false, eval e X.env) :: starEach es X.env := by rfl) (hpl : (backTo pos (starEach es X.env)).any (·.1) = false := by rfl) : SE X cl W (.Call (.Name x p) (e :: es) [] pos) (eCall m ax) :=
  PE.weak (pe_callS F hr hg hm hk hb (L2.passAt tk) ha hdb he hpl) fun σ H Q ⟨G0, H0, S, ρ, G, R, h⟩ => by
    refine tX.bind (Pa := PA1 X.K cl bm) pfM R h fun ds vs S1 G1 H1 R1 s1 p1 h1 => ?_
    exact ⟨G1.out, S1, ds, R1.leave.1, out_only, ArgsOk.out p1, call_semF R1 h1⟩
theorem sn_call (F : FnOk X.prog X.w X.K X.mg X.base (L2.CX X.prog X.w) k f fd ps (spOf X.K cl bm m)) (hr : Room k X.A) (hg : Gl X x) (hm : X.mg x = some (.ref f)) (hk : PySem.W.keepIn X.K (.ref f) = true) (hb : Binds X.K fd ps []) (tk : L2.Takes X W) (ha : SA X cl W bm (e :: es) ax)
    (hdb : (x == ("__debug__" : Str)) = false := by decide) (he : starEach (e :: es) X.env = (false, eval e X.env) :: starEach es X.env := by rfl) (hpl : (backTo pos (starEach es X.env)).any (·.1) = false := by rfl) : SN X cl W (.Call (.Name x p) (e :: es) [] pos) (eCallN m ax) :=
  PE.weak (pe_callS F hr hg hm hk hb (L2.passAt tk) ha hdb he hpl) fun σ H Q ⟨G0, H0, S, ρ, G, R, h⟩ => by
    refine tX.bind (Pa := PA1 X.K cl bm) pnM R h fun ds vs S1 G1 H1 R1 s1 p1 h1 => ?_
    exact ⟨G1.out, S1, ds, R1.leave.1, out_only, ArgsOk.out p1, call_semN R1 h1⟩
def MethOk (X : Cx) (m : Str) (C : Addr) (sp : Sp) : Prop := ∃ (g : Addr) (fd : FuncData) (j : Nat) (ps : List Str), Cls X.K C ∧ Meth X.K C m g ∧ FnOk X.prog X.w X.K X.mg X.base (L2.CX X.prog X.w) j g fd ps sp ∧ Room j X.A ∧ Binds X.K fd ps []
def tMD (X : Cx) (m : Str) (W : WX) (ta : TE) (t : TA) : TE := fun σ H Q => ta σ H fun v H1 => ∃ (a C dx : Addr) (fs : List (Str × V)) (sp : Sp), v = .ref a ∧ H1 a = some (.ins C dx fs) ∧ fs.lookup m = none ∧ MethOk X m C sp ∧ t σ H1 fun vs H2 => sp (v :: vs) H2 Q (WE W σ)
theorem pe_md0 {mn : Str} {apos : Pos} {ta : TE} {pl : Sem Bool} (ho : PE X o ta) (tk : L2.Takes X W)
    (ht : eval (.Call (.Attribute o mn apos) [] [] pos) X.env = (do
      let ov ← eval o X.env
      standAt apos.atName
      let (f, first) ← holding [ov] (getMethod ov mn pl)
      callWith pos f first (backTo pos (starEach [] X.env)) (backToKw pos (keywordEach [] X.env))) := by rfl) : PE X (.Call (.Attribute o mn apos) [] [] pos) (tMD X mn W ta tNil) :=
  ⟨fun pins s σ H Q I h => PySem.W.methodCall_KW (pl := pl) (thn (ho.run pins s σ H _ I h) fun u s1 ⟨v, H1, I1, rv, a, C, dx, fs, sp, ev, ea, l, ⟨g, fd, j, ps, c, hm, F, hr, hb⟩, q⟩ => by
    subst ev
    cases (show u = Value.ref a from rv)
    refine getmeth_ok I1 ea c hm l ?_
    exact PySem.W.callWith_K0 (first := [.ref a]) I1.kIn hm.kp (run_fnS (E := WE W) (us := [Value.ref a]) (vs := [V.ref a]) F hr hb (L2.passAt tk σ) I1 (.cons rfl .nil) q)) ht⟩
def MtOk (X : Cx) (cl : ClsP) (mn : Str) (bm : List Bool) (mt : MTab) : Prop := ∀ c fn, mt c = some fn → MethOk X mn (cl c) (spOf X.K cl (true :: bm) fn)
theorem meth_sem {mn : Str} {mt : MTab} {co : Ex} {bm : List Bool} {P : Post D V} {fn : Res Val → Res D} (hP : PostM P) (hfin : ∀ {G0 : Gh} {H0 : Hp} {S : Store} {ρ : Env} {G : Gh} {σ : L2.St} {H : Hp} {r : Res Val} {Q : VK}, Rel X.K cl G0 H0 S ρ G σ H → Aft X.K cl P W G0 H0 ρ σ G H (fn r) Q → FnEnd X.K cl G.out H r Q (WE W σ)) (hmt : MtOk X cl mn bm mt)
    {σ : L2.St} {H : Hp} {Q : VK} (h : tX X.K cl P W (eMeth mn mt co ax fn) σ H Q) : tMD X mn W (tX X.K cl (PB X.K cl) W co) (tX X.K cl (PA1 X.K cl bm) W ax) σ H Q := by
  obtain ⟨G0, H0, S, ρ, G, R, h⟩ := h
  refine tX.bind hP R h fun d v S1 G1 H1 R1 s1 p1 h1 => ?_
  have go : ∀ (c : Nat) (fn1 : Fn), mt c = some fn1 → ((∃ fs, d = .obj c fs ∧ fs.lookup mn = none ∧ mt c = some fn1) ∨ ∃ n fs, d = .rf n ∧ S1[n]? = some (.obj c fs) ∧ fs.lookup mn = none ∧ mt c = some fn1) →
      Aft X.K cl P W G0 H0 ρ σ G1 H1 ((ax ρ S1).bind fun ds S => fn (fn1 (d :: ds) S)) Q → ∃ (a C dx : Addr) (fs : List (Str × V)) (sp : Sp), v = .ref a ∧ H1 a = some (.ins C dx fs) ∧ fs.lookup mn = none ∧ MethOk X mn C sp ∧ tX X.K cl (PA1 X.K cl bm) W ax σ H1 fun vs H2 => sp (v :: vs) H2 Q (WE W σ) := fun c fn1 hf hr h1 => by
    obtain ⟨a, dx, fs, rfl, h2, h3⟩ := recv R1 p1 hr
    refine ⟨a, cl c, dx, fs, _, rfl, h2, h3, hmt c fn1 hf, tX.bind (Pa := PA1 X.K cl bm) hP R1 h1 fun ds vs S2 G2 H2 R2 s2 p2 h4 => ?_⟩
    exact ⟨G2.out, S2, d :: ds, R2.leave.1, out_only, ArgsOk.out (.bo (RepT.stp p1 s2) p2), hfin R2 h4⟩
  cases d with
  | obj c fs =>
    simp only at h1
    cases q1 : fs.lookup mn with
    | some y => simp only [q1, Aft] at h1
    | none =>
      cases q2 : mt c with
      | none => simp only [q1, q2, Aft] at h1
      | some fn1 =>
        simp only [q1, q2] at h1
        exact go c fn1 q2 (.inl ⟨fs, rfl, q1, q2⟩) h1
  | rf n =>
    simp only at h1
    cases q0 : S1[n]? with
    | none => simp only [q0, Aft] at h1
    | some cell =>
      cases cell with
      | box _ => simp only [q0, Aft] at h1
      | obj c fs =>
        simp only [q0] at h1
        cases q1 : fs.lookup mn with
        | some y => simp only [q1, Aft] at h1
        | none =>
          cases q2 : mt c with
          | none => simp only [q1, q2, Aft] at h1
          | some fn1 =>
            simp only [q1, q2] at h1
            exact go c fn1 q2 (.inr ⟨n, fs, rfl, q0, q1, q2⟩) h1
  | _ => simp only [Aft] at h1
theorem tMD_nil {mn : Str} {ta : TE} {σ : L2.St} {H : Hp} {Q : VK} (mono : ∀ (M M' : V → Hp → Prop), (∀ v H, M v H → M' v H) → ta σ H M → ta σ H M') (h : tMD X mn W ta (tX X.K cl (PA1 X.K cl []) W aNil) σ H Q) : tMD X mn W ta tNil σ H Q :=
  mono _ _ (fun v H1 ⟨a, C, dx, fs, sp, e1, e2, e3, e4, q⟩ => ⟨a, C, dx, fs, sp, e1, e2, e3, e4, aNil_sem q⟩) h
theorem se_meth0 {mn : Str} {apos : Pos} {mt : MTab} {co : Ex} {pl : Sem Bool} (hmt : MtOk X cl mn [] mt) (ho : SB X cl W o co) (tk : L2.Takes X W)
    (ht : eval (.Call (.Attribute o mn apos) [] [] pos) X.env = (do
      let ov ← eval o X.env
      standAt apos.atName
      let (f, first) ← holding [ov] (getMethod ov mn pl)
      callWith pos f first (backTo pos (starEach [] X.env)) (backToKw pos (keywordEach [] X.env))) := by rfl) : SE X cl W (.Call (.Attribute o mn apos) [] [] pos) (eMeth mn mt co aNil resF) :=
  PE.weak (pe_md0 (pl := pl) ho tk ht) fun σ H Q h => tMD_nil (fun _ _ k q => tX_mono k q) (meth_sem pfM call_semF hmt h)
theorem sn_meth0 {mn : Str} {apos : Pos} {mt : MTab} {co : Ex} {pl : Sem Bool} (hmt : MtOk X cl mn [] mt) (ho : SB X cl W o co) (tk : L2.Takes X W)
    (ht : eval (.Call (.Attribute o mn apos) [] [] pos) X.env = (do
      let ov ← eval o X.env
      standAt apos.atName
      let (f, first) ← holding [ov] (getMethod ov mn pl)
      callWith pos f first (backTo pos (starEach [] X.env)) (backToKw pos (keywordEach [] X.env))) := by rfl) : SN X cl W (.Call (.Attribute o mn apos) [] [] pos) (eMeth mn mt co aNil resN) :=
  PE.weak (pe_md0 (pl := pl) ho tk ht) fun σ H Q h => tMD_nil (fun _ _ k q => tX_mono k q) (meth_sem pnM call_semN hmt h)
end
section
theorem cx_end {P : Program} {w : World} {H : Hp} {s : Shared} {e : Value} {s' : Shared} (z : L2.CX P w [] H s (fun _ _ _ => False) e s') : False := by
  obtain ⟨_, _, _, _, _, _, _, _, _, _, _, _, h⟩ := z
  exact h
end
section
variable {X : Cx} {cl : ClsP} {W : WX} {e : Expr} {es : List Expr} {pos : Pos} {k : Nat} {f C : Addr} {fd : FuncData} {ps : List Str} {bm : List Bool} {x : Str} {p : Pos} {ax : Ax} {sp : Sp} {t : TA}
theorem run_makeS {pins : List (Addr × Obj)} {σ : L2.St} {H : Hp} {s : Shared} {Q : VK} {us : List Value} {vs : List V} (M : Mk X.K C f) (F : FnOk X.prog X.w X.K X.mg X.base (L2.CX X.prog X.w) k f fd ps sp) (hr : Room (k + 1) X.A) (hb : Binds X.K fd ps [])
    (tk : L2.Takes X W) (I : Inv X pins σ H s) (r : Vals vs us)
    (h : ∀ x dx, H x = none → H dx = none → dx ≠ x → sp (.ref x :: vs) (upd (upd H dx (.own x)) x (.ins C dx [])) (fun v H2 => v = .non ∧ Q (.ref x) H2) (WE W σ)) :
    wpAny (model X.prog X.w) X.A (call (.ref C) us) (EP X pins σ Q) X.xe s := by
  have hq := h (s.heap.objs.size + 1) s.heap.objs.size (I.hok.fresh (Nat.le_succ _)) (I.hok.fresh (Nat.le_refl _)) (Nat.ne_of_lt (Nat.lt_succ_self _))
  have I2 := Inv.made (C := C) I
  have r2 : Vals (V.ref (s.heap.objs.size + 1) :: vs) (Value.ref (s.heap.objs.size + 1) :: us) := .cons rfl r
  have hl : (Value.ref (s.heap.objs.size + 1) :: us).length = ps.length := by
    have e := r2.length
    rw [F.len _ _ _ _ hq] at e
    exact e.symm
  have hl2 : ((Value.ref (s.heap.objs.size + 1) :: us) ++ []).length = ps.length := by rw [List.append_nil]; exact hl
  have hb2 := hb _ (Value.ref (s.heap.objs.size + 1) :: us) I2.kIn hl2
  rw [List.append_nil] at hb2
  refine wpAny_call (make_map (f := f) I.kIn M.makes M.init (beq_iff_eq.mp M.fn) (codeAny_mono (F.run _ X.stack _ _ ⟨Value.ref (s.heap.objs.size + 1) :: us, []⟩ (Value.ref (s.heap.objs.size + 1) :: us) _ _ (WE W σ) (hr.make C us [])
    (I2.env0.make C us []) hb2 r2 hq) fun r s' hq' => ?_))
  cases r with
  | error e => exact L2.passAt tk σ pins _ _ e s' I2 hq'
  | ok fl =>
    cases fl with
    | ret u =>
      obtain ⟨v, H', I3, rv, ev, q3⟩ := I2.after hq'
      subst ev
      exact ⟨rv, ⟨V.ref (s.heap.objs.size + 1), H', I3, rfl, q3⟩⟩
    | next => exact False.elim hq'
    | brk => exact False.elim hq'
    | cont => exact False.elim hq'
theorem pe_makeS (M : Mk X.K C f) (F : FnOk X.prog X.w X.K X.mg X.base (L2.CX X.prog X.w) k f fd ps sp) (hr : Room (k + 1) X.A) (hg : Gl X x) (hm : X.mg x = some (.ref C)) (hb : Binds X.K fd ps []) (tk : L2.Takes X W)
    (ha : PA X (e :: es) t) (hdb : (x == ("__debug__" : Str)) = false := by decide) (he : starEach (e :: es) X.env = (false, eval e X.env) :: starEach es X.env := by rfl) (hpl : (backTo pos (starEach es X.env)).any (·.1) = false := by rfl) :
    PE X (.Call (.Name x p) (e :: es) [] pos) (tMakeS C sp W t) := by
  refine ⟨fun pins s σ H Q I h => ?_⟩
  refine wpAny_Call_Name_kw (ld_glob I hg hm ?_ hdb)
  refine PySem.W.callWith_K (h₀ := X.base) I.ok.mod.kin M.kp (thn (ha.run pos pins s σ H _ I h) fun us s1 ⟨vs, H1, I1, r, q⟩ => ⟨I1.kIn, ?_⟩) he hpl
  exact run_makeS M F hr hb tk I1 r q
theorem sn_make {c : Nat} {m : Ini} (M : Mk X.K (cl c) f) (F : FnOk X.prog X.w X.K X.mg X.base (L2.CX X.prog X.w) k f fd ps (spIni X.K cl c bm m)) (hr : Room (k + 1) X.A) (hg : Gl X x) (hm : X.mg x = some (.ref (cl c))) (hb : Binds X.K fd ps []) (tk : L2.Takes X W) (ha : SA X cl W bm (e :: es) ax)
    (hdb : (x == ("__debug__" : Str)) = false := by decide) (he : starEach (e :: es) X.env = (false, eval e X.env) :: starEach es X.env := by rfl) (hpl : (backTo pos (starEach es X.env)).any (·.1) = false := by rfl) : SN X cl W (.Call (.Name x p) (e :: es) [] pos) (eMake (m c) ax) :=
  PE.weak (pe_makeS M F hr hg hm hb tk ha hdb he hpl) fun σ H Q ⟨G0, H0, S, ρ, G, R, h⟩ => by
    refine tX.bind (Pa := PA1 X.K cl bm) pnM R h fun ds vs S1 G1 H1 R1 s1 p1 h1 => ?_
    intro y dx hy hdx ne
    exact ⟨G1.out, S1, ds, y, dx, vs, H1, rfl, rfl, hy, hdx, ne, R1.leave.1, out_only, ArgsOk.out p1, make_sem R1 h1⟩
end
section
variable {X : Cx} {cl : ClsP} {W : WX} {x n : Str} {c : Value} {i : Nat} {body suite : List Stmt} {first : Stmt} {np pos pos' : Pos} {s1 s2 : Stm} {hit : HTab}
inductive HdsS (X : Cx) (cl : ClsP) : List ExceptHandler → List (HTab × Stm) → List (Value × (Addr → Value → Option Addr → TS)) → Prop
  | nil : HdsS X cl [] [] []
  | cons {x : Str} {c : Value} {first : Stmt} {suite : List Stmt} {np pos' : Pos} {hit : HTab} {s2 : Stm} {hds : List ExceptHandler} {l : List (HTab × Stm)} {l' : List (Value × (Addr → Value → Option Addr → TS))} (hc : Names X x c) (hh : HitOk X.K cl hit c)
      (hsu : ∀ (e : Addr) (oe : Obj) (pn : List (Addr × Obj)), SSs (X.suite e ((e, oe) :: pn)) cl W0 (first :: suite) s2) (r : HdsS X cl hds l l') :
      HdsS X cl (.ExceptHandler (some (.Name x np)) none (first :: suite) pos' :: hds) ((hit, s2) :: l) ((c, fun _ _ _ => tS X.K cl W0 s2) :: l')
theorem HdsS.ok {hds : List ExceptHandler} {l : List (HTab × Stm)} {l' : List (Value × (Addr → Value → Option Addr → TS))} (h : HdsS X cl hds l l') : L2.HdsOk X hds l' := by
  induction h with
  | nil => exact .nil
  | cons hc hh hsu r ih => exact .cons hc (fun a oe cls d pn _ _ => hsu a oe pn) ih
end
section
variable {X : Cx} {cl : ClsP} {W : WX} {e o a b : Expr} {es : List Expr} {c co ca cb : Ex} {ta tb : Tx} {pos : Pos} {fl : FTab}
variable {k : Nat} {f : Addr} {fd : FuncData} {ps : List Str} {bm : List Bool} {x : Str} {p : Pos} {ax : Ax}
end
section
variable {P : Program} {w : World} {K : PySem.W.Frag} {mg : Str → Option Value} {base : Heap} {k : Nat} {f : Addr} {fd : FuncData} {ps : List Str} {sp : Sp}
end
section
variable {X : Cx} {cl : ClsP} {mn : Str} {bm : List Bool} {mt : MTab}
end
end C
open PySem PySem.Spec PyProof.Rows L2
namespace C
open PySem PySem.Spec PyProof.Rows L2
section
variable {X : Cx} {cl : ClsP} {W : WX} {x : Str} {c : Value} {body suite : List Stmt} {first : Stmt} {np pos pos' : Pos} {s1 s2 : Stm} {hit : HTab}
end
end C
end PM
set_option maxHeartbeats 1000000
namespace PM
open PySem PySem.Spec PyProof.Rows L2 PySem.Froz
structure TxS (P : Program) (w : World) (h : Heap) (c : Addr) (D : SD) (l : List Str) : Prop where
  ob : h.get? c = some (sObj "set" D)
  tx : TxOk P w D l
  nd : l.Nodup
  rs : Ris D.2.2.place.toList
  ld : w.params.followText "set-order" = true ∨ D.2.2.led = true
section
variable {P : Program} {w : World} {A : Around} {E : Value → Shared → Prop} {s : Shared} {h h' : Heap} {c : Addr} {D : SD} {l : List Str}
theorem TxS.keep (T : TxS P w h c D l) (k : ∀ o, h.get? c = some o → h'.get? c = some o) : TxS P w h' c D l := ⟨k _ T.ob, T.tx, T.nd, T.rs, T.ld⟩
abbrev led0 (w : World) : SetTable := .fresh 0 0 (!w.params.followText "set-order")
theorem TxS.fresh (ho : h.get? c = some (sObj "set" (#[], 0, led0 w))) : TxS P w h c (#[], 0, led0 w) [] :=
  ⟨ho, TxOk.nil rfl, List.nodup_nil, List.Pairwise.nil, by
    show _ ∨ (!w.params.followText "set-order") = true
    cases w.params.followText "set-order" <;> simp⟩
theorem tail_walk {ep : Nat} {es : Array (Int × Value)} {t : SetTable} {wd : Bool} (r : Ris t.place.toList) (q : w.params.followText "set-order" = true ∨ t.led = true) : Ris (tailTx ep es t wd).2.2.place.toList ∧ (w.params.followText "set-order" = true ∨ (tailTx ep es t wd).2.2.led = true) := by
  unfold tailTx
  split
  · exact ⟨relayAll_ris t es _, q.imp id fun z => (relayAll_led t es _).trans z⟩
  · exact ⟨r, q⟩
theorem add_walk {x : Int} {v : Value} (r : Ris D.2.2.place.toList) (q : w.params.followText "set-order" = true ∨ D.2.2.led = true) : Ris (addTx x v D).2.2.place.toList ∧ (w.params.followText "set-order" = true ∨ (addTx x v D).2.2.led = true) := by
  have a := layNew_ris D.2.2 D.1 x v r
  have b := layNew_led D.2.2 D.1 x v
  unfold addTx
  refine tail_walk ?_ ?_
  · split <;> exact a
  · split <;> exact q.imp id fun z => b.trans z
theorem txs_add {k : Str} {u : Tok} {Q : Bool → Shared → Prop} (T : TxS P w s.heap c D l) (hb : l.length + 1 < scanBound)
    (hQ : ∀ b h' D' l', Heap.SameBut c s.heap h' → TxS P w h' c D' l' → l' = (if k ∈ l then l else k :: l) → Q b { s with heap := h' }) : wpAny (model P w) A (setAddHashed c (.str k u) (hashStr w k)) Q E s := by
  by_cases hk : k ∈ l
  · obtain ⟨es, ep, t⟩ := D
    obtain ⟨ob, tx, nd, rs, ld⟩ := T
    have sz : es.size = l.length := tx.sz
    have fit : t.fits es.size = true := tx.fit
    have el : ElemsOf (strKind P w) es.toList := tx.el
    unfold setAddHashed setAddHashedIn
    refine wpAny_holding (wpAny_bind (wpAny_setState_of ob rfl fit ?_))
    dsimp only
    rw [byScan_of (show (Value.str k u).scannable = true from rfl) (by omega) el, if_pos rfl]
    unfold setAddByScan
    refine wpAny_bind (wpAny_bind (wpAny_rule (wpAny_bind (wpAny_setScan_of (knd := strKind P w) (k := k) (is_str k u) ob rfl fit el ?_))))
    obtain ⟨e0, he, hq⟩ := (tx.mem k).mp hk
    cases hf : List.findIdx? (fun e => (strKind P w).is k e.2) es.toList with
    | none =>
      have := List.findIdx?_eq_none_iff.mp hf e0 he
      rw [hq] at this
      cases this
    | some j =>
      dsimp only
      exact wpAny_pure (wpAny_pure (hQ _ _ (es, ep, t) l (Heap.SameBut.refl c s.heap) ⟨ob, tx, nd, rs, ld⟩ (by rw [if_pos hk])))
  · refine add_x T.ob T.tx hk hb ?_
    have ho : (s.heap.update c (fun _ => sObj "set" (addTx (hashStr w k) (.str k u) D))).get? c = some (sObj "set" (addTx (hashStr w k) (.str k u) D)) := get_upd _ T.ob rfl
    obtain ⟨a1, a2⟩ := add_walk (w := w) (x := hashStr w k) (v := .str k u) T.rs T.ld
    exact hQ _ _ _ (k :: l) (Heap.SameBut.update s.heap c _) ⟨ho, add_ok u T.tx, List.nodup_cons.mpr ⟨hk, T.nd⟩, a1, a2⟩ (by rw [if_neg hk])
end
structure Seen (xs : List Str) (i : Nat) (l : List Str) : Prop where
  mem : ∀ k, k ∈ l ↔ k ∈ xs.take i
  len : l.length ≤ i
theorem Seen.zero (xs : List Str) : Seen xs 0 [] := ⟨fun k => by simp, Nat.le_refl _⟩
theorem Seen.next {xs : List Str} {i : Nat} {l : List Str} {k : Str} (g : Seen xs i l) (hk : xs[i]? = some k) : Seen xs (i + 1) (if k ∈ l then l else k :: l) := by
  have e : xs.take (i + 1) = xs.take i ++ [k] := by
    obtain ⟨hi, rfl⟩ := List.getElem?_eq_some_iff.mp hk
    exact List.take_succ_eq_append_getElem hi
  have hl := g.len
  by_cases c : k ∈ l
  · rw [if_pos c]
    refine ⟨fun z => ?_, by omega⟩
    rw [e, List.mem_append, List.mem_singleton, g.mem z]
    exact ⟨.inl, fun q => q.elim id fun q => (g.mem z).mp (q ▸ c)⟩
  · rw [if_neg c]
    refine ⟨fun z => ?_, by rw [List.length_cons]; omega⟩
    rw [e, List.mem_append, List.mem_singleton, List.mem_cons, g.mem z]
    exact Or.comm
section
variable {P : Program} {w : World} {A : Around} {E : Value → Shared → Prop} {s : Shared}
theorem txs_loop {I : Addr} {fp wr : List Addr} {G : Array GenState → Array GenState → Prop} {n : Nat} {Pv : Nat → Value → Prop} {St : Nat → Shared → Prop} {R : Result → Shared → Prop} (W : WalksS P w A.in1 I fp wr G n Pv St) (c : Addr) (off : c ∉ fp)
    (xs : List Str) (hn : n = xs.length) (room : xs.length + 1 < scanBound) (hv : ∀ i v, Pv i v → ∃ x u, xs[i]? = some x ∧ v = .str x u) :
    ∀ (todo i : Nat) (s : Shared), n - i = todo → i ≤ n → St i s → (∃ D l, TxS P w s.heap c D l ∧ Seen xs i l) → (∀ s' D l, Moved (c :: wr) G s s' → TxS P w s'.heap c D l → Seen xs n l → R (.ok (.ret .none)) s') →
      codeAny (model P w) A (.builtin "set.update.loop" ⟨[.ref c, .ref I], []⟩) R s := by
  have offw : c ∉ wr := fun z => off (W.sub _ z)
  have wider : ∀ b ∈ wr, b ∈ c :: wr := fun b z => List.mem_cons_of_mem _ z
  intro todo
  induction todo with
  | zero =>
    rintro i s0 hk hi st ⟨D, l, T, g⟩ done
    cases (show i = n by omega)
    refine codeAny_builtin F.entry_set_update_loop ?_
    rw [Around.under_plainId F.plain_set_update_loop _]
    show wpAny _ A.in1 (pyNext (.ref I) >>= _) _ _ s0
    exact wpAny_bind (W.done s0 _ _ st fun s2 mv => wpAny_pure (done s2 D l (mv.mono wider) (T.keep fun o e => mv.heap c o offw e) g))
  | succ todo ih =>
    rintro i s0 hk hi st ⟨D, l, T, g⟩ done
    have hlt : i < n := by omega
    refine codeAny_builtin F.entry_set_update_loop ?_
    rw [Around.under_plainId F.plain_set_update_loop _]
    show wpAny _ A.in1 (pyNext (.ref I) >>= _) _ _ s0
    refine wpAny_bind (W.item i s0 _ _ hlt st fun v s2 pv st2 mv => ?_)
    obtain ⟨x, u, hx, rfl⟩ := hv i v pv
    have T2 := T.keep (h' := s2.heap) fun o e => mv.heap c o offw e
    show wpAny _ A.in1 (holding [Value.str x u] (setAdd c (.str x u)) >>= _) _ _ s2
    refine wpAny_bind (wpAny_holding ?_)
    unfold setAdd
    refine wpAny_holding (wpAny_bind ((strKind P w).pyHash (k := x) (is_str x u) ?_))
    refine txs_add (s := { s2 with toks := s2.toks + 1 }) T2 (by have := g.len; omega) fun b h3 D3 l3 sb T3 e3 => ?_
    subst e3
    have st3 : St (i + 1) { s2 with heap := h3, toks := s2.toks + 1 } := W.frame _ s2 _ _ st2 (Nat.le_succ _) fun b hb o e => by
      rw [sb.2 b fun z => off (z ▸ hb)]
      exact e
    refine wpAny_pure ⟨plainId_quiet F.plain_set_update_loop _, ih (i + 1) _ (by omega) hlt st3 ⟨D3, _, T3, g.next hx⟩ fun s4 D4 l4 mv4 T4 g4 => ?_⟩
    refine done s4 D4 l4 (Moved.trans W.gtrans ((mv.mono wider).then_heap (Nat.le_succ _) fun b o hb e => ?_) mv4) T4 g4
    rw [sb.2 b fun z => hb (z ▸ List.mem_cons_self)]
    exact e
theorem strs_ix : ∀ {us : List Value} {xs : List Str}, StrsAre us xs → ∀ (i : Nat) (v : Value), us[i]? = some v → ∃ x u, xs[i]? = some x ∧ v = .str x u
  | _, _, .nil, i, v, h => by simp at h
  | _, _, .cons n t r, 0, v, h => by simp at h; exact ⟨n, t, rfl, h.symm⟩
  | _, _, .cons n t r, i + 1, v, h => by
    simp only [List.getElem?_cons_succ] at h ⊢
    exact strs_ix r i v h
set_option maxRecDepth 100000 in
set_option maxHeartbeats 3200000 in
theorem txs_of {c : Addr} {its : Array Value} (xs : List Str) {Q : Value → Shared → Prop} (cold : A.handled = none) (hl : s.heap.IsList c its) (hx : StrsAre its.toList xs) (room : xs.length + 1 < scanBound)
    (hQ : ∀ (h' : Heap) (tk : Nat) D l, TxS P w h' s.heap.objs.size D l → Seen xs xs.length l → (∀ b o, s.heap.get? b = some o → h'.get? b = some o) → Q (.ref s.heap.objs.size) { s with heap := h', toks := tk }) :
    wpAny (model P w) A (call (.type "set") [.ref c]) Q E s := by
  have isz : its.size = xs.length := by rw [← Array.length_toList]; exact hx.length
  obtain ⟨k0, k1, mro⟩ := F.called_set.mro
  have ok1 := F.called_set.made
  have ok2 := F.called_set.sub
  have ok3 := F.called_set.notType
  have ok4 := F.called_set.canCreate
  have ok5 := F.typeCall_set_1 (.ref c)
  refine wpAny_call (codeAny_of_tree (wpAny_pure ⟨Code.quiet_builtin _ (by decide +kernel), codeAny_builtin F.entry_type_call ?_⟩))
  rw [Around.under_plain (weight_type_call_type "set" [.ref c] []) rfl]
  repeat (any_goals first | assumption | wp_step)
  refine codeAny_mono (code_set_led1 (.ref c) (E := E) (Q₁ := fun v s₁ => v = .ref s.heap.objs.size ∧ s₁ = { s with heap := s.heap.push (sObj "set" (#[], 0, led0 w)) }) ⟨rfl, rfl⟩) fun r s₁ hr => ?_
  rcases r with e | fl
  · exact hr
  · cases fl with
    | ret v =>
      obtain ⟨rfl, rfl⟩ := hr
      have at0 : (s.heap.push (sObj "set" (#[], 0, led0 w))).get? s.heap.objs.size = some (sObj "set" (#[], 0, led0 w)) := Heap.get?_push_size _ rfl
      have ty0 : Shared.TypeIs { s with heap := s.heap.push (sObj "set" (#[], 0, led0 w)) } (.ref s.heap.objs.size) "set" := ⟨_, at0, rfl⟩
      have ok6 := F.called_set.init.lookup
      have ok7 := F.called_set.init.bind (.ref s.heap.objs.size)
      repeat (any_goals first | assumption | wp_step)
      refine codeAny_mono (codeAny_call_builtin (R := wants (fun r s₂ => r = .none ∧ ∃ h' tk D l, s₂ = { s with heap := h', toks := tk } ∧ TxS P w h' s.heap.objs.size D l ∧ Seen xs xs.length l ∧ ∀ b o, s.heap.get? b = some o → h'.get? b = some o) E) F.called_set.init.plain F.entry_set_init (check_set_init_1 ty0 ?_)) fun r₂ s₂ hr₂ => ?_
      · obtain ⟨o1, at1, cl1, n1, d1⟩ := hl
        obtain ⟨oc, od, oa, os⟩ := o1
        cases (show oc = .type "list" from cl1)
        cases (show oa = .seq its n1 from d1)
        have at2 : (s.heap.push (sObj "set" (#[], 0, led0 w))).get? c = some { cls := .type "list", dict := od, data := .seq its n1, slots := os } := Heap.get?_push_of_some _ at1
        have li2 : (s.heap.push (sObj "set" (#[], 0, led0 w))).IsList c its := ⟨_, at2, rfl, n1, rfl⟩
        have no1 := F.sub_list_set
        have no2 := F.sub_list_frozenset
        have no3 : (Value.type "list" == Value.type "dict") = false := by decide
        unfold Builtin.«set.__init__» noKeywords Builtin.Frozenset.updateFrom
        generalize hPI : pyIter = PI
        wp_walk
        subst hPI
        refine wpAny_pyIter_list li2 (wpAny_bind (wpAny_runValue ?_))
        have clt : c < s.heap.objs.size := Heap.lt_size at1
        have cold3 : A.in1.in1.in1.handled = none := by simp [cold]
        have ne1 : c ≠ (s.heap.push (sObj "set" (#[], 0, led0 w))).objs.size := by
          rw [Heap.size_push]
          exact Nat.ne_of_lt (Nat.lt_succ_of_lt clt)
        have ne2 : s.heap.objs.size ∉ [(s.heap.push (sObj "set" (#[], 0, led0 w))).objs.size, c] := by
          rw [Heap.size_push]
          simp only [List.mem_cons, List.not_mem_nil, or_false, not_or]
          exact ⟨Nat.ne_of_lt (Nat.lt_succ_self _), Nat.ne_of_gt clt⟩
        refine txs_loop ((Walks.list cold3 _ c ne1 its).toS) s.heap.objs.size ne2 xs isz room (fun i v e => strs_ix hx i v (by rw [Array.getElem?_toList]; exact e)) (its.size - 0) 0 _ rfl (Nat.zero_le _) ⟨⟨_, Heap.get?_push_size _ rfl, rfl, rfl⟩, (li2.push _)⟩ ⟨_, [], TxS.fresh (Heap.get?_push_of_some _ at0), Seen.zero xs⟩ fun s' D l mv T g => ?_
        obtain ⟨h3, g3, d3, t3, o3⟩ := s'
        cases (show g3 = s.gens from mv.gens)
        cases (show d3 = s.drawn from mv.drawn)
        cases (show o3 = s.os from mv.os)
        rw [isz] at g
        have old : ∀ b o, s.heap.get? b = some o → h3.get? b = some o := fun b o e => by
          have lt := Heap.lt_size e
          have e2 : ((s.heap.push (sObj "set" (#[], 0, led0 w))).push { cls := .type "list_iterator", data := .fields #[.ref c, .int 0 0] }).get? b = some o := Heap.get?_push_of_some _ (Heap.get?_push_of_some _ e)
          refine mv.heap b o (fun z => ?_) e2
          rcases List.mem_cons.mp z with z | z
          · exact absurd lt (by rw [z]; exact Nat.lt_irrefl _)
          · rw [List.mem_singleton.mp z, Heap.size_push] at lt
            exact absurd (Nat.lt_of_succ_lt lt) (Nat.lt_irrefl _)
        show wpAny _ _ _ _ _ _
        refine wpAny_pure ?_
        exact wpAny_pure ⟨rfl, h3, t3, D, l, rfl, T, g, old⟩
      · rcases r₂ with e | fl₂
        · exact hr₂
        · cases fl₂ with
          | ret v =>
            obtain ⟨rfl, h', tk, D, l, rfl, T, g, old⟩ := hr₂
            repeat (any_goals first | assumption | wp_step)
            exact hQ _ _ _ _ T g old
          | _ => exact hr₂.elim
    | _ => exact hr.elim
end
end PM
set_option maxHeartbeats 1000000
namespace PM
open PySem PySem.Spec PyProof.Rows L2 PySem.Froz
theorem perm_in {α : Type} [DecidableEq α] : ∀ (l K : List α), l.Nodup → (∀ k ∈ l, k ∈ K) → K.length ≤ l.length → l.Perm K
  | [], K, _, _, h => by
    have : K = [] := List.length_eq_zero_iff.mp (Nat.le_zero.mp h)
    rw [this]
  | x :: l, K, nd, sub, h => by
    have hx := sub x (by simp)
    obtain ⟨n1, n2⟩ := List.nodup_cons.mp nd
    have p := List.perm_cons_erase hx
    have e := p.length_eq
    rw [List.length_cons] at e h
    exact (List.Perm.cons x (perm_in l (K.erase x) n2 (fun k hk => (List.mem_erase_of_ne (show k ≠ x from fun z => n1 (z ▸ hk))).mpr (sub k (by simp [hk]))) (by omega))).trans p.symm
def SetS (P : Program) (w : World) (c : Addr) (l : List Str) : HO := .ext fun h => ∃ D, TxS P w h c D l
section
variable {P : Program} {w : World} {A : Around} {E : Value → Shared → Prop} {s : Shared} {H : Hp} {h : Heap} {c : Addr} {D : SD} {l : List Str}
theorem setS_new (T : TxS P w h c D l) : ObjOk P w H h c (SetS P w c l) := ⟨⟨D, T⟩, ⟨_, T.ob⟩, fun h1 h2 ⟨D, T⟩ k => ⟨D, T.keep k⟩⟩
def txOf (v : Value) : Str := match v with
  | .str x _ => x
  | _ => Str.empty
theorem txs_strs : ∀ (vs : List Value), (∀ v ∈ vs, ∃ x u, v = Value.str x u) → StrsAre vs (vs.map txOf)
  | [], _ => .nil
  | v :: vs, hv => by
    obtain ⟨x, u, rfl⟩ := hv v (by simp)
    exact .cons x u (txs_strs vs fun z hz => hv z (by simp [hz]))
theorem TxS.vals (T : TxS P w h c D l) {vs : List Value} (p : vs.Perm (D.1.toList.map (·.2))) : ∃ ks, StrsAre vs ks ∧ ks.Perm l := by
  have sh : ∀ e ∈ D.1.toList, ∃ x u, e.2 = Value.str x u := fun e he => by
    obtain ⟨⟨k, hk, _⟩, _⟩ := T.tx.el e he
    obtain ⟨u, eu⟩ := Value.isStrOf_shape (x := k) (v := e.2) hk
    exact ⟨k, u, eu⟩
  have sv : ∀ v ∈ vs, ∃ x u, v = Value.str x u := fun v hv => by
    obtain ⟨e, he, rfl⟩ := List.mem_map.mp (p.mem_iff.mp hv)
    exact sh e he
  refine ⟨vs.map txOf, txs_strs vs sv, (perm_in l (vs.map txOf) T.nd (fun k hk => ?_) ?_).symm⟩
  · obtain ⟨e, he, hq⟩ := (T.tx.mem k).mp hk
    obtain ⟨u, eu⟩ := Value.isStrOf_shape (x := k) (v := e.2) hq
    exact List.mem_map.mpr ⟨e.2, p.mem_iff.mpr (List.mem_map.mpr ⟨e, he, rfl⟩), by rw [eu]; rfl⟩
  · rw [List.length_map, p.length_eq, List.length_map, Array.length_toList, T.tx.sz]
    exact Nat.le_refl _
theorem txs_sorted {Q : Value → Shared → Prop} (T : TxS P w s.heap c D l) (cold : A.handled = none) (h64 : l.length < 64)
    (hQ : ∀ s' p (out : Array Value) (n : Nat) (ys : List Str), (∀ b o, s.heap.get? b = some o → s'.heap.get? b = some o) → s'.gens = s.gens → s'.os = s.os → s.heap.objs.size ≤ p → s'.heap.get? p = some (seqObj "list" out n) → StrsAre out.toList ys → ys.Perm l → sortedS ys = true → Q (.ref p) s') :
    wpAny (model P w) A (call (.builtin "sorted") [.ref c]) Q E s := by
  have sz : D.1.size = l.length := T.tx.sz
  refine Calls.call_function_entry kind_sorted plain_sorted entry_sorted (args_sorted1 _) ?_
  unfold Builtin.«sorted»
  refine wpAny_bind (m := checkCount "sorted" 1 1 _) (wpAny_pure (wpAny_bind (collect_set (A := A.in1) cold ⟨_, T.ob, rfl, rfl⟩ T.tx.fit (by unfold scanBound; omega) T.rs T.ld fun s1 vs old hz g1 o1 pm => ?_)))
  obtain ⟨ks, hks, hp⟩ := T.vals pm
  have hvl : vs.length = l.length := hks.length.trans hp.length_eq
  refine wpAny_bind (wpAny_newList ?_ (by rw [hvl, sizeLine_eq]; omega))
  have at1 : (s1.heap.push (seqObj "list" vs.toArray 0)).get? s1.heap.objs.size = some (seqObj "list" vs.toArray 0) := Heap.get?_push_size _ rfl
  refine wpAny_bind (wpAny_holding (wpAny_call_entry slot_list_sort ⟨_, at1, rfl⟩ entry_list_sort (list_sort_treeK strKind_oneLt at1 hks.keysOf (fun v₁ v₂ rest e => keyKind_strs (by rw [← e]; exact hks)) (by rw [hvl]; exact h64) fun st' a1 a2 => ⟨_, rfl, ?_⟩) (args_list_sort _)))
  obtain ⟨ys, b1, b2, b3⟩ := sorted_out_str hks a1 a2
  obtain ⟨n, at2⟩ := sortedHeap_at (vs := vs) (out := (arrOf st').map (·.2)) at1
  refine wpAny_pure ⟨_, rfl, hQ _ s1.heap.objs.size _ n ys (fun b o e => ?_) g1 o1 hz at2 b1 (b2.trans hp) b3⟩
  have e1 := old b o e
  have lt := Heap.lt_size e1
  show (sortedHeap (s1.heap.push (seqObj "list" vs.toArray 0)) s1.heap.objs.size vs ((arrOf st').map (·.2))).get? b = some o
  rw [sortedHeap_old (Nat.ne_of_lt lt) (by rw [size_push']; exact Nat.lt_succ_of_lt lt)]
  exact Heap.get?_push_of_some _ e1
end
section
variable {X : Cx}
theorem call_setTx (hc : X.calm = true) : CallR X (.type "set") (fun xs H Q => ∃ (a : Addr) (zs : List Str), xs = [.ref a] ∧ H a = some (.lst (zs.map V.str)) ∧ zs.length < 64 ∧ ∀ l p, (∀ k, k ∈ l ↔ k ∈ zs) → l.Nodup → l.length ≤ zs.length → H p = none → Q (.ref p) (upd H p (SetS X.prog X.w p l))) := by
  intro pins s σ H xs us Q I r q
  obtain ⟨a, zs, rfl, ha, h64, q⟩ := q
  obtain ⟨u, rfl, rx⟩ := vals1 r
  cases rx
  obtain ⟨hz, its, n, rv, hob⟩ := (show ObjOk X.prog X.w H s.heap a (.lst (zs.map V.str)) from I.hok a _ ha)
  refine txs_of (its := its.toArray) zs (I.ok.hd hc) ⟨_, hob, rfl, n, rfl⟩ rv.strs (by unfold scanBound; omega) fun h' tk D l T g old => ?_
  have hn : H s.heap.objs.size = none := I.hok.fresh (Nat.le_refl _)
  exact ⟨.ref s.heap.objs.size, upd H s.heap.objs.size (SetS X.prog X.w s.heap.objs.size l), I.laid (t' := tk) old (Nat.le_refl _) (setS_new T), rfl, q l _ (fun k => by rw [g.mem k, List.take_length]) T.nd g.len hn⟩
theorem call_sortTx (hc : X.calm = true) : CallR X (.builtin "sorted") (fun xs H Q => ∃ (a : Addr) (l : List Str), xs = [.ref a] ∧ H a = some (SetS X.prog X.w a l) ∧ l.length < 64 ∧ ∀ ys p, ys.Perm l → sortedS ys = true → H p = none → Q (.ref p) (upd H p (.lst (ys.map V.str)))) := by
  intro pins s σ H xs us Q I r q
  obtain ⟨a, l, rfl, ha, h64, q⟩ := q
  obtain ⟨u, rfl, rx⟩ := vals1 r
  cases rx
  obtain ⟨⟨D, T⟩, _, _⟩ := (show ObjOk X.prog X.w H s.heap a (SetS X.prog X.w a l) from I.hok a _ ha)
  refine txs_sorted T (I.ok.hd hc) h64 fun s' p out n ys old g o hp at1 hy pm so => ?_
  have hl : (ys.map V.str).length ≤ sizeLine := by rw [List.length_map, pm.length_eq, sizeLine_eq]; omega
  have hn : H p = none := I.hok.fresh hp
  have J : Inv X pins σ (upd H p (.lst (ys.map V.str))) { s with heap := s'.heap, gens := s'.gens, drawn := s'.drawn, toks := s'.toks } := I.call (ch := []) (Un.laid old hp hn) (I.hok.laid old hp ⟨hl, out.toList, n, vals_of_strs hy, by rw [Array.toArray_toList]; exact at1⟩) (by rw [g]; exact I.bare) (fun _ z => nomatch z)
  have e : s' = { s with heap := s'.heap, gens := s'.gens, drawn := s'.drawn, toks := s'.toks } := by
    obtain ⟨a1, a2, a3, a4, a5⟩ := s'
    cases (show a5 = s.os from o)
    rfl
  rw [e]
  exact ⟨.ref p, _, J, rfl, q ys p pm so hn⟩
end
def dedS : List Str → List Str
  | [] => []
  | x :: r => if x ∈ dedS r then dedS r else x :: dedS r
theorem dedS_mem (k : Str) : ∀ xs : List Str, k ∈ dedS xs ↔ k ∈ xs
  | [] => by simp [dedS]
  | x :: r => by
    have ih := dedS_mem k r
    unfold dedS
    split
    · rename_i h
      rw [List.mem_cons, ih]
      exact ⟨.inr, fun q => q.elim (fun e => by rw [e]; exact (dedS_mem x r).mp h) id⟩
    · rw [List.mem_cons, List.mem_cons, ih]
theorem dedS_nd : ∀ xs : List Str, (dedS xs).Nodup
  | [] => List.nodup_nil
  | x :: r => by
    unfold dedS
    split
    · exact dedS_nd r
    · rename_i h
      exact List.nodup_cons.mpr ⟨h, dedS_nd r⟩
theorem nd_perm {a b : List Str} (ha : a.Nodup) (hb : b.Nodup) (h : ∀ k, k ∈ a ↔ k ∈ b) : a.Perm b := by
  have sub : ∀ {x y : List Str}, x.Nodup → (∀ k ∈ x, k ∈ y) → x.length ≤ y.length := fun {x y} => by
    induction x generalizing y with
    | nil => intro _ _; simp
    | cons z x ih =>
      intro nd s
      have hz := s z (by simp)
      have e := (List.perm_cons_erase hz).length_eq
      rw [List.length_cons] at e
      obtain ⟨n1, n2⟩ := List.nodup_cons.mp nd
      have := ih n2 fun k hk => (List.mem_erase_of_ne (show k ≠ z from fun q => n1 (q ▸ hk))).mpr (s k (by simp [hk]))
      rw [List.length_cons]
      omega
  exact perm_in a b ha (fun k hk => (h k).mp hk) (sub hb fun k hk => (h k).mpr hk)
def gSortSet (xs : List Str) : Option (List Str) := if xs.length < 64 then some (srtS (dedS xs)) else none
def eSortSet (ca : Ex) : Ex := fun ρ S => (ca ρ S).bind fun d S => match d with
  | .lst ds => Res.opt ((D.strs ds).bind fun ss => (gSortSet ss).map fun ks => .lst (ks.map D.str)) S
  | _ => .stuck
section
variable {X : Cx} {cl : ClsP} {W : WX} {a : Expr} {ca : Ex}
theorem sn_sortSet {p p2 pos pos2 : Pos} (hc : X.calm = true) (hg : Gl X "sorted") (hm : X.mg "sorted" = none) (hg2 : Gl X "set") (hm2 : X.mg "set" = none) (ha : SB X cl W a ca) (he : starEach [.Call (.Name "set" p2) [a] [] pos2] X.env = (false, eval (.Call (.Name "set" p2) [a] [] pos2) X.env) :: starEach [] X.env := by rfl) (he2 : starEach [a] X.env = (false, eval a X.env) :: starEach [] X.env := by rfl) (hpl : (backTo pos (starEach [] X.env)).any (·.1) = false := by rfl) (hpl2 : (backTo pos2 (starEach [] X.env)).any (·.1) = false := by rfl) :
    SN X cl W (.Call (.Name "sorted" p) [.Call (.Name "set" p2) [a] [] pos2] [] pos) (eSortSet ca) :=
  PE.weak (pe_callB (call_sortTx hc) hg hm (by decide +kernel) (pa_cons (pe_callTy (call_setTx hc) hg2 hm2 (by decide +kernel) (pa_cons ha pa_nil he2) (by decide) (by decide) he2 hpl2) pa_nil he) (by decide) (by decide) he hpl) fun σ H Q ⟨G0, H0, S, ρ, G, R, h⟩ => by
    refine tX.bind (Pa := PB X.K cl) pnM R h fun d x S1 G1 H1 R1 s1 p1 h1 => ?_
    cases d <;> simp only [Aft] at h1
    rename_i ds
    cases q : D.strs ds with
    | none => rw [q] at h1; exact h1.elim
    | some ss =>
      rw [q] at h1
      unfold gSortSet at h1
      by_cases h64 : ss.length < 64
      · simp only [Option.bind_some, if_pos h64, Option.map_some, Res.opt, Aft] at h1
        obtain ⟨a1, vs, rfl, h2, r1⟩ := RepT.lst p1 R1.ok.zsub
        refine ⟨a1, ss, rfl, by rw [← r1.toStrs q]; exact h2, h64, fun l p2 hl nd ln hp2 => ?_⟩
        obtain ⟨R2, s2, hz2⟩ := R1.newF hp2 (SetS X.prog X.w p2 l)
        refine ⟨p2, l, rfl, upd_same, by omega, fun ys p3 pm so hp3 => ?_⟩
        have e : ys = srtS (dedS ss) := srtS_is (pm.trans (nd_perm nd (dedS_nd ss) fun k => (hl k).trans (dedS_mem k ss).symm)) ((sortedS_iff ys).mp so)
        rw [e]
        obtain ⟨R3, s3, n⟩ := R2.newL hp3 (RepAll.strs (K := X.K) (cl := cl) (srtS (dedS ss)))
        exact h1 _ _ _ R3 (s2.trans s3) ⟨p3, [p3], rfl, n, fun b hb => by
          simp at hb
          cases q3 : H1 b with
          | none => rfl
          | some o =>
            by_cases z : b = p2
            · rw [z, hp2] at q3; cases q3
            · subst hb; rw [upd_ne z, q3] at hp3; cases hp3⟩
      · simp only [Option.bind_some, if_neg h64, Option.map_none, Res.opt, Aft] at h1
end
section
variable {X : Cx} {cl : ClsP} {W : WX} {e tg : Expr} {c ca cb : Ex} {pos : Pos}
theorem ss_setLcBx {i : Nat} {y : Str} {py spos : Pos} {elt iter : Expr} {ifs : List Expr} {scope : Scope} {own : List (Str × Nat)} {g : TG} {gt : Tgt} {ci : Ix} {tt : Tx} {ce : Ex} (hc : X.calm = true) (hN : X.N.Nodup) (hy : X.N[i]? = some y) (hyl : X.env.scope.names.lookup y = some .local)
    (hsw : swapsWith (.ListComp elt [⟨tg, iter, ifs, 0⟩] scope pos) (some (.Name y py)) spos.line X.env = pure true) (hi : SI X cl W tg iter ci) (ok : BlkOk X.N X.env.scope scope own)
    (hg : ∀ (s : Shared) (H : Hp) (C : Addr) (cs : List (Str × Addr)) (fp : List Addr), PG (X.blk s H scope (compEnvC scope cs C X.env) fp) tg g) (hgs : TgS X cl g gt) (hgo : TgO g (own.map (·.2)))
    (ht : ∀ (s : Shared) (H : Hp) (C : Addr) (cs : List (Str × Addr)) (fp : List Addr), STs (X.blk s H scope (compEnvC scope cs C X.env) fp) cl W0 ifs tt) (he : ∀ (s : Shared) (H : Hp) (C : Addr) (cs : List (Str × Addr)) (fp : List Addr), SE (X.blk s H scope (compEnvC scope cs C X.env) fp) cl W0 elt ce)
    (hs : ∀ x, foldedSetIterable iter X.env x = pure x := by intro _; rfl) : SS X cl W (.Assign [.Name y py] (.ListComp elt [⟨tg, iter, ifs, 0⟩] scope pos) spos) (sSet i (eBox (eLc (own.map (·.2)) ci gt tt ce))) := PS.weak (ps_setLc (tt := tX X.K cl PT1 W0 tt) (te := tX X.K cl (PF X.K cl) W0 ce) hc hN hy hyl hsw hi ok hg ht he hs) fun D σ H ⟨G0, H0, S, ρ, G, R, h⟩ => by
  refine ⟨G0, H0, S, ρ, G, R, ?_⟩
  unfold sSet sEx eBox eLc at h
  cases q : ci ρ S with
  | exc n S' => simp only [q, Res.bind] at h; exact fun G' H' R' s => h G' σ H' R' s.zle
  | stuck => simp only [q, Res.bind] at h; exact h
  | ok ds S1 =>
    simp only [q, Res.bind] at h
    intro J G1 H1 R1 s1 it L hL
    refine lc_sem (W := W) (Q := fun x H1 => gName i x σ H1 D.nx) (tt := tt) (elt := ce) R1 s1 it hgs hgo ?_ L hL
    cases q2 : lcS gt tt ce (wipeE ρ (own.map (·.2))) ds [] S1 with
    | exc n S2 => simp only [q2, Res.bind] at h; exact fun G' H' R' s => h G' σ H' R' s.zle
    | stuck => simp only [q2, Res.bind] at h; exact h
    | ok d S2 =>
      simp only [q2, Res.bind] at h
      rintro v G' H' R' s ⟨a, as, rfl, n, hn⟩
      obtain ⟨R2, s2, rp⟩ := R'.newCell (c := .box d) n R.stp s hn
      exact h _ _ H' (R2.setF i rp) s2.zle
variable {o : Expr} {co : Ex}
theorem ss_popS0 {apos cpos : Pos} (hv : SB X cl W o co)
    (hbase : attributeBase o "pop" X.env (eval o X.env) = eval o X.env := by rfl) (hline : (apos.endLine == cpos.line) = true := by rfl)
    (hsw : swapsWith (.Call (.Attribute o "pop" apos) [] [] cpos) none pos.line X.env = pure false := by rfl) : SS X cl W (.Expr (.Call (.Attribute o "pop" apos) [] [] cpos) pos) (sLmS lPop co aNil) :=
  PS.weak (ps_expr (pe_bm0 PySem.F.plainAttrs_list PySem.F.slot_list_pop PySem.F.type_list_pop mt_pop hv hbase hline) hsw) fun D σ H ⟨G0, H0, S, ρ, G, R, h⟩ => by
    unfold sLmS at h
    refine sEx_at (P := PB X.K cl) R h fun S1 d v G1 H1 R1 s1 p1 q1 => ?_
    cases d with
    | rf n =>
      simp only at q1
      split at q1
      · rename_i ds0 q0
        obtain ⟨a, rfl, hmu⟩ := RepT.rfn p1
        obtain ⟨vs0, h0, r0, l0⟩ := box_at R1 hmu q0
        refine ⟨.inl ⟨rfl, vs0, .inl (.inl h0)⟩, ?_⟩
        simp only [sEx, aNil, q0] at q1
        cases q3 : lPop ds0 [] with
        | none => rw [q3] at q1; exact q1.elim
        | some ds' =>
          rw [q3] at q1
          unfold lPop at q3
          split at q3
          · cases q3
          · rename_i hz
            cases q3
            have hl := r0.length
            have hy : vs0[vs0.length - 1]? = some (vs0[vs0.length - 1]'(by omega)) := List.getElem?_eq_getElem (by omega)
            exact ⟨a, vs0, _, rfl, rfl, h0, hy, q1 G1 σ _ (R1.setCell (as := [a]) (fun b hb => by simp at hb; subst hb; exact l0) (by simp) hmu (List.getElem?_eq_some_iff.mp q0).1 (c' := .box (.lst ds0.dropLast)) (.lst upd_same (by rw [List.dropLast_eq_take, List.dropLast_eq_take, hl]; exact r0.take _))).1 (Zle.refl _)⟩
      · exact q1.elim
    | _ => exact q1.elim
end
end PM
set_option maxHeartbeats 1000000
namespace PM
open PySem PySem.Spec PyProof.Rows L2

inductive Nth : Env → Nat → Slot → Prop
  | z {s : Slot} {l : Env} : Nth (s :: l) 0 s
  | s {a s : Slot} {l : Env} {n : Nat} : Nth l n s → Nth (a :: l) (n + 1) s
inductive SetR : Env → Nat → Slot → Env → Prop
  | z {a s : Slot} {l : Env} : SetR (a :: l) 0 s (s :: l)
  | s {a s : Slot} {l l' : Env} {n : Nat} : SetR l n s l' → SetR (a :: l) (n + 1) s (a :: l')
theorem Nth.eq {l : Env} {n : Nat} {s : Slot} (h : Nth l n s) : l[n]? = some s := by
  induction h with
  | z => rfl
  | s _ ih => simpa using ih
theorem SetR.eq {l l' : Env} {n : Nat} {s : Slot} (h : SetR l n s l') : l.set n s = l' := by
  induction h with
  | z => rfl
  | s _ ih => simp [ih]

section
variable {ρ ρ' : Env} {S S1 S2 S3 : Store} {c ca cb cc : Ex} {d e u z : D} {i n : Nat} {ta tb : Tx} {k p q : Bool} {ax : Ax} {ds : List D} {r : Res D}

section
variable {rb : Res Bool}
end
variable {Q : SR → Prop} {a b : Stm} {tg : Tgt}
structure Run (c : Stm) (ρ : Env) (S : Store) (Q : SR → Prop) : Prop where
  run : Q (c ρ S)
end
end PM
namespace PM
open PySem PySem.Spec PyProof.Rows L2
section
variable {ρ ρ' : Env} {S S1 : Store} {Q : SR → Prop} {a : Stm} {tg : Tgt} {i : Nat} {d : D} {v : Val}
section
variable {P : Env → Store → Prop}
end
theorem tg_N (h : SetR ρ i (.fr d) ρ') : gN i d ρ = some ρ' := by rw [← h.eq]; rfl
end
end PM
namespace PM
end PM
namespace PM
open PySem PySem.Spec PyProof.Rows L2
inductive UnR : Nat → Env → Prop
  | z : UnR 0 []
  | s {k : Nat} {l : Env} : UnR k l → UnR (k + 1) (.un :: l)
inductive StartR : List Bool → List D → Nat → Env → Prop
  | n {k : Nat} {l : Env} : UnR k l → StartR [] [] k l
  | t {bm : List Bool} {d : D} {ds : List D} {k : Nat} {l : Env} : StartR bm ds k l → StartR (true :: bm) (d :: ds) k (.bo d :: l)
  | f {bm : List Bool} {d : D} {ds : List D} {k : Nat} {l : Env} : StartR bm ds k l → StartR (false :: bm) (d :: ds) k (.fr d :: l)
theorem UnR.eq {k : Nat} {l : Env} (h : UnR k l) : List.replicate k .un = l := by
  induction h with
  | z => rfl
  | s _ ih => rw [List.replicate_succ, ih]
theorem StartR.eq {bm : List Bool} {ds : List D} {k : Nat} {l : Env} (h : StartR bm ds k l) : startE bm ds k = l := by
  unfold startE
  induction h with
  | n h => simpa [parE] using h.eq
  | t _ ih => simp [parE, ih]
  | f _ ih => simp [parE, ih]
end PM
namespace PM
open PySem PySem.Spec PyProof.Rows L2
end PM
namespace PM
open PySem PySem.Spec PyProof.Rows L2
end PM
namespace PM
open PySem PySem.Spec PyProof.Rows L2
end PM
set_option maxHeartbeats 1000000
namespace PM
open PySem PySem.Spec PyProof.Rows L2
section
variable {i j : Int} {x y : Str} {xs ys : List D} {d e : D}
theorem dv_addS (h : x.length + y.length ≤ 1000000) : oAdd (.str x) (.str y) = some (.str (x ++ y)) := by simp [oAdd, h]
theorem dv_mulL (h : -(2 ^ 64) < i ∧ i < 2 ^ 64) : oMulI (.int i) (.int j) = some (.int (i * j)) := by simp only [oI, cMul, decide_eq_true (Or.inl h), if_true]
theorem dv_div (h : 0 < j ∧ j < 1073741824) : oDiv (.int i) (.int j) = some (.int (i / j)) := by simp only [oI, cDiv, decide_eq_true h, if_true]
theorem dv_mod (h : 0 < j) : oMod (.int i) (.int j) = some (.int (i % j)) := by simp only [oI, cMod, decide_eq_true h, if_true]
end
end PM
namespace PM
open PySem PySem.Spec PyProof.Rows L2
def S1 (c : Nat) : Str := ⟨#[c]⟩
@[simp] theorem S1_len (c : Nat) : (S1 c).length = 1 := rfl
@[simp] theorem len_add (x y : Str) : (x ++ y).length = x.length + y.length := by
  show (x.cps ++ y.cps).size = _; rw [Array.size_append]; rfl
theorem lit_len (s : String) : (Str.ofString s).length = s.toList.length := by
  rw [Str.ofString_eq_toList]; simp [Str.length]
def Sl (x : Str) : List Nat := x.cps.toList
theorem Sl_len (x : Str) : (Sl x).length = x.length := by simp [Sl, Str.length]
theorem Sl_add (x y : Str) : Sl (x ++ y) = Sl x ++ Sl y := by
  show (x.cps ++ y.cps).toList = _; simp [Sl]
theorem Sl_one (c : Nat) : Sl (S1 c) = [c] := rfl
theorem Sl_inj {x y : Str} (h : Sl x = Sl y) : x = y := by
  cases x; cases y; simp only [Sl] at h; congr 1; exact Array.toList_inj.mp h
def mkS (l : List Nat) : Str := ⟨l.toArray⟩
@[simp] theorem Sl_mk (l : List Nat) : Sl (mkS l) = l := rfl
@[simp] theorem mk_Sl (x : Str) : mkS (Sl x) = x := rfl
@[simp] theorem mk_len (l : List Nat) : (mkS l).length = l.length := by simp [mkS, Str.length]
section
variable {i j : Int} {x y : Str} {xs ys : List D} {d e : D}
theorem ixN_of {n k : Nat} (hn : i = (k : Int)) (h : k < n) : ixN n i = some k := by
  subst hn; simp [ixN, h]
end
end PM
namespace PM
open PySem PySem.Spec PyProof.Rows L2
section
variable {i j : Int} {x y : Str} {xs ys : List D} {d e : D}
end
end PM
set_option maxHeartbeats 1000000
namespace PM
open PySem PySem.Spec PyProof.Rows L2
section
variable {ρ ρ' : Env} {S S1 S2 S3 : Store} {c ca cb cc : Ex} {d e u z : D} {i n k : Nat} {ax : Ax} {ds : List D} {Q : SR → Prop} {fl : FTab} {f : Str} {fs fs' : List (Str × D)}
theorem lk0 {l : List (Str × D)} : List.lookup f ((f, d) :: l) = some d := by simp
theorem lk1 {g : Str} {l : List (Str × D)} (h : (f == g) = false) (t : l.lookup f = some d) : List.lookup f ((g, e) :: l) = some d := by rw [List.lookup_cons, h]; exact t
theorem lkn {g : Str} {l : List (Str × D)} (h : (f == g) = false) (t : l.lookup f = none) : List.lookup f ((g, e) :: l) = none := by rw [List.lookup_cons, h]; exact t
theorem lkn0 : List.lookup f ([] : List (Str × D)) = none := rfl
inductive WipeR : Env → List Nat → Env → Prop
  | nil {l : Env} : WipeR l [] l
  | cons {l l1 l2 : Env} {v : Nat} {vs : List Nat} : WipeR l vs l1 → SetR l1 v .un l2 → WipeR l (v :: vs) l2
theorem WipeR.eq {l l' : Env} {vs : List Nat} (h : WipeR l vs l') : wipeE l vs = l' := by
  induction h with
  | nil => rfl
  | cons h1 h2 ih => unfold wipeE; rw [ih, h2.eq]
end
inductive Pl : Nat → D → Prop
  | non (n : Nat) : Pl n .non
  | bl (n : Nat) (b : Bool) : Pl n (.bl b)
  | int (n : Nat) (b : Int) : Pl n (.int b)
  | str (n : Nat) (b : Str) : Pl n (.str b)
  | lst {n : Nat} {xs : List D} : (∀ x ∈ xs, Pl n x) → Pl (n + 1) (.lst xs)
  | tup {n : Nat} {xs : List D} : (∀ x ∈ xs, Pl n x) → Pl (n + 1) (.tup xs)
theorem pys_of {n : Nat} : ∀ {xs : List D}, (∀ x ∈ xs, ∃ p, x.py = some p ∧ p.depth ≤ n) → ∃ ps, D.pys xs = some ps ∧ PyData.depthAll ps ≤ n
  | [], _ => ⟨[], rfl, by simp [PyData.depthAll]⟩
  | x :: xs, h => by
    obtain ⟨p, h1, h2⟩ := h x (by simp)
    obtain ⟨ps, h3, h4⟩ := pys_of (xs := xs) fun y hy => h y (by simp [hy])
    exact ⟨p :: ps, by simp only [D.pys, h1, h3], by simp only [PyData.depthAll]; omega⟩
theorem Pl.py {n : Nat} {d : D} (h : Pl n d) : ∃ p, d.py = some p ∧ p.depth ≤ n := by
  induction h with
  | non n => exact ⟨_, rfl, Nat.zero_le _⟩
  | bl n b => exact ⟨_, rfl, Nat.zero_le _⟩
  | int n b => exact ⟨_, rfl, Nat.zero_le _⟩
  | str n b => exact ⟨_, rfl, Nat.zero_le _⟩
  | lst h ih =>
    obtain ⟨ps, h1, h2⟩ := pys_of ih
    exact ⟨.list ps, by simp only [D.py, h1, Option.map_some], by simp only [PyData.depth]; omega⟩
  | tup h ih =>
    obtain ⟨ps, h1, h2⟩ := pys_of ih
    exact ⟨.tuple ps, by simp only [D.py, h1, Option.map_some], by simp only [PyData.depth]; omega⟩
end PM
namespace PM
open PySem PySem.Spec PyProof.Rows L2
def E0 : Str := ⟨#[]⟩
end PM
namespace PM
section
variable {α : Type} {xs : List α} {g : α → D} {a b c : D}
end
end PM
set_option maxHeartbeats 1000000
namespace PM
open PySem PySem.Spec PyProof.Rows L2

abbrev M (α : Type) := Store → Res α
namespace M
variable {α β γ : Type}
def pure (a : α) : M α := fun S => .ok a S
def bind (m : M α) (f : α → M β) : M β := fun S => (m S).bind f
def opt (o : Option α) : M α := fun S => match o with
  | some a => .ok a S
  | none => .stuck
def exc (n : Nat) : M α := fun S => .exc n S
def stuck : M α := fun _ => .stuck
theorem pure_bind (a : α) (f : α → M β) : M.bind (M.pure a) f = f a := id rfl
theorem exc_bind (n : Nat) (f : α → M β) : M.bind (M.exc n) f = M.exc n := id rfl
theorem bind_assoc (m : M α) (f : α → M β) (g : β → M γ) : M.bind (M.bind m f) g = M.bind m fun a => M.bind (f a) g := by
  funext S; unfold M.bind Res.bind; cases m S <;> rfl
theorem opt_some (a : α) : M.opt (some a) = M.pure a := id rfl
def map (f : α → β) (m : M α) : M β := M.bind m fun a => M.pure (f a)
def noexc (m : M α) : M α := fun S => match m S with
  | .ok a S' => .ok a S'
  | _ => .stuck
theorem noexc_pure (a : α) : M.noexc (M.pure a) = M.pure a := id rfl
end M

inductive O (σ τ β : Type) where
  | nx (s : σ) | bk (t : τ) | ct (t : τ) | rt (b : β)
section
variable {α β γ σ σ' τ τ' : Type}
def bindO (m : M (O σ τ β)) (k : σ → M (O σ' τ β)) : M (O σ' τ β) := M.bind m fun o => match o with
  | .nx s => k s
  | .bk t => M.pure (.bk t)
  | .ct t => M.pure (.ct t)
  | .rt b => M.pure (.rt b)
def runO (d : Option β) (m : M (O Unit Unit β)) : M β := M.bind m fun o => match o with
  | .nx _ => M.opt d
  | .rt b => M.pure b
  | _ => M.stuck
def forO (f : α → τ → M (O τ τ β)) : List α → τ → M (O τ τ' β)
  | [], s => M.pure (.nx s)
  | x :: xs, s => M.bind (f x s) fun o => match o with
    | .nx s' => forO f xs s'
    | .ct s' => forO f xs s'
    | .bk s' => M.pure (.nx s')
    | .rt b => M.pure (.rt b)
def whileO (t : τ → M Bool) (f : τ → M (O τ τ β)) : Nat → τ → M (O τ τ' β)
  | 0, _ => M.stuck
  | n + 1, s => M.bind (t s) fun k => if k = true then (M.bind (f s) fun o => match o with
    | .nx s' => whileO t f n s'
    | .ct s' => whileO t f n s'
    | .bk s' => M.pure (.nx s')
    | .rt b => M.pure (.rt b)) else M.pure (.nx s)
def lcO (t : α → M Bool) (e : α → M β) : List α → List β → M (List β)
  | [], acc => M.pure acc
  | x :: xs, acc => M.bind (M.noexc (t x)) fun k => if k = true then (M.bind (M.noexc (e x)) fun y => if acc.length < 1000000 then lcO t e xs (acc ++ [y]) else M.stuck) else lcO t e xs acc
theorem bindO_nx (s : σ) (k : σ → M (O σ' τ β)) : bindO (M.pure (.nx s)) k = k s := id rfl
theorem bindO_rt (b : β) (k : σ → M (O σ' τ β)) : bindO (M.pure (.rt b)) k = M.pure (.rt b) := id rfl
theorem bindO_bk (b : τ) (k : σ → M (O σ' τ β)) : bindO (M.pure (.bk b)) k = M.pure (.bk b) := id rfl
theorem bindO_ct (b : τ) (k : σ → M (O σ' τ β)) : bindO (M.pure (.ct b)) k = M.pure (.ct b) := id rfl
theorem bindO_exc (n : Nat) (k : σ → M (O σ' τ β)) : bindO (M.exc n) k = M.exc n := id rfl
theorem bindO_bind (m : M α) (f : α → M (O σ τ β)) (k : σ → M (O σ' τ β)) : bindO (M.bind m f) k = M.bind m fun a => bindO (f a) k := id (M.bind_assoc m f _)
theorem runO_nx (d : Option β) (s : Unit) : runO d (M.pure (.nx s)) = M.opt d := id rfl
theorem runO_rt (d : Option β) (b : β) : runO d (M.pure (.rt b)) = M.pure b := id rfl
theorem runO_exc (d : Option β) (n : Nat) : runO d (M.exc n) = M.exc n := id rfl
theorem runO_bind (d : Option β) (m : M α) (f : α → M (O Unit Unit β)) : runO d (M.bind m f) = M.bind m fun a => runO d (f a) := id (M.bind_assoc m f _)
end

section
variable {α β γ δ σ σ' τ τ' : Type}
def RS (e : α → γ) (r : Res γ) (t : Res α) : Prop := match t with
  | .ok a S => r = .ok (e a) S
  | .exc n S => r = .exc n S
  | .stuck => True
def Pv (e : α → γ) (c : Env → Store → Res γ) (ρ : Env) (a : α) : Prop := ∀ S, c ρ S = .ok (e a) S
def Xv (e : α → γ) (c : Env → Store → Res γ) (ρ : Env) (m : M α) : Prop := ∀ S, RS e (c ρ S) (m S)
variable {e : α → γ} {c : Env → Store → Res γ} {ρ ρ' : Env} {a : α} {m : M α}
theorem Pv.x (h : Pv e c ρ a) : Xv e c ρ (M.pure a) := fun S => h S
theorem RS.bind {f : γ → Store → Res δ} {e' : β → δ} {r : Res γ} {t : Res α} {k : α → M β} (h : RS e r t) (hk : ∀ a S, RS e' (f (e a) S) (k a S)) : RS e' (r.bind f) (t.bind k) := by
  cases t with
  | ok a S => simp only [RS] at h; subst h; exact hk a S
  | exc n S => simp only [RS] at h; subst h; exact rfl
  | stuck => trivial
abbrev iN : D → D := id
abbrev iU : Unit → D := fun _ => .non
abbrev eL (f : α → D) : List α → D := fun xs => .lst (xs.map f)
abbrev eTL (f : α → D) : List α → D := fun xs => .tup (xs.map f)
abbrev eP2 (f : α → D) (g : β → D) : α × β → D := fun p => .tup [f p.1, g p.2]
abbrev eP3 {γ : Type} (f : α → D) (g : β → D) (h : γ → D) : α × β × γ → D := fun p => .tup [f p.1, g p.2.1, h p.2.2]
def uI : D → Option Int | .int i => some i | _ => none
def uB : D → Option Bool | .bl i => some i | _ => none
def uS : D → Option Str | .str i => some i | _ => none
def uN : D → Option Unit | .non => some () | _ => none
def uAll (f : D → Option α) : List D → Option (List α)
  | [] => some []
  | d :: ds => match f d, uAll f ds with
    | some a, some as => some (a :: as)
    | _, _ => none
def uL (f : D → Option α) : D → Option (List α) | .lst ds => uAll f ds | _ => none
def uTL (f : D → Option α) : D → Option (List α) | .tup ds => uAll f ds | _ => none
def uP2 (f : D → Option α) (g : D → Option β) : D → Option (α × β)
  | .tup [d, e] => match f d, g e with
    | some a, some b => some (a, b)
    | _, _ => none
  | _ => none
structure Un (e : α → D) (u : D → Option α) : Prop where
  back : ∀ d a, u d = some a → d = e a
  told : ∀ a, u (e a) = some a
theorem unI : Un D.int uI := ⟨fun d a h => by cases d <;> simp [uI] at h; rw [h], fun _ => rfl⟩
theorem unB : Un D.bl uB := ⟨fun d a h => by cases d <;> simp [uB] at h; rw [h], fun _ => rfl⟩
theorem unS : Un D.str uS := ⟨fun d a h => by cases d <;> simp [uS] at h; rw [h], fun _ => rfl⟩
theorem unAny : Un iN some := ⟨fun d a h => by cases h; rfl, fun _ => rfl⟩
theorem uAll_back {f : α → D} {u : D → Option α} (h : Un f u) : ∀ (ds : List D) (as : List α), uAll u ds = some as → ds = as.map f
  | [], as, q => by simp [uAll] at q; subst q; rfl
  | d :: ds, as, q => by
    simp only [uAll] at q
    cases q1 : u d with
    | none => rw [q1] at q; cases q
    | some a =>
      cases q2 : uAll u ds with
      | none => rw [q1, q2] at q; cases q
      | some bs =>
        rw [q1, q2] at q
        cases q
        rw [List.map_cons, ← h.back _ _ q1, ← uAll_back h ds bs q2]
theorem uAll_told {f : α → D} {u : D → Option α} (h : Un f u) : ∀ (as : List α), uAll u (as.map f) = some as
  | [] => rfl
  | a :: as => by simp only [List.map_cons, uAll, h.told, uAll_told h as]
theorem unL {f : α → D} {u : D → Option α} (h : Un f u) : Un (eL f) (uL u) := ⟨fun d a q => by
  cases d <;> simp only [uL, reduceCtorEq] at q
  rw [uAll_back h _ _ q], fun as => uAll_told h as⟩
theorem unTL {f : α → D} {u : D → Option α} (h : Un f u) : Un (eTL f) (uTL u) := ⟨fun d a q => by
  cases d <;> simp only [uTL, reduceCtorEq] at q
  rw [uAll_back h _ _ q], fun as => uAll_told h as⟩
theorem unP2 {f : α → D} {u : D → Option α} {g : β → D} {v : D → Option β} (h : Un f u) (k : Un g v) : Un (eP2 f g) (uP2 u v) where
  back := fun d a q => by
    unfold uP2 at q
    split at q
    · rename_i d e
      split at q
      · rename_i x y q1 q2
        cases q
        rw [h.back _ _ q1, k.back _ _ q2]
      · cases q
    · cases q
  told := fun p => by simp only [uP2, h.told, k.told]
structure EqT [DecidableEq α] (n : Nat) (e : α → D) : Prop where
  py : ∀ a, ∃ p, (e a).py = some p ∧ p.depth ≤ n
  eqv : ∀ a b p q, (e a).py = some p → (e b).py = some q → PyData.eqv p q = decide (a = b)
end
end PM
set_option maxHeartbeats 1000000
namespace PM
open PySem PySem.Spec PyProof.Rows L2
section
variable {α β γ δ ζ : Type} {ρ ρ1 : Env} {ca cb cc : Ex} {ea : α → D} {eb : β → D} {ez : ζ → D} {a : α} {b : β} {z : ζ} {ma : M α} {mb : M β} {i : Nat} {f : D → D → Option D}
theorem p_V {e : α → D} (h : Nth ρ i (.fr (e a))) : Pv e (eV i) ρ a := fun S => by simp only [eV, h.eq]
theorem p_Bf {e : α → D} (h : Nth ρ i (.fr (e a))) : Pv e (eB i) ρ a := fun S => by simp only [eB, h.eq]
theorem p_Bo {e : α → D} (h : Nth ρ i (.ow (e a))) : Pv e (eB i) ρ a := fun S => by simp only [eB, h.eq]
theorem p_Bb {e : α → D} (h : Nth ρ i (.bo (e a))) : Pv e (eB i) ρ a := fun S => by simp only [eB, h.eq]
theorem p_C {e : α → D} : Pv e (eC (e a)) ρ a := fun _ => rfl
theorem p_up {c : Ex} (h : Pv ea c ρ a) : Pv iN c ρ (ea a) := h
theorem x_up {c : Ex} (h : Xv ea c ρ ma) : Xv iN c ρ (M.bind ma fun a => M.pure (ea a)) := fun S => by
  have h := h S
  unfold M.bind Res.bind
  cases q : ma S <;> simp only [q] at h ⊢ <;> exact h
theorem x_castX {c : Ex} {u : D → Option α} (hu : Un ea u) {m : M D} (h : Xv iN c ρ m) : Xv ea c ρ (M.bind m fun d => M.opt (u d)) := fun S => by
  have h := h S
  unfold M.bind Res.bind
  cases q : m S with
  | ok d S' =>
    simp only [q] at h ⊢
    rw [h]
    unfold M.opt
    cases q2 : u d with
    | none => exact trivial
    | some a => rw [show iN d = ea a from hu.back _ _ q2]; exact rfl
  | exc n S' => simp only [q] at h ⊢; exact h
  | stuck => exact trivial
theorem p_as {c : Ex} {e' : β → D} {b : β} (h : Pv ea c ρ a) (hb : ea a = e' b) : Pv e' c ρ b := fun S => by rw [h S, hb]
theorem x_as {c : Ex} {e' : β → D} {g : α → β} (h : Xv ea c ρ ma) (hb : ∀ a, ea a = e' (g a)) : Xv e' c ρ (M.bind ma fun a => M.pure (g a)) := fun S => by
  have h := h S
  unfold M.bind Res.bind
  cases q : ma S with
  | ok d S' => simp only [q] at h ⊢; rw [h, hb]; exact rfl
  | exc n S' => simp only [q] at h ⊢; exact h
  | stuck => exact trivial
theorem pp_bin (ha : Pv ea ca ρ a) (hb : Pv eb cb ρ b) (h : f (ea a) (eb b) = some (ez z)) : Pv ez (eBin f ca cb) ρ z := fun S => by simp only [eBin, ha S, hb S, Res.bind, h, Res.opt]
theorem pp_binO {o : Option ζ} (ha : Pv ea ca ρ a) (hb : Pv eb cb ρ b) (h : ∀ z, o = some z → f (ea a) (eb b) = some (ez z)) : Xv ez (eBin f ca cb) ρ (M.opt o) := fun S => by
  unfold M.opt
  cases q : o with
  | none => exact trivial
  | some z => simp only [eBin, ha S, hb S, Res.bind, h z q, Res.opt]; exact rfl
theorem xx_binO {g : α → β → Option ζ} (ha : Xv ea ca ρ ma) (hb : Xv eb cb ρ mb) (h : ∀ a b z, g a b = some z → f (ea a) (eb b) = some (ez z)) : Xv ez (eBin f ca cb) ρ (M.bind ma fun a => M.bind mb fun b => M.opt (g a b)) := fun S => by
  refine RS.bind (ha S) fun a S1 => RS.bind (hb S1) fun b S2 => ?_
  unfold M.opt
  cases q : g a b with
  | none => exact trivial
  | some z => rw [h a b z q]; exact rfl
theorem xp_binO {g : α → Option ζ} (ha : Xv ea ca ρ ma) (hb : Pv eb cb ρ b) (h : ∀ a z, g a = some z → f (ea a) (eb b) = some (ez z)) : Xv ez (eBin f ca cb) ρ (M.bind ma fun a => M.opt (g a)) := fun S => by
  refine RS.bind (ha S) fun a S1 => ?_
  rw [hb S1]
  unfold M.opt
  simp only [Res.bind]
  cases q : g a with
  | none => exact trivial
  | some z => rw [h a z q]; exact rfl
theorem px_binO {g : β → Option ζ} (ha : Pv ea ca ρ a) (hb : Xv eb cb ρ mb) (h : ∀ b z, g b = some z → f (ea a) (eb b) = some (ez z)) : Xv ez (eBin f ca cb) ρ (M.bind mb fun b => M.opt (g b)) := fun S => by
  unfold eBin
  rw [ha S]
  show RS ez ((cb ρ S).bind fun e S => Res.opt (f (ea a) e) S) _
  refine RS.bind (hb S) fun b S1 => ?_
  unfold M.opt
  cases q : g b with
  | none => exact trivial
  | some z => rw [h b z q]; exact rfl
theorem xx_bin {g : α → β → ζ} (ha : Xv ea ca ρ ma) (hb : Xv eb cb ρ mb) (h : ∀ a b, f (ea a) (eb b) = some (ez (g a b))) : Xv ez (eBin f ca cb) ρ (M.bind ma fun a => M.bind mb fun b => M.pure (g a b)) :=
  xx_binO (g := fun a b => some (g a b)) ha hb fun a b z q => by cases q; exact h a b
theorem xp_bin {g : α → ζ} (ha : Xv ea ca ρ ma) (hb : Pv eb cb ρ b) (h : ∀ a, f (ea a) (eb b) = some (ez (g a))) : Xv ez (eBin f ca cb) ρ (M.bind ma fun a => M.pure (g a)) :=
  xp_binO (g := fun a => some (g a)) ha hb fun a z q => by cases q; exact h a
theorem px_bin {g : β → ζ} (ha : Pv ea ca ρ a) (hb : Xv eb cb ρ mb) (h : ∀ b, f (ea a) (eb b) = some (ez (g b))) : Xv ez (eBin f ca cb) ρ (M.bind mb fun b => M.pure (g b)) :=
  px_binO (g := fun b => some (g b)) ha hb fun b z q => by cases q; exact h b
section
variable {g : D → Option D}
theorem p_un (ha : Pv ea ca ρ a) (h : g (ea a) = some (ez z)) : Pv ez (eUn g ca) ρ z := fun S => by simp only [eUn, ha S, Res.bind, h, Res.opt]
end
theorem p_TrB {b : Bool} (h : Pv D.bl ca ρ b) : Pv id (eTr ca) ρ b := fun S => by simp only [eTr, h S, Res.bind, D.truth, Res.opt, id]
theorem x_TrBm {m : M Bool} (h : Xv D.bl ca ρ m) : Xv id (eTr ca) ρ m := fun S => by
  have h := h S
  unfold eTr
  cases q : m S <;> simp only [q, RS] at h ⊢ <;> (try rw [h]) <;> exact rfl
section
variable {ta tb : Tx} {x y : Bool} {mx my : M Bool}
theorem p_tNot (h : Pv id ta ρ x) : Pv id (tNotD ta) ρ (!x) := fun S => by simp only [tNotD, h S, Res.bind, id]
theorem p_tAnd (h : Pv id ta ρ x) (k : Pv id tb ρ y) : Pv id (tAndD ta tb) ρ (x && y) := fun S => by
  simp only [tAndD, h S, Res.bind, id]; cases x <;> simp [k S]
theorem p_tOr (h : Pv id ta ρ x) (k : Pv id tb ρ y) : Pv id (tOrD ta tb) ρ (x || y) := fun S => by
  simp only [tOrD, h S, Res.bind, id]; cases x <;> simp [k S]
theorem px_tOr (h : Pv id ta ρ x) (k : Xv id tb ρ my) : Xv id (tOrD ta tb) ρ (if x = true then M.pure true else my) := fun S => by
  simp only [tOrD, h S, Res.bind, id]; cases x <;> simp
  · exact k S
  · exact rfl
end
def PvA (c : Ax) (ρ : Env) (ds : List D) : Prop := ∀ S, c ρ S = .ok ds S
def XvA (es : α → List D) (c : Ax) (ρ : Env) (m : M α) : Prop := Xv es c ρ m
variable {cr : Ax} {ds : List D} {es : β → List D}
theorem p_aNil : PvA aNil ρ [] := fun _ => rfl
theorem p_aCons (h : Pv ea ca ρ a) (t : PvA cr ρ ds) : PvA (aCons ca cr) ρ (ea a :: ds) := fun S => by simp only [aCons, h S, t S, Res.bind]
theorem xa_1 (h : Xv ea ca ρ ma) (t : PvA cr ρ ds) : XvA (fun a => ea a :: ds) (aCons ca cr) ρ ma := fun S => by
  have h := h S
  unfold aCons
  cases q : ma S <;> simp only [q, RS] at h ⊢
  · rw [h]; simp only [Res.bind, t _]
  · rw [h]; rfl
theorem xa_P (h : Pv ea ca ρ a) (t : XvA es cr ρ mb) : XvA (fun b => ea a :: es b) (aCons ca cr) ρ mb := fun S => by
  have t := t S
  unfold aCons
  rw [h S]
  cases q : mb S <;> simp only [q, RS] at t ⊢
  · simp only [Res.bind]; rw [t]
  · simp only [Res.bind]; rw [t]
theorem xa_X (h : Xv ea ca ρ ma) (t : XvA es cr ρ mb) : XvA (fun p : α × β => ea p.1 :: es p.2) (aCons ca cr) ρ (M.bind ma fun a => M.bind mb fun b => M.pure (a, b)) := fun S => by
  refine RS.bind (h S) fun a S1 => RS.bind (t S1) fun b S2 => rfl
theorem p_Fn {g : List D → Option D} (h : PvA cr ρ ds) (hg : g ds = some (ez z)) : Pv ez (eFn g cr) ρ z := fun S => by simp only [eFn, h S, Res.bind, hg, Res.opt]
theorem p_FnO {g : List D → Option D} {o : Option ζ} (h : PvA cr ρ ds) (hg : ∀ z, o = some z → g ds = some (ez z)) : Xv ez (eFn g cr) ρ (M.opt o) := fun S => by
  unfold M.opt
  cases q : o with
  | none => exact trivial
  | some z => simp only [eFn, h S, Res.bind, hg z q, Res.opt]; exact rfl
theorem x_FnT {g : List D → Option D} {k : β → ζ} (h : XvA es cr ρ mb) (hg : ∀ b, g (es b) = some (ez (k b))) : Xv ez (eFn g cr) ρ (M.bind mb fun b => M.pure (k b)) := fun S =>
  RS.bind (h S) fun b S1 => by rw [hg b]; exact rfl
theorem x_FnO {g : List D → Option D} {k : β → Option ζ} (h : XvA es cr ρ mb) (hg : ∀ b z, k b = some z → g (es b) = some (ez z)) : Xv ez (eFn g cr) ρ (M.bind mb fun b => M.opt (k b)) := fun S =>
  RS.bind (h S) fun b S1 => by
    unfold M.opt
    cases q : k b with
    | none => exact trivial
    | some z => rw [hg b z q]; exact rfl
def FnT (e : ζ → D) (m : Fn) (ds : List D) (g : M ζ) : Prop := ∀ S, RS e (resF (m ds S)) (g S)
def FnN (e : ζ → D) (m : Fn) (ds : List D) (g : M ζ) : Prop := ∀ S, RS e (resN (m ds S)) (g S)
def FnI (e : ζ → D) (m : List D → Store → Res D) (ds : List D) (g : M ζ) : Prop := ∀ S, RS e (m ds S) (g S)
variable {m : Fn} {mi : List D → Store → Res D} {g : M ζ} {gx : β → M ζ}
theorem FnN.toT (h : FnN ez m ds g) : FnT ez m ds g := fun S => by
  have h := h S
  cases q : g S <;> simp only [q, RS] at h ⊢
  · cases q2 : m ds S with
    | ok v S' => cases v <;> simp only [q2, resN, resF, reduceCtorEq] at h ⊢; exact h
    | exc n S' => simp only [q2, resN, resF, reduceCtorEq] at h
    | stuck => simp only [q2, resN, resF, reduceCtorEq] at h
  · cases q2 : m ds S with
    | ok v S' => cases v <;> simp only [q2, resN, resF, reduceCtorEq] at h ⊢
    | exc n S' => simp only [q2, resN, resF] at h ⊢; exact h
    | stuck => simp only [q2, resN, resF, reduceCtorEq] at h
theorem x_callP (h : PvA cr ρ ds) (hf : FnT ez m ds g) : Xv ez (eCall m cr) ρ g := fun S => by simp only [eCall, h S, Res.bind]; exact hf S
theorem x_callX (h : XvA es cr ρ mb) (hf : ∀ b, FnT ez m (es b) (gx b)) : Xv ez (eCall m cr) ρ (M.bind mb gx) := fun S => RS.bind (h S) fun b S1 => hf b S1
theorem x_callNX (h : XvA es cr ρ mb) (hf : ∀ b, FnN ez m (es b) (gx b)) : Xv ez (eCallN m cr) ρ (M.bind mb gx) := fun S => RS.bind (h S) fun b S1 => hf b S1
theorem x_makeP (h : PvA cr ρ ds) (hf : FnI ez mi ds g) : Xv ez (eMake mi cr) ρ g := fun S => by simp only [eMake, h S, Res.bind]; exact hf S
theorem x_makeX (h : XvA es cr ρ mb) (hf : ∀ b, FnI ez mi (es b) (gx b)) : Xv ez (eMake mi cr) ρ (M.bind mb gx) := fun S => RS.bind (h S) fun b S1 => hf b S1
def methM (mn : Str) (mt : MTab) (fin : Res Val → Res D) (d : D) (ma : M (List D)) : M D := fun S => match d with
  | .obj c fs => (match fs.lookup mn, mt c with
    | none, some fn => M.bind ma (fun ds S => fin (fn (d :: ds) S)) S
    | _, _ => .stuck)
  | .rf n => (match S[n]? with
    | some (.obj c fs) => (match fs.lookup mn, mt c with
      | none, some fn => M.bind ma (fun ds S => fin (fn (d :: ds) S)) S
      | _, _ => .stuck)
    | _ => .stuck)
  | _ => .stuck
theorem RSid {r : Res D} {t : Res D} (h : r = t) : RS iN r t := by subst h; cases r <;> simp only [RS]; exact rfl
theorem RS_bindM {γ : Type} {f : List D → Store → Res D} {e : γ → List D} {r : Res (List D)} {m : M γ} {S : Store} (h : RS e r (m S)) : RS iN (r.bind f) (M.bind (M.bind m fun b => M.pure (e b)) f S) := by
  unfold M.bind Res.bind
  cases q : m S with
  | ok b S' => simp only [q, RS] at h; rw [h]; exact RSid rfl
  | exc n S' => simp only [q, RS] at h; rw [h]; exact rfl
  | stuck => exact trivial
theorem meth_core {mn : Str} {mt : MTab} {fin : Res Val → Res D} {d : D} {S : Store} {γ : Type} {e : γ → List D} {mb : M γ} (ha : ca ρ S = .ok d S) (h : XvA e cr ρ mb) : RS iN (eMeth mn mt ca cr fin ρ S) (methM mn mt fin d (M.bind mb fun b => M.pure (e b)) S) := by
  unfold eMeth
  rw [ha]
  cases d with
  | obj c fs =>
    cases hl : fs.lookup mn with
    | none =>
      cases hm : mt c with
      | none => simp only [methM, hl, hm]; exact trivial
      | some fn => simp only [methM, Res.bind, hl, hm]; exact RS_bindM (f := fun ds S => fin (fn (D.obj c fs :: ds) S)) (h S)
    | some x => simp only [methM, hl]; exact trivial
  | rf n =>
    cases hc : S[n]? with
    | none => simp only [methM, hc]; exact trivial
    | some cell =>
      cases cell with
      | box _ => simp only [methM, hc]; exact trivial
      | obj c fs =>
        cases hl : fs.lookup mn with
        | none =>
          cases hm : mt c with
          | none => simp only [methM, hc, hl, hm]; exact trivial
          | some fn => simp only [methM, Res.bind, hc, hl, hm]; exact RS_bindM (f := fun ds S => fin (fn (D.rf n :: ds) S)) (h S)
        | some x => simp only [methM, hc, hl]; exact trivial
  | _ => exact trivial
theorem p_methP {mn : Str} {mt : MTab} {fin : Res Val → Res D} (ha : Pv ea ca ρ a) (h : PvA cr ρ ds) : Xv iN (eMeth mn mt ca cr fin) ρ (methM mn mt fin (ea a) (M.pure ds)) := fun S =>
  meth_core (e := fun _ : Unit => ds) (mb := M.pure ()) (ha S) fun S => h S
theorem x_meth {mn : Str} {mt : MTab} {fin : Res Val → Res D} (ha : Xv ea ca ρ ma) {mds : M (List D)} (h : ∀ a ca', (∀ S, ca' ρ S = .ok (ea a) S) → Xv iN (eMeth mn mt ca' cr fin) ρ (methM mn mt fin (ea a) mds)) : Xv iN (eMeth mn mt ca cr fin) ρ (M.bind ma fun a => methM mn mt fin (ea a) mds) := fun S => by
  have ha := ha S
  unfold M.bind Res.bind
  cases q : ma S with
  | ok a S' =>
    simp only [q, RS] at ha ⊢
    have := h a (fun _ S => .ok (ea a) S) (fun _ => rfl) S'
    unfold eMeth at this ⊢
    rw [ha]
    exact this
  | exc n S' => simp only [q, RS] at ha ⊢; unfold eMeth; rw [ha]; rfl
  | stuck => exact trivial
theorem x_methP {mn : Str} {mt : MTab} {fin : Res Val → Res D} (ha : Xv ea ca ρ ma) (h : PvA cr ρ ds) : Xv iN (eMeth mn mt ca cr fin) ρ (M.bind ma fun a => methM mn mt fin (ea a) (M.pure ds)) := x_meth ha fun a ca' h' => p_methP (ea := ea) h' h
def fldM (fl : FTab) (f : Str) (d : D) : M D := fun S => match d with
  | .obj c fs => if fl c f = true then Res.opt (fs.lookup f) S else .stuck
  | .rf n => (match S[n]? with
    | some (.obj c fs) => if fl c f = true then Res.opt (fs.lookup f) S else .stuck
    | _ => .stuck)
  | _ => .stuck
theorem p_fld {fl : FTab} {f : Str} (ha : Pv ea ca ρ a) : Xv iN (eFld fl f ca) ρ (fldM fl f (ea a)) := fun S => by
  unfold eFld; rw [ha S]; exact RSid rfl
theorem p_isT {T : String} {k : Bool} (ha : Pv ea ca ρ a) (h : (ea a).isT T = some k) : Pv D.bl (eIsT T ca) ρ k := fun S => by simp only [eIsT, ha S, Res.bind, h, Option.map_some, Res.opt]
theorem p_Lst (h : PvA cr ρ ds) (hl : ds.length ≤ 1000000) (hz : D.lst ds = ez z) : Pv ez (eLst cr) ρ z := fun S => by simp only [eLst, h S, Res.bind, hl, if_true, hz]
theorem p_Tup (h : PvA cr ρ ds) (hl : ds.length ≤ 1000000) (hz : D.tup ds = ez z) : Pv ez (eTup cr) ρ z := fun S => by simp only [eTup, h S, Res.bind, hl, if_true, hz]
theorem x_Lst' {k : β → ζ} (h : XvA es cr ρ mb) (hl : ∀ b, (es b).length ≤ 1000000) (hz : ∀ b, D.lst (es b) = ez (k b)) : Xv ez (eLst cr) ρ (M.bind mb fun b => M.pure (k b)) := fun S =>
  RS.bind (h S) fun b S1 => by rw [if_pos (hl b), hz b]; exact rfl
theorem x_Tup' {k : β → ζ} (h : XvA es cr ρ mb) (hl : ∀ b, (es b).length ≤ 1000000) (hz : ∀ b, D.tup (es b) = ez (k b)) : Xv ez (eTup cr) ρ (M.bind mb fun b => M.pure (k b)) := fun S =>
  RS.bind (h S) fun b S1 => by rw [if_pos (hl b), hz b]; exact rfl
theorem p_Dic0 : Pv (fun k : List (Key × D) => D.dic k) eDic0 ρ [] := fun _ => rfl
abbrev iO : Option Int → Option Int := id
theorem p_No : Pv iO pNo ρ none := fun _ => rfl
theorem p_At {j : Int} (h : Pv D.int ca ρ j) : Pv iO (pAt ca) ρ (some j) := fun S => by simp only [pAt, h S, Res.bind]; rfl
section
variable {fc : D → Option Int → Option Int → Option D} {pl ph : Px} {lo hi : Option Int} {ml mh : M (Option Int)}
theorem p_Cut (ha : Pv ea ca ρ a) (hl : Pv iO pl ρ lo) (hh : Pv iO ph ρ hi) (h : fc (ea a) lo hi = some (ez z)) : Pv ez (eCut fc ca pl ph) ρ z := fun S => by
  simp only [eCut, ha S, Res.bind, hl S, hh S, iO, id, h, Res.opt]
theorem p_CutO {o : Option ζ} (ha : Pv ea ca ρ a) (hl : Pv iO pl ρ lo) (hh : Pv iO ph ρ hi) (h : ∀ z, o = some z → fc (ea a) lo hi = some (ez z)) : Xv ez (eCut fc ca pl ph) ρ (M.opt o) := fun S => by
  unfold M.opt
  cases q : o with
  | none => exact trivial
  | some z => simp only [eCut, ha S, Res.bind, hl S, hh S, iO, id, h z q, Res.opt]; exact rfl
end
theorem x_iL' {mx : M (List α)} (h : Xv (eL ea) ca ρ mx) : Xv (List.map ea) (iL ca) ρ mx := fun S => by
  have h := h S
  unfold iL
  cases q : mx S <;> simp only [q, RS] at h ⊢ <;> rw [h] <;> rfl
theorem p_iBb {xs : List α} (h : Nth ρ i (.bo (eL ea xs))) : Pv (List.map ea) (iB i) ρ xs := fun S => by simp only [iB, h.eq]
theorem x_iT' {mx : M (List α)} (h : Xv (eTL ea) ca ρ mx) : Xv (List.map ea) (iT ca) ρ mx := fun S => by
  have h := h S
  unfold iT
  cases q : mx S <;> simp only [q, RS] at h ⊢ <;> rw [h] <;> rfl
abbrev eCh : Nat → D := fun c => .str (S1 c)
def rngI (lo : Int) (n : Nat) : List Int := (List.range n).map fun (k : Nat) => lo + (k : Int)
theorem rngI_map (lo : Int) (n : Nat) : rngD lo n = (rngI lo n).map D.int := by unfold rngD rngI; rw [List.map_map]; rfl
def gR1 (j : Int) : Option (List Int) := if -1000000000 ≤ j ∧ j ≤ 1000000000 then some (rngI 0 j.toNat) else none
def gR2 (i j : Int) : Option (List Int) := if (-1000000000 ≤ i ∧ i ≤ 1000000000) ∧ -1000000000 ≤ j ∧ j ≤ 1000000000 then some (rngI i (j - i).toNat) else none
theorem oo_R1 {j : Int} {z : List Int} (h : gR1 j = some z) : fR1 [.int j] = some (z.map D.int) := by
  unfold gR1 at h
  split at h
  · cases h; rename_i h; simp only [fR1, h, and_self, if_true, rngI_map]
  · cases h
theorem oo_R2 {i j : Int} {z : List Int} (h : gR2 i j = some z) : fR2 [.int i, .int j] = some (z.map D.int) := by
  unfold gR2 at h
  split at h
  · cases h; rename_i h; simp only [fR2, h, and_self, if_true, rngI_map]
  · cases h
theorem p_iFn {g : List D → Option (List D)} {o : Option (List ζ)} (h : PvA cr ρ ds) (hg : ∀ z, o = some z → g ds = some (z.map ez)) : Xv (List.map ez) (iFn g cr) ρ (M.opt o) := fun S => by
  unfold M.opt
  cases q : o with
  | none => exact trivial
  | some z => simp only [iFn, h S, Res.bind, hg z q, Res.opt]; exact rfl
theorem x_iFn' {g : List D → Option (List D)} {k : β → Option (List ζ)} (h : XvA es cr ρ mb) (hg : ∀ b z, k b = some z → g (es b) = some (z.map ez)) : Xv (List.map ez) (iFn g cr) ρ (M.bind mb fun b => M.opt (k b)) := fun S =>
  RS.bind (h S) fun b S1 => by
    unfold M.opt
    cases q : k b with
    | none => exact trivial
    | some z => rw [hg b z q]; exact rfl
theorem lc_core {tg : Tgt} {tt : Tx} {elt : Ex} {ρ : Env} {ei : α → D} {t : α → M Bool} {f : α → M β} {ρ1 : α → Env} (ht : ∀ x, tg (ei x) ρ = some (ρ1 x)) (htt : ∀ x, Xv id tt (ρ1 x) (t x)) (he : ∀ x, Xv eb elt (ρ1 x) (f x)) : ∀ (xs : List α) (acc : List β) (S : Store), RS (eL eb) (lcS tg tt elt ρ (xs.map ei) (acc.map eb) S) (lcO t f xs acc S)
  | [], acc, S => rfl
  | x :: xs, acc, S => by
    simp only [List.map_cons, lcS, ht x]
    unfold lcO M.bind Res.bind M.noexc
    have h1 := htt x S
    cases q1 : t x S with
    | ok k S1 =>
      simp only [q1, RS, id] at h1
      rw [h1]
      simp only []
      cases k with
      | true =>
        simp only [if_true]
        have h2 := he x S1
        cases q2 : f x S1 with
        | ok y S2 =>
          simp only [q2, RS] at h2
          simp only [q2]
          rw [h2]
          simp only [List.length_map]
          split
          · have := lc_core ht htt he xs (acc ++ [y]) S2
            rw [List.map_append] at this
            exact this
          · exact trivial
        | exc n S2 => simp only [q2]; exact trivial
        | stuck => simp only [q2]; exact trivial
      | false => exact lc_core ht htt he xs acc S1
    | exc n S1 => exact trivial
    | stuck => exact trivial
section
variable {own : List Nat} {ci : Ix} {tg : Tgt} {tt : Tx} {elt : Ex} {ei : α → D} {t : α → M Bool} {fe : α → M β} {ρw : Env} {ρx : α → Env}
theorem x_Lc' {mi : M (List α)} (hi : Xv (List.map ei) ci ρ mi) (hw : WipeR ρ own ρw) (ht : ∀ x, tg (ei x) ρw = some (ρx x)) (htt : ∀ x, Xv id tt (ρx x) (t x)) (he : ∀ x, Xv eb elt (ρx x) (fe x)) : Xv (eL eb) (eLc own ci tg tt elt) ρ (M.bind mi fun xs => lcO t fe xs []) := fun S => by
  unfold eLc
  rw [hw.eq]
  exact RS.bind (hi S) fun xs S1 => lc_core ht htt he xs [] S1
theorem p_Yes : Pv id tYesD ρ true := fun _ => rfl
end
theorem tgN {tρ : Env} {d : D} (h : SetR ρ i (.fr d) tρ) : gN i d ρ = some tρ := tg_N h
end
end PM
set_option maxHeartbeats 1000000
namespace PM
open PySem PySem.Spec PyProof.Rows L2
section
variable {α β γ : Type} [DecidableEq α] [DecidableEq β] [DecidableEq γ]
theorem eqvAll_dec {e : α → D} {n : Nat} (h : EqT n e) : ∀ (as bs : List α) (ps qs : List PyData), D.pys (as.map e) = some ps → D.pys (bs.map e) = some qs → PyData.eqvAll ps qs = decide (as = bs)
  | [], [], ps, qs, h1, h2 => by simp only [List.map_nil, D.pys] at h1 h2; cases h1; cases h2; rfl
  | [], b :: bs, ps, qs, h1, h2 => by
    simp only [List.map_nil, List.map_cons, D.pys] at h1 h2
    cases h1
    split at h2 <;> cases h2
    simp [PyData.eqvAll]
  | a :: as, [], ps, qs, h1, h2 => by
    simp only [List.map_nil, List.map_cons, D.pys] at h1 h2
    cases h2
    split at h1 <;> cases h1
    simp [PyData.eqvAll]
  | a :: as, b :: bs, ps, qs, h1, h2 => by
    simp only [List.map_cons, D.pys] at h1 h2
    cases e1 : (e a).py with
    | none => rw [e1] at h1; cases h1
    | some p =>
      cases e2 : D.pys (as.map e) with
      | none => rw [e1, e2] at h1; cases h1
      | some ps' =>
        cases e3 : (e b).py with
        | none => rw [e3] at h2; cases h2
        | some q =>
          cases e4 : D.pys (bs.map e) with
          | none => rw [e3, e4] at h2; cases h2
          | some qs' =>
            rw [e1, e2] at h1
            rw [e3, e4] at h2
            cases h1; cases h2
            rw [PyData.eqvAll, h.eqv a b p q e1 e3, eqvAll_dec h as bs _ _ e2 e4]
            simp [List.cons.injEq]
theorem pys_py {e : α → D} {n : Nat} (h : EqT n e) : ∀ (as : List α), ∃ ps, D.pys (as.map e) = some ps ∧ PyData.depthAll ps ≤ n
  | [] => ⟨[], rfl, by simp [PyData.depthAll]⟩
  | a :: as => by
    obtain ⟨p, h1, h2⟩ := h.py a
    obtain ⟨ps, h3, h4⟩ := pys_py h as
    exact ⟨p :: ps, by simp only [List.map_cons, D.pys, h1, h3], by simp only [PyData.depthAll]; omega⟩
theorem eqI : EqT 0 D.int := ⟨fun a => ⟨_, rfl, Nat.zero_le _⟩, fun a b p q h1 h2 => by cases h1; cases h2; simp [PyData.eqv, BEq.beq]⟩
theorem eqS : EqT 0 D.str where
  py := fun a => ⟨_, rfl, Nat.zero_le _⟩
  eqv := fun a b p q h1 h2 => by cases h1; cases h2; simp only [PyData.eqv]; congr 1
theorem eqB : EqT 0 D.bl := ⟨fun a => ⟨_, rfl, Nat.zero_le _⟩, fun a b p q h1 h2 => by cases h1; cases h2; cases a <;> cases b <;> rfl⟩
theorem eqL {e : α → D} {n : Nat} (h : EqT n e) : EqT (n + 1) (eL e) where
  py := fun as => by
    obtain ⟨ps, h1, h2⟩ := pys_py h as
    exact ⟨.list ps, by simp only [eL, D.py, h1, Option.map_some], by simp only [PyData.depth]; omega⟩
  eqv := fun as bs p q h1 h2 => by
    obtain ⟨ps, h3, h4⟩ := pys_py h as
    obtain ⟨qs, h5, h6⟩ := pys_py h bs
    simp only [eL, D.py, h3, h5, Option.map_some] at h1 h2
    cases h1; cases h2
    rw [PyData.eqv, eqvAll_dec h as bs ps qs h3 h5]
theorem eq?_dec {e : α → D} {n : Nat} (h : EqT n e) (hn : n ≤ 60) (a b : α) : D.eq? (e a) (e b) = some (decide (a = b)) := by
  obtain ⟨p, h1, h2⟩ := h.py a
  obtain ⟨q, h3, h4⟩ := h.py b
  simp only [D.eq?, h1, h3, if_pos (show min p.depth q.depth ≤ 60 by omega), h.eqv a b p q h1 h3]
theorem ot_eq {e : α → D} {n : Nat} (h : EqT n e) {a b : α} (hn : n ≤ 60 := by decide) : oEq (e a) (e b) = some (.bl (decide (a = b))) := by
  simp only [oEq, eq?_dec h hn, Option.map_some]
theorem ot_ne {e : α → D} {n : Nat} (h : EqT n e) {a b : α} (hn : n ≤ 60 := by decide) : oNe (e a) (e b) = some (.bl (!decide (a = b))) := by
  simp only [oNe, eq?_dec h hn, Option.map_some]
theorem any_dec {e : α → D} {n : Nat} (h : EqT n e) {a : α} {p : PyData} (hp : (e a).py = some p) : ∀ (bs : List α) (qs : List PyData), D.pys (bs.map e) = some qs → qs.any (fun z => PyData.eqv z p) = decide (a ∈ bs)
  | [], qs, h1 => by simp only [List.map_nil, D.pys] at h1; cases h1; simp
  | b :: bs, qs, h1 => by
    simp only [List.map_cons, D.pys] at h1
    split at h1 <;> cases h1
    rename_i q qs e1 e2
    rw [List.any_cons, any_dec h hp bs qs e2, h.eqv b a q p e1 hp]
    have : (b = a) ↔ (a = b) := ⟨Eq.symm, Eq.symm⟩
    simp only [List.mem_cons, decide_eq_decide.mpr this, Bool.decide_or]
theorem in?_decT {e : α → D} {n : Nat} (h : EqT n e) (hn : n ≤ 60) (a : α) (bs : List α) : D.in? (e a) (.tup (bs.map e)) = some (decide (a ∈ bs)) := by
  obtain ⟨p, h1, h2⟩ := h.py a
  obtain ⟨qs, h3, h4⟩ := pys_py h bs
  cases he : e a <;> simp only [D.in?, ← he, h1, h3, if_pos (show min (PyData.depthAll qs) p.depth ≤ 60 by omega), any_dec h h1 bs qs h3]
end
theorem oo_eqD {d e : D} {z : Bool} (h : D.eq? d e = some z) : oEq d e = some (.bl z) := by simp only [oEq, h, Option.map_some]
theorem oo_inD {d e : D} {z : Bool} (h : D.in? d e = some z) : oIn d e = some (.bl z) := by simp only [oIn, h, Option.map_some]
def gNinD (d e : D) : Option Bool := (D.in? d e).map (!·)
theorem oo_ninD {d e : D} {z : Bool} (h : gNinD d e = some z) : oNin d e = some (.bl z) := by
  unfold gNinD at h
  cases q : D.in? d e with
  | none => rw [q] at h; cases h
  | some k => rw [q] at h; cases h; simp only [oNin, q, Option.map_some]
section
variable {α β γ : Type} {e : α → D} {f : β → D} {g : γ → D} {i j : Int} {x y : Str} {xs ys : List α} {d : D} {lo hi : Option Int}
theorem ot_addI : oAdd (.int i) (.int j) = some (.int (i + j)) := rfl
theorem ot_sub : oSub (.int i) (.int j) = some (.int (i - j)) := rfl
theorem ot_lt : oLt (.int i) (.int j) = some (.bl (decide (i < j))) := rfl
theorem ot_gt : oGt (.int i) (.int j) = some (.bl (decide (i > j))) := rfl
theorem ot_neg : oNeg (.int i) = some (.int (-i)) := rfl
theorem ot_mulL (h : -(2 ^ 64) < i ∧ i < 2 ^ 64 := by decide) : oMulI (.int i) (.int j) = some (.int (i * j)) := dv_mulL h
theorem ot_div (h : 0 < j ∧ j < 1073741824 := by decide) : oDiv (.int i) (.int j) = some (.int (i / j)) := dv_div h
theorem ot_mod (h : 0 < j := by decide) : oMod (.int i) (.int j) = some (.int (i % j)) := dv_mod h
def gMul (i j : Int) : Option Int := if cMul i j = true then some (i * j) else none
def gDiv (i j : Int) : Option Int := if 0 < j ∧ j < 1073741824 then some (i / j) else none
def gMod (i j : Int) : Option Int := if 0 < j then some (i % j) else none
theorem oo_mul {z : Int} (h : gMul i j = some z) : oMulI (.int i) (.int j) = some (.int z) := by
  unfold gMul at h; split at h <;> cases h; simp only [oI, *, if_true]
theorem oo_div {z : Int} (h : gDiv i j = some z) : oDiv (.int i) (.int j) = some (.int z) := by
  unfold gDiv at h; split at h <;> cases h; rename_i h; exact dv_div h
theorem oo_mod {z : Int} (h : gMod i j = some z) : oMod (.int i) (.int j) = some (.int z) := by
  unfold gMod at h; split at h <;> cases h; rename_i h; exact dv_mod h
def gCatS (x y : Str) : Option Str := if x.length + y.length ≤ 1000000 then some (x ++ y) else none
theorem oo_catS {z : Str} (h : gCatS x y = some z) : oAdd (.str x) (.str y) = some (.str z) := by
  unfold gCatS at h; split at h <;> cases h; rename_i h; exact dv_addS h
def gCatL (xs ys : List α) : Option (List α) := if xs.length + ys.length ≤ 1000000 then some (xs ++ ys) else none
theorem oo_addL {z : List α} (h : gCatL xs ys = some z) : oAdd (eL e xs) (eL e ys) = some (eL e z) := by
  unfold gCatL at h; split at h <;> cases h; rename_i h
  simp only [eL, oAdd, List.length_map, h, if_true, List.map_append]
theorem oo_catL {z : List α} (h : gCatL xs ys = some z) : oCat (eL e xs) (eL e ys) = some (eL e z) := by
  unfold gCatL at h; split at h <;> cases h; rename_i h
  simp only [eL, oCat, List.length_map, h, if_true, List.map_append]
theorem atI_map {α β : Type} (f : α → β) (xs : List α) (i : Int) : L2.atI (xs.map f) i = (L2.atI xs i).map f := by
  unfold L2.atI
  rw [List.length_map]
  cases L2.ixN xs.length i with
  | none => rfl
  | some j => simp only [Option.bind_some, List.getElem?_map]
abbrev gIx {α : Type} (xs : List α) (i : Int) : Option α := L2.atI xs i
theorem oo_ixL {z : α} (h : gIx xs i = some z) : oIx (eL e xs) (.int i) = some (e z) := by
  simp only [eL, oIx, atI_map, h, Option.map_some]
theorem oo_ixScr {ns : List Int} {z : Int} (h : gIx ns i = some z) : oIx (.scr ns) (.int i) = some (.int z) := by
  simp only [oIx, h, Option.map_some]
def gIxS (x : Str) (i : Int) : Option Nat := if x.length ≤ 1000000 then L2.atI (Sl x) i else none
theorem oo_ixS {z : Nat} (h : gIxS x i = some z) : oIx (.str x) (.int i) = some (eCh z) := by
  unfold gIxS at h; split at h <;> try cases h
  rename_i hl
  simp only [oIx, hl, if_true]
  unfold Sl at h
  rw [h]
  rfl
theorem oo_ixD {a b z : D} (h : oIx a b = some z) : oIx a b = some (iN z) := h
theorem cutD_map {α β : Type} (f : α → β) (xs : List α) (lo hi : Option Int) : cutD (xs.map f) lo hi = (cutD xs lo hi).map f := by
  unfold cutD; rw [List.length_map, List.map_take, List.map_drop]
theorem ot_cutL : oCut (eL e xs) lo hi = some (eL e (cutD xs lo hi)) := by simp only [eL, oCut, cutD_map]
theorem oo_cutD {a z : D} (h : oCut a lo hi = some z) : oCut a lo hi = some (iN z) := h
theorem ot_lenL : fLen [eL e xs] = some (.int (xs.length : Int)) := by simp only [eL, fLen, List.length_map]
theorem ot_lenScr {ns : List Int} : fLen [.scr ns] = some (.int (ns.length : Int)) := rfl
def gLs (o : Option D) : Option (List D) := match o with | some (.lst i) => some i | _ => none
theorem oo_listD {z : List D} (h : gLs (fList [d]) = some z) : fList [d] = some (eL iN z) := by
  unfold gLs at h; split at h <;> cases h; rename_i h; rw [h]; simp only [eL, iN, List.map_id_fun, id]
theorem ot_tupL : fTuple [eL e xs] = some (eTL e xs) := rfl
def b2I (b : Bool) : Int := if b = true then 1 else 0
theorem ot_intB {b : Bool} : fInt [.bl b] = some (.int (b2I b)) := by cases b <;> rfl
def gSt (o : Option D) : Option Str := match o with | some (.str i) => some i | _ => none
theorem oo_strI {z : Str} (h : gSt (fStr [.int i]) = some z) : fStr [.int i] = some (.str z) := by
  unfold gSt at h; split at h <;> cases h; assumption
def min2 (i j : Int) : Int := if j < i then j else i
theorem ot_min2 : fMin2 [.int i, .int j] = some (.int (min2 i j)) := rfl
theorem bls_map (ns : List Bool) : D.bls (ns.map D.bl) = some ns := by
  induction ns with
  | nil => rfl
  | cons n ns ih => simp only [List.map_cons, D.bls, ih, Option.map_some]
theorem ot_all {ns : List Bool} : fAll [eL D.bl ns] = some (.bl (ns.all id)) := by simp only [eL, fAll, bls_map, Option.map_some]
end
end PM
set_option maxHeartbeats 1000000
namespace PM
open PySem PySem.Spec PyProof.Rows L2
section
variable {α β γ σ σ' τ τ' : Type}
def SR1 (E : σ → Env) (L : τ → Env) (ER : β → Val → Prop) (X : Env → Prop) (r : SR) (t : Res (O σ τ β)) : Prop := match t with
  | .ok (.nx s) S => r = .nx (E s) S
  | .ok (.bk s) S => r = .bk (L s) S
  | .ok (.ct s) S => r = .ct (L s) S
  | .ok (.rt b) S => ∃ v, r = .rt v S ∧ ER b v
  | .exc n S => ∃ ρ, r = .exc n ρ S ∧ X ρ
  | .stuck => True
structure Sm (E : σ → Env) (L : τ → Env) (ER : β → Val → Prop) (X : Env → Prop) (c : Stm) (ρ : Env) (m : M (O σ τ β)) : Prop where
  run : ∀ S, SR1 E L ER X (c ρ S) (m S)
def RF (e : β → D) : β → Val → Prop := fun b v => v = .fr (e b) ∨ v = .ow (e b)
def RN (e : β → D) : β → Val → Prop := fun b v => v = .ow (e b)
variable {E : σ → Env} {E' : σ' → Env} {L : τ → Env} {L' : τ' → Env} {ER : β → Val → Prop} {X : Env → Prop} {ρ ρ1 : Env} {rest a b c : Stm} {i : Nat}
theorem t_nil {s : σ} (h : ρ = E s := by rfl) : Sm E L ER X sNx ρ (M.pure (.nx s)) := ⟨fun S => by subst h; exact rfl⟩
theorem t_wipe {is : List Nat} {m : M (O σ τ β)} (h : WipeR ρ is ρ1) (k : Sm E L ER X rest ρ1 m) : Sm E L ER X (sSeq (sWipe is) rest) ρ m := ⟨fun S => by
  have := k.run S
  simp only [sSeq, sWipe, h.eq]
  exact this⟩
theorem t_nxl {m : M (O σ τ β)} (k : Sm E L ER X rest ρ m) : Sm E L ER X (sSeq sNx rest) ρ m := ⟨fun S => k.run S⟩
theorem sSeq_assoc : sSeq (sSeq a b) c = sSeq a (sSeq b c) := by
  funext ρ S
  unfold sSeq
  cases a ρ S <;> rfl
theorem t_assoc {m : M (O σ τ β)} (k : Sm E L ER X (sSeq a (sSeq b c)) ρ m) : Sm E L ER X (sSeq (sSeq a b) c) ρ m := by rw [sSeq_assoc]; exact k
theorem t_ex {α' : Type} {en : α → α'} {ce : Env → Store → Res α'} {f : α' → Stm} {m : M α} {k : α → M (O σ τ β)} (hc : Xv en ce ρ m) (hX : X ρ) (hk : ∀ a S, SR1 E L ER X (sSeq (f (en a)) rest ρ S) (k a S)) : Sm E L ER X (sSeq (sEx ce f) rest) ρ (M.bind m k) := ⟨fun S => by
  have h := hc S
  unfold M.bind Res.bind
  cases q : m S with
  | ok a S' =>
    simp only [q, RS] at h ⊢
    have := hk a S'
    simp only [sSeq, sEx, h] at this ⊢
    exact this
  | exc n S' =>
    simp only [q, RS] at h ⊢
    refine ⟨ρ, ?_, hX⟩
    simp only [sSeq, sEx, h]
  | stuck => exact trivial⟩
section
variable {en : α → D} {ce : Ex} {m : M α} {k : α → M (O σ τ β)}
theorem t_set {ρ2 : α → Env} (hc : Xv en ce ρ m) (hX : X ρ) (hs : ∀ a, SetR ρ i (.fr (en a)) (ρ2 a)) (hk : ∀ a, Sm E L ER X rest (ρ2 a) (k a)) : Sm E L ER X (sSeq (sSet i ce) rest) ρ (M.bind m k) :=
  t_ex hc hX fun a S => by
    have := (hk a).run S
    simp only [sSeq, (hs a).eq]
    exact this
theorem t_setN {ρ2 : α → Env} (hc : Xv en ce ρ m) (hX : X ρ) (hs : ∀ a, SetR ρ i (.ow (en a)) (ρ2 a)) (hk : ∀ a, Sm E L ER X rest (ρ2 a) (k a)) : Sm E L ER X (sSeq (sSetN i ce) rest) ρ (M.bind m k) :=
  t_ex hc hX fun a S => by
    have := (hk a).run S
    simp only [sSeq, (hs a).eq]
    exact this
theorem t_ret {eb : β → D} {m : M β} (hc : Xv eb ce ρ m) (hX : X ρ) (hR : ∀ b, ER b (.fr (eb b))) : Sm E L ER X (sSeq (sRet ce) rest) ρ (M.bind m fun b => M.pure (.rt b)) :=
  t_ex hc hX fun a S => ⟨_, rfl, hR a⟩
theorem t_retN {eb : β → D} {m : M β} (hc : Xv eb ce ρ m) (hX : X ρ) (hR : ∀ b, ER b (.ow (eb b))) : Sm E L ER X (sSeq (sRetN ce) rest) ρ (M.bind m fun b => M.pure (.rt b)) :=
  t_ex hc hX fun a S => ⟨_, rfl, hR a⟩
theorem t_retVo {eb : β → D} {x : β} (h : Nth ρ i (.ow (eb x))) (hR : ER x (.ow (eb x))) : Sm E L ER X (sSeq (sRetV i) rest) ρ (M.pure (.rt x)) := ⟨fun S => by
  refine ⟨.ow (eb x), ?_, hR⟩
  simp only [sSeq, sRetV, h.eq]⟩
end
section
variable {tc : Tx} {x : Bool} {mx : M Bool} {ma mb : M (O σ τ β)} {na nb : M (O σ' τ β)}
theorem t_if (hc : Xv id tc ρ mx) (hX : X ρ) (ha : Sm E L ER X (sSeq a rest) ρ ma) (hb : Sm E L ER X (sSeq b rest) ρ mb) : Sm E L ER X (sSeq (sIf tc a b) rest) ρ (M.bind mx fun x => if x = true then ma else mb) :=
  t_ex hc hX fun x S => by
    cases x
    · exact hb.run S
    · exact ha.run S
theorem t_ifP (hc : Pv id tc ρ x) (ha : Sm E L ER X (sSeq a rest) ρ ma) (hb : Sm E L ER X (sSeq b rest) ρ mb) : Sm E L ER X (sSeq (sIf tc a b) rest) ρ (if x = true then ma else mb) := ⟨fun S => by
  have h := hc S
  have : sSeq (sIf tc a b) rest ρ S = sSeq (if x = true then a else b) rest ρ S := by
    simp only [sSeq, sIf, sEx, h, id]; cases x <;> rfl
  rw [this]
  cases x
  · exact hb.run S
  · exact ha.run S⟩
theorem t_seq (ha : Sm E' L ER X a ρ na) {k : σ' → M (O σ τ β)} (hk : ∀ s, Sm E L ER X rest (E' s) (k s)) : Sm E L ER X (sSeq a rest) ρ (bindO na k) := ⟨fun S => by
  have h := ha.run S
  unfold bindO M.bind Res.bind
  cases q : na S with
  | ok o S' =>
    cases o with
    | nx s =>
      simp only [q, SR1] at h ⊢
      have := (hk s).run S'
      simp only [sSeq, h]
      exact this
    | bk s => simp only [q, SR1] at h ⊢; simp only [sSeq, h]; exact rfl
    | ct s => simp only [q, SR1] at h ⊢; simp only [sSeq, h]; exact rfl
    | rt b =>
      simp only [q, SR1] at h ⊢
      obtain ⟨v, h1, h2⟩ := h
      exact ⟨v, by simp only [sSeq, h1], h2⟩
  | exc n S' =>
    simp only [q, SR1] at h ⊢
    obtain ⟨ρ', h1, h2⟩ := h
    exact ⟨ρ', by simp only [sSeq, h1], h2⟩
  | stuck => exact trivial⟩
theorem t_ifP1 (hc : Pv id tc ρ x) (ha : Sm E L ER X a ρ ma) (hb : Sm E L ER X b ρ mb) : Sm E L ER X (sIf tc a b) ρ (if x = true then ma else mb) := ⟨fun S => by
  have h := hc S
  unfold sIf sEx
  rw [h]
  simp only [id]
  cases x
  · exact hb.run S
  · exact ha.run S⟩
end
section
variable {en : α → D} {eb' : γ → D} {ce ci : Ex}
def gApp (xs : List α) (x : α) : Option (List α) := if xs.length < 1000000 then some (xs ++ [x]) else none
theorem t_app {xs : List α} {m : M α} {k : List α → M (O σ τ β)} {ρ2 : List α → Env} (h : Nth ρ i (.ow (eL en xs))) (hc : Xv en ce ρ m) (hX : X ρ) (hs : ∀ a, SetR ρ i (.ow (eL en a)) (ρ2 a)) (hk : ∀ a, Sm E L ER X rest (ρ2 a) (k a)) : Sm E L ER X (sSeq (sLm i lAppend (aCons ce aNil)) rest) ρ (M.bind m fun x => M.bind (M.opt (gApp xs x)) k) := ⟨fun S => by
  have q := hc S
  unfold M.bind Res.bind
  cases e : m S with
  | ok z S' =>
    simp only [e, RS] at q ⊢
    unfold M.opt gApp
    by_cases hl : xs.length < 1000000
    · have := (hk (xs ++ [z])).run S'
      simp only [hl, if_true]
      have hs' := (hs (xs ++ [z])).eq
      simp only [eL, List.map_append, List.map_cons, List.map_nil] at hs'
      simp only [sSeq, sLm, h.eq, eL, sEx, aCons, aNil, q, Res.bind, lAppend, List.length_map, hl, if_true, hs']
      exact this
    · simp only [hl, if_false]; exact trivial
  | exc n S' =>
    simp only [e, RS] at q ⊢
    exact ⟨ρ, by simp only [sSeq, sLm, h.eq, eL, sEx, aCons, q, Res.bind], hX⟩
  | stuck => exact trivial⟩
abbrev eDic : List (Key × D) → D := D.dic
def gPut (xs : List (Key × D)) (j : D) (x : D) : Option (List (Key × D)) := if xs.length < 1000000 then j.key.map fun k => putD xs k x else none
theorem t_put {xs : List (Key × D)} {ek : γ → D} {m : M α} {mj : M γ} {k : List (Key × D) → M (O σ τ β)} {ρ2 : List (Key × D) → Env} (h : Nth ρ i (.ow (eDic xs))) (hc : Xv en ce ρ m) (hi : Xv ek ci ρ mj) (hX : X ρ) (hs : ∀ a, SetR ρ i (.ow (eDic a)) (ρ2 a)) (hk : ∀ a, Sm E L ER X rest (ρ2 a) (k a)) : Sm E L ER X (sSeq (sPut i ci ce) rest) ρ (M.bind m fun x => M.bind mj fun j => M.bind (M.opt (gPut xs (ek j) (en x))) k) := ⟨fun S => by
  have q := hc S
  unfold M.bind Res.bind
  cases e : m S with
  | ok z S' =>
    simp only [e, RS] at q ⊢
    have q2 := hi S'
    cases e2 : mj S' with
    | ok j S2 =>
      simp only [e2, RS] at q2 ⊢
      unfold M.opt gPut
      by_cases hl : xs.length < 1000000
      · simp only [hl, if_true]
        cases e3 : (ek j).key with
        | none => exact trivial
        | some n =>
          have := (hk (putD xs n (en z))).run S2
          simp only [Option.map_some]
          simp only [sSeq, sPut, h.eq, sEx, q, q2, e3, hl, if_true, (hs (putD xs n (en z))).eq]
          exact this
      · simp only [hl, if_false]; exact trivial
    | exc n S2 =>
      simp only [e2, RS] at q2 ⊢
      exact ⟨ρ, by simp only [sSeq, sPut, h.eq, sEx, q, q2], hX⟩
    | stuck => exact trivial
  | exc n S' =>
    simp only [e, RS] at q ⊢
    exact ⟨ρ, by simp only [sSeq, sPut, h.eq, sEx, q], hX⟩
  | stuck => exact trivial⟩
def gFld (fl : FTab) (f : Str) (me x : D) : Option D := match me with
  | .obj c fs => if fl c f = true ∧ fs.length < 1000 then some (.obj c (pD f x fs)) else none
  | _ => none
theorem t_fldMe {fl : FTab} {f : Str} {me : D} {m : M α} {k : D → M (O σ τ β)} {ρ2 : D → Env} (h : Nth ρ i (.me (iN me))) (hc : Xv en ce ρ m) (hX : X ρ) (hs : ∀ a, SetR ρ i (.me (iN a)) (ρ2 a)) (hk : ∀ a, Sm E L ER X rest (ρ2 a) (k a)) : Sm E L ER X (sSeq (sFldMe fl i f ce) rest) ρ (M.bind m fun x => M.bind (M.opt (gFld fl f me (en x))) k) :=
  t_ex hc hX fun x S => by
    unfold M.bind Res.bind M.opt gFld
    cases me with
    | obj cx fs =>
      by_cases hg : fl cx f = true ∧ fs.length < 1000
      · simp only [hg, and_self, if_true]
        have := (hk (.obj cx (pD f (en x) fs))).run S
        have hs' := (hs (.obj cx (pD f (en x) fs))).eq
        simp only [iN, id] at hs'
        simp only [sSeq, h.eq, iN, id, hg, and_self, if_true, hs']
        exact this
      · simp only [hg, if_false]; exact trivial
    | _ => exact trivial
end
theorem for_core {ei : α → D} {tg : Tgt} {body : Stm} {f : α → τ' → M (O τ' τ' β)} {B : α → τ' → Env} (ht : ∀ x s, tg (ei x) (L' s) = some (B x s)) (hb : ∀ x s, Sm L' L' ER X body (B x s) (f x s)) : ∀ (xs : List α) (s : τ') (S : Store), SR1 L' L ER X (forS tg body (xs.map ei) (L' s) S) (forO (τ' := τ) f xs s S)
  | [], s, S => rfl
  | x :: xs, s, S => by
    simp only [List.map_cons, forS, ht x s]
    unfold forO M.bind Res.bind
    have h := (hb x s).run S
    cases q : f x s S with
    | ok o S' =>
      cases o <;> simp only [q, SR1] at h ⊢
      · rw [h]; exact for_core ht hb xs _ S'
      · rw [h]; exact rfl
      · rw [h]; exact for_core ht hb xs _ S'
      · obtain ⟨v, h1, h2⟩ := h
        rw [h1]
        exact ⟨v, rfl, h2⟩
    | exc n S' =>
      simp only [q, SR1] at h ⊢
      obtain ⟨ρ', h1, h2⟩ := h
      rw [h1]
      exact ⟨ρ', rfl, h2⟩
    | stuck => exact trivial
theorem seq_of {r : SR} {t : Res (O σ' τ β)} {k : σ' → M (O σ τ β)} (h : SR1 E' L ER X r t) (hk : ∀ s, Sm E L ER X rest (E' s) (k s)) : SR1 E L ER X (sSeq (fun _ _ => r) rest [] []) (t.bind fun o => match o with
  | .nx s => k s
  | .bk t => M.pure (.bk t)
  | .ct t => M.pure (.ct t)
  | .rt b => M.pure (.rt b)) := by
  cases t with
  | ok o S' =>
    cases o with
    | nx s => simp only [SR1] at h; subst h; exact (hk s).run S'
    | bk s => simp only [SR1] at h; subst h; exact rfl
    | ct s => simp only [SR1] at h; subst h; exact rfl
    | rt b =>
      simp only [SR1] at h
      obtain ⟨v, rfl, h2⟩ := h
      exact ⟨v, rfl, h2⟩
  | exc n S' =>
    simp only [SR1] at h
    obtain ⟨ρ', rfl, h2⟩ := h
    exact ⟨ρ', rfl, h2⟩
  | stuck => exact trivial
theorem t_for {ei : α → D} {ci : Ix} {tg : Tgt} {body : Stm} {f : α → τ' → M (O τ' τ' β)} {B : α → τ' → Env} {mi : M (List α)} {s0 : τ'} {k : τ' → M (O σ τ β)} (hi : Xv (List.map ei) ci ρ mi) (hX : X ρ) (h0 : ρ = L' s0) (ht : ∀ x s, tg (ei x) (L' s) = some (B x s)) (hb : ∀ x s, Sm L' L' ER X body (B x s) (f x s)) (hk : ∀ s, Sm E L ER X rest (L' s) (k s)) : Sm E L ER X (sSeq (sFor ci tg body) rest) ρ (M.bind mi fun xs => bindO (forO f xs s0) k) :=
  t_ex hi hX fun xs S => by
    subst h0
    exact seq_of (for_core ht hb xs s0 S) hk
theorem while_core {tc : Tx} {body : Stm} {t : τ' → M Bool} {f : τ' → M (O τ' τ' β)} (ht : ∀ s, Xv id tc (L' s) (t s)) (hX : ∀ s, X (L' s)) (hb : ∀ s, Sm L' L' ER X body (L' s) (f s)) : ∀ (n : Nat) (s : τ') (S : Store), SR1 L' L ER X (whileS tc body n (L' s) S) (whileO (τ' := τ) t f n s S)
  | 0, s, S => trivial
  | n + 1, s, S => by
    unfold whileS whileO sEx M.bind Res.bind
    have h := ht s S
    cases q : t s S with
    | ok k S1 =>
      simp only [q, RS, id] at h ⊢
      rw [h]
      cases k with
      | false => exact rfl
      | true =>
        simp only [if_true]
        have h := (hb s).run S1
        cases q : f s S1 with
        | ok o S' =>
          cases o <;> simp only [q, SR1] at h ⊢
          · rw [h]; exact while_core ht hX hb n _ S'
          · rw [h]; exact rfl
          · rw [h]; exact while_core ht hX hb n _ S'
          · obtain ⟨v, h1, h2⟩ := h
            rw [h1]
            exact ⟨v, rfl, h2⟩
        | exc n S' =>
          simp only [q, SR1] at h ⊢
          obtain ⟨ρ', h1, h2⟩ := h
          rw [h1]
          exact ⟨ρ', rfl, h2⟩
        | stuck => exact trivial
    | exc n S1 =>
      simp only [q, RS] at h ⊢
      rw [h]
      exact ⟨_, rfl, hX s⟩
    | stuck => exact trivial
theorem t_while {tc : Tx} {body : Stm} {t : τ' → M Bool} {f : τ' → M (O τ' τ' β)} {s0 : τ'} {k : τ' → M (O σ τ β)} (h0 : ρ = L' s0) (hX : ∀ s, X (L' s)) (ht : ∀ s, Xv id tc (L' s) (t s)) (hb : ∀ s, Sm L' L' ER X body (L' s) (f s)) (hk : ∀ s, Sm E L ER X rest (L' s) (k s)) : Sm E L ER X (sSeq (sWhile tc body) rest) ρ (bindO (whileO t f FUEL s0) k) := ⟨fun S => by
  subst h0
  exact seq_of (while_core ht hX hb FUEL s0 S) hk⟩
abbrev XT : Env → Prop := fun _ => True
theorem t_fn {eb : β → D} {m : Fn} {bm : List Bool} {n : Nat} {ds : List D} {mo : M (O Unit Unit β)} {dv : Option β} {Ef : Unit → Env} {Lf : Unit → Env} (hm : m = mkFn bm n c) (hs : StartR bm ds n ρ) (hd : ∀ d, dv = some d → eb d = .non) (h : Sm Ef Lf (RF eb) XT c ρ mo) : FnT eb m ds (runO dv mo) := fun S => by
  subst hm
  have h := h.run S
  unfold mkFn runO M.bind Res.bind
  rw [hs.eq]
  cases q : mo S with
  | ok o S' =>
    cases o <;> simp only [q, SR1] at h ⊢
    · rw [h]
      unfold M.opt
      cases e : dv with
      | none => exact trivial
      | some d => simp only [RS, fin, resF, hd d e]
    · exact trivial
    · exact trivial
    · obtain ⟨v, h1, h2⟩ := h
      rw [h1]
      rcases h2 with rfl | rfl <;> exact rfl
  | exc n S' =>
    simp only [q, SR1] at h ⊢
    obtain ⟨ρ', h1, h2⟩ := h
    rw [h1]
    exact rfl
  | stuck => exact trivial
theorem t_fnN {eb : β → D} {m : Fn} {bm : List Bool} {n : Nat} {ds : List D} {mo : M (O Unit Unit β)} {Ef : Unit → Env} {Lf : Unit → Env} (hm : m = mkFn bm n c) (hs : StartR bm ds n ρ) (h : Sm Ef Lf (RN eb) XT c ρ mo) : FnN eb m ds (runO none mo) := fun S => by
  subst hm
  have h := h.run S
  unfold mkFn runO M.bind Res.bind
  rw [hs.eq]
  cases q : mo S with
  | ok o S' =>
    cases o <;> simp only [q, SR1] at h ⊢
    · exact trivial
    · exact trivial
    · exact trivial
    · obtain ⟨v, h1, h2⟩ := h
      rw [h1, h2]
      exact rfl
  | exc n S' =>
    simp only [q, SR1] at h ⊢
    obtain ⟨ρ', h1, h2⟩ := h
    rw [h1]
    exact rfl
  | stuck => exact trivial
def runI (m : M (O D Unit Unit)) : M D := M.bind m fun o => match o with
  | .nx s => M.pure s
  | _ => M.stuck
theorem t_ini {m : Ini} {bm : List Bool} {n k : Nat} {ds : List D} {mo : M (O D Unit Unit)} {Ef : D → Env} {Lf : Unit → Env} (hm : m = mkIni bm n c) (hs : StartR bm ds n ρ) (hE : ∀ d, Nth (Ef d) 0 (.me (iN d))) (h : Sm Ef Lf (RF iU) XT c (.me (iN (.obj k [])) :: ρ) mo) : FnI iN (m k) ds (runI mo) := fun S => by
  subst hm
  have h := h.run S
  unfold mkIni runI M.bind Res.bind
  rw [hs.eq]
  simp only [iN, id] at h
  cases q : mo S with
  | ok o S' =>
    cases o <;> simp only [q, SR1] at h ⊢
    · rename_i d
      rw [h]
      simp only [(hE d).eq, iN, id]
      exact rfl
    · exact trivial
    · exact trivial
    · exact trivial
  | exc n S' =>
    simp only [q, SR1] at h ⊢
    obtain ⟨ρ', h1, h2⟩ := h
    rw [h1]
    exact rfl
  | stuck => exact trivial
end
theorem t_let {α β σ τ : Type} {E : σ → Env} {L : τ → Env} {ER : β → Val → Prop} {X : Env → Prop} {c : Stm} {a : α} {k : α → M (O σ τ β)} {ρ2 : α → Env} (h : ∀ x, Sm E L ER X c (ρ2 x) (k x)) : Sm E L ER X c (ρ2 a) (M.bind (M.pure a) k) := h a
theorem rf_fr {β : Type} {e : β → D} (b : β) : RF e b (.fr (e b)) := .inl rfl
theorem rf_ow {β : Type} {e : β → D} (b : β) : RF e b (.ow (e b)) := .inr rfl
theorem rn_ow {β : Type} {e : β → D} (b : β) : RN e b (.ow (e b)) := rfl
end PM
set_option maxHeartbeats 1000000
namespace PM
open PySem PySem.Spec PyProof.Rows L2
section
variable {α β : Type} {e : α → D} {xs : List α} {ρ : Env} {i : Nat} {ea : α → D} {d : D}
theorem up_L : eL e xs = eL iN (xs.map e) := by simp [eL, iN]
theorem up_TL : eTL e xs = eTL iN (xs.map e) := by simp [eTL, iN]
end
end PM
namespace PM
open PySem PySem.Spec PyProof.Rows L2
theorem law_by {m : Fn} {ns : List Int} {g : M Bool} (h : FnT D.bl m [.scr ns] g) (hg : ∃ S, g [] = .ok true S) : ∃ S, resF (m [.scr ns] []) = .ok (.bl true) S := by
  obtain ⟨S, e⟩ := hg
  have := h []
  rw [e] at this
  exact ⟨S, this⟩
end PM
set_option maxHeartbeats 1000000
namespace PM
open PySem PySem.Spec PyProof.Rows L2
section
variable {α β γ δ σ σ' τ τ' : Type}
def Ret (m : M α) (P : α → Prop) : Prop := ∃ a, m = M.pure a ∧ P a
theorem Ret.pure {a : α} {P : α → Prop} (h : P a) : Ret (M.pure a) P := ⟨a, rfl, h⟩
theorem Ret.bind {m : M α} {k : α → M β} {P : α → Prop} {Q : β → Prop} (h : Ret m P) (hk : ∀ a, P a → Ret (k a) Q) : Ret (M.bind m k) Q := by
  obtain ⟨a, rfl, ha⟩ := h
  exact hk a ha
theorem Ret.mono {m : M α} {P Q : α → Prop} (h : Ret m P) (hq : ∀ a, P a → Q a) : Ret m Q := by
  obtain ⟨a, rfl, ha⟩ := h
  exact ⟨a, rfl, hq a ha⟩
theorem Ret.eq {m : M α} {a : α} (h : Ret m fun b => b = a) : m = M.pure a := by
  obtain ⟨b, rfl, rfl⟩ := h
  rfl
theorem Ret.of {m : M α} {a : α} {P : α → Prop} (h : m = M.pure a) (hp : P a) : Ret m P := ⟨a, h, hp⟩
theorem Ret.opt {o : Option α} {a : α} {P : α → Prop} (h : o = some a) (hp : P a) : Ret (M.opt o) P := by subst h; exact ⟨a, rfl, hp⟩
theorem Ret.bindO {m : M (O σ τ β)} {k : σ → M (O σ' τ β)} {P : σ → Prop} {Q : O σ' τ β → Prop} (h : Ret m fun o => ∃ s, o = .nx s ∧ P s) (hk : ∀ s, P s → Ret (k s) Q) : Ret (PM.bindO m k) Q := by
  obtain ⟨o, rfl, s, rfl, hs⟩ := h
  exact hk s hs
theorem Ret.runO {d : Option β} {m : M (O Unit Unit β)} {P : β → Prop} (h : Ret m fun o => ∃ b, o = .rt b ∧ P b) : Ret (PM.runO d m) P := by
  obtain ⟨o, rfl, b, rfl, hb⟩ := h
  exact ⟨b, rfl, hb⟩
theorem Ret.for {f : α → τ → M (O τ τ β)} {xs : List α} {s0 : τ} {Q : O τ τ' β → Prop} (I : List α → τ → Prop) (h0 : I [] s0)
    (hs : ∀ pre x post s, xs = pre ++ x :: post → I pre s → Ret (f x s) fun o => (∃ s', (o = .nx s' ∨ o = .ct s') ∧ I (pre ++ [x]) s') ∨ (∃ s', o = .bk s' ∧ Q (.nx s')) ∨ ∃ b, o = .rt b ∧ Q (.rt b))
    (hd : ∀ s, I xs s → Q (.nx s)) : Ret (forO f xs s0) Q := by
  have go : ∀ (post pre : List α) (s : τ), xs = pre ++ post → I pre s → Ret (forO (τ' := τ') f post s) Q := by
    intro post
    induction post with
    | nil =>
      intro pre s e hI
      rw [List.append_nil] at e
      subst e
      exact ⟨_, rfl, hd s hI⟩
    | cons x post ih =>
      intro pre s e hI
      obtain ⟨o, ho, h⟩ := hs pre x post s e hI
      unfold forO
      rw [ho]
      rcases h with ⟨s', rfl | rfl, h⟩ | ⟨s', rfl, h⟩ | ⟨b, rfl, h⟩
      · exact ih (pre ++ [x]) s' (by simp [e]) h
      · exact ih (pre ++ [x]) s' (by simp [e]) h
      · exact ⟨_, rfl, h⟩
      · exact ⟨_, rfl, h⟩
  exact go xs [] s0 rfl h0
theorem Ret.for1 {f : α → τ → M (O τ τ β)} {xs : List α} {s0 : τ} {P : τ → Prop} (I : List α → τ → Prop) (h0 : I [] s0)
    (hs : ∀ pre x post s, xs = pre ++ x :: post → I pre s → Ret (f x s) fun o => ∃ s', o = .nx s' ∧ I (pre ++ [x]) s')
    (hd : ∀ s, I xs s → P s) : Ret (forO (τ' := τ') f xs s0) fun o => ∃ s, o = .nx s ∧ P s :=
  Ret.for I h0 (fun pre x post s e h => (hs pre x post s e h).mono fun o ⟨s', e', h'⟩ => .inl ⟨s', .inl e', h'⟩) fun s h => ⟨s, rfl, hd s h⟩
theorem Ret.forR {f : Int → τ → M (O τ τ β)} {lo : Int} {n : Nat} {s0 : τ} {P : τ → Prop} (I : Nat → τ → Prop) (h0 : I 0 s0)
    (hs : ∀ k s, k < n → I k s → Ret (f (lo + (k : Int)) s) fun o => ∃ s', o = .nx s' ∧ I (k + 1) s')
    (hd : ∀ s, I n s → P s) : Ret (forO (τ' := τ') f (rngI lo n) s0) fun o => ∃ s, o = .nx s ∧ P s := by
  refine Ret.for1 (fun pre s => I pre.length s) h0 ?_ ?_
  · intro pre x post s e hI
    have hl := congrArg List.length e
    simp only [rngI, List.length_map, List.length_range, List.length_append, List.length_cons] at hl
    have hx : (rngI lo n)[pre.length]? = some x := by rw [e]; simp
    simp only [rngI, List.getElem?_map, List.getElem?_range (show pre.length < n by omega), Option.map_some, Option.some.injEq] at hx
    subst hx
    refine (hs _ s (by omega) hI).mono fun o ⟨s', e', h'⟩ => ⟨s', e', by simpa using h'⟩
  · intro s h
    simp only [rngI, List.length_map, List.length_range] at h
    exact hd s h
theorem Ret.while {t : τ → M Bool} {f : τ → M (O τ τ β)} {s0 : τ} {Q : O τ τ' β → Prop} (I : Nat → τ → Prop) {m : Nat} (hm : m < FUEL) (h0 : I m s0)
    (hs : ∀ m s, I m s → ∃ k, t s = M.pure k ∧ (k = false → Q (.nx s)) ∧ (k = true → Ret (f s) fun o => (∃ s' m', (o = .nx s' ∨ o = .ct s') ∧ m' < m ∧ I m' s') ∨ (∃ s', o = .bk s' ∧ Q (.nx s')) ∨ ∃ b, o = .rt b ∧ Q (.rt b))) : Ret (whileO t f FUEL s0) Q := by
  have go : ∀ (n m : Nat) (s : τ), m < n → I m s → Ret (whileO (τ' := τ') t f n s) Q := by
    intro n
    induction n with
    | zero => intro m s h; omega
    | succ n ih =>
      intro m s hmn hI
      obtain ⟨k, hk, h1, h2⟩ := hs m s hI
      unfold whileO
      rw [hk, M.pure_bind]
      cases k with
      | false => exact ⟨_, rfl, h1 rfl⟩
      | true =>
        simp only [if_true]
        obtain ⟨o, ho, h⟩ := h2 rfl
        rw [ho]
        rcases h with ⟨s', m', rfl | rfl, h, h'⟩ | ⟨s', rfl, h⟩ | ⟨b, rfl, h⟩
        · exact ih m' s' (by omega) h'
        · exact ih m' s' (by omega) h'
        · exact ⟨_, rfl, h⟩
        · exact ⟨_, rfl, h⟩
  exact go FUEL m s0 hm h0
theorem lc_go {t : α → M Bool} {e : α → M β} {p : α → Bool} {g : α → β} : ∀ {xs : List α} {acc : List β}, (∀ x ∈ xs, t x = M.pure (p x) ∧ (p x = true → e x = M.pure (g x))) → acc.length + xs.length ≤ 1000000 → lcO t e xs acc = M.pure (acc ++ (xs.filter p).map g)
  | [], acc, _, _ => by unfold lcO; simp
  | x :: xs, acc, h, hl => by
    simp only [List.length_cons] at hl
    obtain ⟨h1, h2⟩ := h x (by simp)
    unfold lcO
    rw [h1, M.noexc_pure, M.pure_bind]
    cases q : p x with
    | true =>
      rw [if_pos rfl, h2 q, M.noexc_pure, M.pure_bind, if_pos (by omega), lc_go (fun y hy => h y (by simp [hy])) (by simp; omega)]
      simp [List.filter_cons, q]
    | false =>
      rw [if_neg (by simp), lc_go (fun y hy => h y (by simp [hy])) (by omega)]
      simp [List.filter_cons, q]
theorem lc_filt {t : α → M Bool} {e : α → M β} (p : α → Bool) (g : α → β) {xs : List α} (h : ∀ x ∈ xs, t x = M.pure (p x) ∧ (p x = true → e x = M.pure (g x))) (hl : xs.length ≤ 1000000) : lcO t e xs [] = M.pure ((xs.filter p).map g) := by
  rw [lc_go h (by simpa using hl)]; rfl
theorem lc_map' {e : α → M β} (g : α → β) {xs : List α} (h : ∀ x ∈ xs, e x = M.pure (g x)) (hl : xs.length ≤ 1000000) : lcO (fun _ => M.pure true) e xs [] = M.pure (xs.map g) := by
  rw [lc_filt (fun _ => true) g (fun x hx => ⟨rfl, fun _ => h x hx⟩) hl, List.filter_eq_self.mpr (by simp)]
theorem gR1_ok {j : Int} (h : -1000000000 ≤ j ∧ j ≤ 1000000000) : gR1 j = some (rngI 0 j.toNat) := by simp [gR1, h]
theorem gR2_ok {i j : Int} (h : (-1000000000 ≤ i ∧ i ≤ 1000000000) ∧ -1000000000 ≤ j ∧ j ≤ 1000000000) : gR2 i j = some (rngI i (j - i).toNat) := by simp [gR2, h]
theorem gMod_ok {i j : Int} (h : 0 < j) : gMod i j = some (i % j) := by simp [gMod, h]
theorem gDiv_ok {i j : Int} (h : 0 < j ∧ j < 1073741824) : gDiv i j = some (i / j) := by simp [gDiv, h]
theorem gMul_okR {i j : Int} (h : -(2 ^ 64) < j ∧ j < 2 ^ 64) : gMul i j = some (i * j) := by
  unfold gMul cMul; rw [if_pos (decide_eq_true (.inr h))]
theorem gCatS_ok {x y : Str} (h : x.length + y.length ≤ 1000000) : gCatS x y = some (x ++ y) := by simp [gCatS, h]
theorem gCatL_ok {x y : List α} (h : x.length + y.length ≤ 1000000) : gCatL x y = some (x ++ y) := by simp [gCatL, h]
theorem gApp_ok {xs : List α} {x : α} (h : xs.length < 1000000) : gApp xs x = some (xs ++ [x]) := by simp [gApp, h]
theorem gIx_ok {xs : List α} {i : Int} {n : Nat} (hi : i = (n : Int)) (h : n < xs.length) : gIx xs i = some xs[n] := by
  unfold gIx L2.atI
  rw [ixN_of hi h, Option.bind_some, List.getElem?_eq_getElem h]
theorem gIx_getD {xs : List α} {i : Int} (d : α) (h : 0 ≤ i ∧ i < xs.length) : gIx xs i = some (xs.getD i.toNat d) := by
  have h2 : i.toNat < xs.length := by omega
  rw [gIx_ok (n := i.toNat) (by omega) h2, List.getD_eq_getElem?_getD, List.getElem?_eq_getElem h2]; rfl
theorem gIx_some {xs : List α} {i : Int} {n : Nat} {x : α} (hi : i = (n : Int)) (h : xs[n]? = some x) : gIx xs i = some x := by
  have h2 := (List.getElem?_eq_some_iff.mp h).1
  rw [gIx_ok hi h2]
  rw [List.getElem?_eq_getElem h2] at h
  exact h
theorem gIxS_ok {x : Str} {i : Int} (h : 0 ≤ i ∧ i < x.length ∧ x.length ≤ 1000000) : gIxS x i = some ((Sl x).getD i.toNat 0) := by
  unfold gIxS
  rw [if_pos h.2.2]
  exact gIx_getD 0 ⟨h.1, by rw [Sl_len]; exact h.2.1⟩
theorem told {e : α → D} {u : D → Option α} (h : Un e u) {a : α} : u (e a) = some a := h.told a
@[simp] theorem uI_told {i : Int} : uI (.int i) = some i := rfl
@[simp] theorem uS_told {i : Str} : uS (.str i) = some i := rfl
@[simp] theorem uB_told {i : Bool} : uB (.bl i) = some i := rfl
@[simp] theorem uN_told : uN .non = some () := rfl
@[simp] theorem uLS_told {xs : List Str} : uL uS (.lst (xs.map .str)) = some xs := (unL unS).told xs
@[simp] theorem uLI_told {xs : List Int} : uL uI (.lst (xs.map .int)) = some xs := (unL unI).told xs
@[simp] theorem uLSI_told {xs : List (Str × Int)} : uL (uP2 uS uI) (.lst (xs.map (eP2 .str .int))) = some xs := (unL (unP2 unS unI)).told xs
@[simp] theorem uLL_told {xs : List (List Str)} : uL (uL uS) (.lst (xs.map (eL .str))) = some xs := (unL (unL unS)).told xs
@[simp] theorem uAny_told {xs : List D} : uL some (.lst xs) = some xs := by
  have := (unL unAny).told xs
  simpa [eL, iN] using this
@[simp] theorem uTAny_told {xs : List D} : uTL some (.tup xs) = some xs := by
  have := (unTL unAny).told xs
  simpa [eTL, iN] using this
end
section
variable {α β γ σ σ' τ τ' : Type}
def WP (m : M α) (S : Store) (Q : α → Store → Prop) (E : Nat → Store → Prop) : Prop := match m S with
  | .ok a S' => Q a S'
  | .exc n S' => E n S'
  | .stuck => False
theorem WP.pure {a : α} {S : Store} {Q : α → Store → Prop} {E : Nat → Store → Prop} (h : Q a S) : WP (M.pure a) S Q E := h
theorem WP.exc {n : Nat} {S : Store} {Q : α → Store → Prop} {E : Nat → Store → Prop} (h : E n S) : WP (M.exc n : M α) S Q E := h
theorem WP.bind {m : M α} {k : α → M β} {S : Store} {Q : β → Store → Prop} {E : Nat → Store → Prop} (h : WP m S (fun a S' => WP (k a) S' Q E) E) : WP (M.bind m k) S Q E := by
  unfold WP M.bind Res.bind at *
  cases q : m S <;> simp only [q] at h ⊢ <;> exact h
theorem WP.ret {m : M α} {P : α → Prop} {S : Store} {Q : α → Store → Prop} {E : Nat → Store → Prop} (h : Ret m P) (hq : ∀ a, P a → Q a S) : WP m S Q E := by
  obtain ⟨a, rfl, ha⟩ := h
  exact hq a ha
theorem WP.end {m : M Bool} (h : WP m [] (fun b _ => b = true) (fun _ _ => False)) : ∃ S, m [] = .ok true S := by
  unfold WP at h
  cases q : m [] <;> simp only [q] at h
  subst h
  exact ⟨_, rfl⟩
theorem Ret.end {m : M Bool} (h : Ret m fun b => b = true) : ∃ S, m [] = .ok true S := by
  obtain ⟨b, rfl, rfl⟩ := h
  exact ⟨[], rfl⟩
end
end PM
set_option maxHeartbeats 1000000
namespace PM
open PySem PySem.Spec PyProof.Rows L2
section
variable {α β γ δ ζ σ σ' τ τ' : Type} {ρ ρ1 : Env} {ca : Ex} {ea : α → D} {ez : ζ → D} {a : α} {ma : M α} {i : Nat} {cr : Ax} {ds : List D} {es : β → List D} {m : Fn} {g : M ζ} {gx : β → M ζ} {mb : M β}
end
section
variable {α β γ σ σ' τ τ' : Type}
def handsM (n : Nat) (S : Store) : List (HTab × M (O σ τ β)) → Res (O σ τ β)
  | [] => .exc n S
  | (hit, h) :: r => match hit n with
    | some true => (match h S with
      | .exc _ _ => .stuck
      | q => q)
    | some false => handsM n S r
    | none => .stuck
variable {E : σ → Env} {L : τ → Env} {ER : β → Val → Prop} {X : Env → Prop} {ρ ρ1 : Env} {rest a b c body suite : Stm} {i : Nat} {m : M (O σ τ β)} {h : Nat → M (O σ τ β)}
inductive HdsT (E : σ → Env) (L : τ → Env) (ER : β → Val → Prop) (ρ : Env) : List (HTab × Stm) → List (HTab × M (O σ τ β)) → Prop
  | nil : HdsT E L ER ρ [] []
  | cons {hit : HTab} {s : Stm} {h : M (O σ τ β)} {l : List (HTab × Stm)} {l' : List (HTab × M (O σ τ β))} (hh : Sm E L ER XT s ρ h) (r : HdsT E L ER ρ l l') : HdsT E L ER ρ ((hit, s) :: l) ((hit, h) :: l')
theorem HdsT.run {n : Nat} {S : Store} (hX : X ρ) {l : List (HTab × Stm)} {l' : List (HTab × M (O σ τ β))} (h : HdsT E L ER ρ l l') : SR1 E L ER X (hands n ρ S l) (handsM n S l') := by
  induction h with
  | nil => exact ⟨ρ, rfl, hX⟩
  | @cons hit s h l l' hh r ih =>
    unfold hands handsM
    cases e : hit n with
    | none => exact trivial
    | some b =>
      cases b with
      | false => exact ih
      | true =>
        have q := hh.run S
        simp only []
        cases e2 : h S with
        | ok o S' =>
          cases o with
          | nx s => simp only [e2, SR1] at q ⊢; rw [q]
          | bk s => simp only [e2, SR1] at q ⊢; rw [q]
          | ct s => simp only [e2, SR1] at q ⊢; rw [q]
          | rt v =>
            simp only [e2, SR1] at q ⊢
            obtain ⟨w, h1, h2⟩ := q
            exact ⟨w, by rw [h1], h2⟩
        | exc n S' => exact trivial
        | stuck => exact trivial
end
section
variable {α β γ σ σ' τ τ' : Type}
variable {E : σ → Env} {L : τ → Env} {ER : β → Val → Prop} {X : Env → Prop} {ρ ρ1 : Env} {rest : Stm} {i : Nat} {en : α → D} {ce ci : Ex}
end
end PM
set_option maxHeartbeats 1000000
namespace PM
open PySem PySem.Spec PyProof.Rows L2
section
variable {α β γ κ : Type} {ρ : Env} {ca cb cc : Ex} {ek : κ → D} {ev : β → D}
end
section
variable {α β γ κ σ σ' τ τ' : Type}
variable {E : σ → Env} {L : τ → Env} {ER : γ → Val → Prop} {X : Env → Prop} {ρ ρ1 : Env} {rest : Stm} {i : Nat} {ek : κ → D} {ev : β → D} {ce ci : Ex}
end
end PM
set_option maxHeartbeats 1000000
namespace PM
open PySem PySem.Spec PyProof.Rows L2
section
variable {α : Type} {ρ : Env} {ca : Ex} {e : α → D}
end
end PM
set_option maxHeartbeats 1000000
namespace PM
open PySem PySem.Spec PyProof.Rows L2
section
variable {α : Type} {ρ : Env} {co ce : Ex}
def gJoin (a : Str) (ys : List Str) : Option Str := if (ys.map (·.length)).sum + ys.length * a.length ≤ 16777216 then some (Txt.join a ys) else none
theorem joinD_g (a : Str) (ys : List Str) : joinD a (ys.map D.str) = (gJoin a ys).map D.str := by
  unfold joinD gJoin
  rw [strsOf_map, Option.bind_some]
  split <;> rfl
theorem x_joinL {mo : M Str} {me : M (List Str)} (ho : Xv D.str co ρ mo) (he : Xv (eL D.str) ce ρ me) : Xv D.str (eJoin co ce) ρ (M.bind mo fun a => M.bind me fun ys => M.opt (gJoin a ys)) := fun S =>
  RS.bind (ho S) fun a S1 => RS.bind (he S1) fun ys S2 => by
    unfold M.opt
    simp only [eL, joinD_g]
    cases gJoin a ys with
    | none => exact trivial
    | some z => exact rfl
theorem x_joinTL {mo : M Str} {me : M (List Str)} (ho : Xv D.str co ρ mo) (he : Xv (eTL D.str) ce ρ me) : Xv D.str (eJoin co ce) ρ (M.bind mo fun a => M.bind me fun ys => M.opt (gJoin a ys)) := fun S =>
  RS.bind (ho S) fun a S1 => RS.bind (he S1) fun ys S2 => by
    unfold M.opt
    simp only [eTL, joinD_g]
    cases gJoin a ys with
    | none => exact trivial
    | some z => exact rfl
end
section
variable {α β γ σ τ : Type} {E : σ → Env} {L : τ → Env} {ER : γ → Val → Prop} {X : Env → Prop} {ρ : Env}
end
end PM
set_option maxHeartbeats 1000000
namespace PM
open PySem PySem.Spec PyProof.Rows L2
theorem SetR.some : ∀ {l l' : Env} {n : Nat} {s : Slot}, SetR l n s l' → ∃ a, l[n]? = some a
  | _, _, _, _, .z => ⟨_, rfl⟩
  | _, _, _, _, .s h => by
    obtain ⟨a, e⟩ := SetR.some h
    exact ⟨a, by simpa using e⟩
section
variable {α β γ σ σ' τ τ' : Type} {en : α → D} {eb : β → D} {ρ ρ1 ρj ρi : Env} {ce c : Ex} {tc : Tx} {i j : Nat} {xss : List (List α)}
section
variable {own : List Nat} {ci : Ix} {tg : Tgt} {tt : Tx} {elt : Ex} {ei : γ → D} {t : γ → M Bool} {fe : γ → M (List α)} {ρw : Env} {ρx : γ → Env}
end
variable {E : σ → Env} {L : τ → Env} {ER : β → Val → Prop} {X : Env → Prop} {rest : Stm} {k : List (List α) → M (O σ τ β)}
end
end PM
set_option maxHeartbeats 1000000
namespace PM
open PySem PySem.Spec PyProof.Rows L2
section
variable {α β : Type} {eb : β → D} {ρ ρ1 ρ2 ρw : Env} {c : Ex} {tc : Tx} {i j : Nat} {v : D}
end
end PM
set_option maxHeartbeats 1000000
namespace PM
open PySem PySem.Spec PyProof.Rows L2
section
variable {ζ : Type} {e : ζ → D} {m : Fn} {ds : List D}
theorem fnT_stuck : FnT e m ds (M.stuck : M ζ) := fun _ => trivial
theorem fnN_stuck : FnN e m ds (M.stuck : M ζ) := fun _ => trivial
end
end PM
set_option maxHeartbeats 1000000
namespace PM
open PySem PySem.Spec PyProof.Rows L2
def baseM (f : Nat → M D) (d : D) : M D := match d with
  | .obj c [] => M.noexc (f c)
  | _ => M.stuck
theorem baseM_new (f : Nat → M D) (c : Nat) : baseM f (.obj c []) = M.noexc (f c) := rfl
section
variable {β σ τ : Type} {E : σ → Env} {L : τ → Env} {ER : β → Val → Prop} {X : Env → Prop} {ρ : Env} {rest : Stm} {ca : Ax} {ds : List D} {ini : Ini} {gx : Nat → M D} {me : D} {k : D → M (O σ τ β)} {ρ2 : D → Env}
theorem t_base (h : Nth ρ 0 (.me (iN me))) (ha : PvA ca ρ ds) (hf : ∀ c, FnI iN (ini c) ds (gx c)) (hs : ∀ a, SetR ρ 0 (.me (iN a)) (ρ2 a)) (hk : ∀ a, Sm E L ER X rest (ρ2 a) (k a)) : Sm E L ER X (sSeq (sBase ini ca) rest) ρ (M.bind (baseM gx me) k) := ⟨fun S => by
  have e0 := h.eq
  cases me with
  | obj c fs =>
    cases fs with
    | nil =>
      have q := hf c S
      unfold baseM M.bind Res.bind M.noexc
      simp only [iN, id] at e0
      simp only [sSeq, sBase, e0, sEx, ha S]
      cases e : gx c S with
      | ok a S' =>
        simp only [e, RS, iN, id] at q ⊢
        have := (hk a).run S'
        have hs' := (hs a).eq
        simp only [iN, id] at hs'
        simp only [q, hs']
        exact this
      | exc n S' => trivial
      | stuck => trivial
    | cons => trivial
  | _ => trivial⟩
end
end PM
set_option maxHeartbeats 1000000
namespace PM
open PySem PySem.Spec PyProof.Rows L2
def newB (d : D) : M D := fun S => .ok (.rf S.length) (S ++ [.box d])
def setF (fl : FTab) (f : Str) (me x : D) : M Unit := fun S => match me with
  | .rf n => (match S[n]? with
    | some (.obj c fs) => if fl c f = true ∧ fs.length < 1000 then .ok () (S.set n (.obj c (pD f x fs))) else .stuck
    | _ => .stuck)
  | _ => .stuck
def getL (d : D) : M (List D) := fun S => match d.at S with
  | .lst xs => .ok xs S
  | _ => .stuck
def isBL (d : D) : M Unit := fun S => match d with
  | .rf n => (match S[n]? with
    | some (.box (.lst _)) => .ok () S
    | _ => .stuck)
  | _ => .stuck
def lmB (f : List D → List D → Option (List D)) (d : D) (es : List D) : M Unit := fun S => match d with
  | .rf n => (match S[n]? with
    | some (.box (.lst ds)) => (match f ds es with
      | some ds' => .ok () (S.set n (.box (.lst ds')))
      | none => .stuck)
    | _ => .stuck)
  | _ => .stuck
section
variable {α β γ σ σ' τ τ' : Type} {ea : α → D} {eb : β → D} {e : α → D} {ρ ρw : Env} {c ca cb co ce ck : Ex} {ax : Ax} {m : M α} {ds : List D}
theorem x_box (h : Xv e c ρ m) : Xv iN (eBox c) ρ (M.bind m fun a => newB (e a)) := fun S => RS.bind (h S) fun a S1 => rfl
theorem x_listS {md : M D} (ha : Xv iN ca ρ md) : Xv iN (eListS ca) ρ (M.bind md fun d => M.bind (getL d) fun xs => M.pure (D.lst xs)) := fun S =>
  RS.bind (ha S) fun d S1 => by
    unfold getL M.bind M.pure
    simp only [iN, id]
    cases q : d.at S1 <;> first | exact trivial | exact rfl
variable {E : σ → Env} {L : τ → Env} {ER : γ → Val → Prop} {X : Env → Prop} {rest : Stm} {i : Nat} {k : M (O σ τ γ)}
theorem t_lmS {f : List D → List D → Option (List D)} {es : β → List D} {md : M D} {mb : M β} (ho : Xv iN co ρ md) (ha : XvA es ax ρ mb) (hX : X ρ) (hk : Sm E L ER X rest ρ k) : Sm E L ER X (sSeq (sLmS f co ax) rest) ρ (M.bind md fun d => M.bind (isBL d) fun _ => M.bind mb fun b => M.bind (lmB f d (es b)) fun _ => k) :=
  t_ex ho hX fun d S => by
    unfold M.bind
    simp only [isBL, iN, id]
    cases d with
    | rf n =>
      simp only [sSeq]
      cases q : S[n]? with
      | none => exact trivial
      | some cell =>
        cases cell with
        | obj _ _ => simp only [Res.bind]; exact trivial
        | box b =>
          cases b <;> first | (simp only [Res.bind]; exact trivial) | skip
          rename_i ds0
          simp only [Res.bind]
          have := (t_ex (rest := rest) (ce := ax) (en := es) (ER := ER) (E := E) (L := L) (f := fun es ρ S => match S[n]? with
            | some (.box (.lst ds)) => (match f ds es with
              | some ds' => .nx ρ (S.set n (.box (.lst ds')))
              | none => .stuck)
            | _ => .stuck) (k := fun b => M.bind (lmB f (.rf n) (es b)) fun _ => k) ha hX fun b S => by
              unfold M.bind Res.bind lmB
              simp only [sSeq]
              cases q : S[n]? with
              | none => exact trivial
              | some cell =>
                cases cell with
                | obj _ _ => exact trivial
                | box b2 =>
                  cases b2 <;> first | exact trivial | skip
                  rename_i ds
                  simp only
                  cases qf : f ds (es b) with
                  | none => exact trivial
                  | some ds' => exact hk.run _).run S
          exact this
    | _ => exact trivial
theorem t_lmSP {f : List D → List D → Option (List D)} {md : M D} (ho : Xv iN co ρ md) (ha : PvA ax ρ ds) (hX : X ρ) (hk : Sm E L ER X rest ρ k) : Sm E L ER X (sSeq (sLmS f co ax) rest) ρ (M.bind md fun d => M.bind (isBL d) fun _ => M.bind (lmB f d ds) fun _ => k) :=
  t_lmS (es := fun _ : Unit => ds) (mb := M.pure ()) ho (fun S => ha S) hX hk
end
end PM
set_option maxHeartbeats 1000000
namespace PM
open PySem PySem.Spec PyProof.Rows L2
theorem strs_of : ∀ ns : List Str, D.strs (ns.map D.str) = some ns
  | [] => rfl
  | n :: r => by rw [List.map_cons, D.strs, strs_of r]; rfl
def gSrtS (xs : List Str) : Option (List Str) := if xs.length < 64 then some (srtS xs) else none
theorem oo_sortS {xs z : List Str} (h : gSrtS xs = some z) : fSorted [eL D.str xs] = some (eL D.str z) := by
  unfold gSrtS at h
  split at h
  · rename_i h64
    cases h
    unfold eL fSorted
    cases xs with
    | nil => simp [D.ints, srtI, srtS]
    | cons x r =>
      have e : D.ints ((x :: r).map D.str) = none := rfl
      simp only [e, strs_of, if_pos h64]
  · cases h
end PM
set_option maxHeartbeats 1000000
namespace PM
open PySem PySem.Spec PyProof.Rows L2
section
variable {α β γ σ σ' τ τ' : Type} {ea : α → D} {eb : β → D} {e : α → D} {ρ ρw : Env} {c ca cb co ce ck : Ex} {ax : Ax} {m : M α} {ds : List D}
open Classical in
noncomputable def forGO (n : Nat) (ds0 : List D) (f : α → τ → M (O τ τ β)) : List α → τ → M (O τ τ' β)
  | [], s => fun S => if S[n]? = some (.box (.lst ds0)) then .ok (.nx s) S else .stuck
  | x :: xs, s => fun S => if S[n]? = some (.box (.lst ds0)) then M.bind (f x s) (fun o => match o with
    | .nx s' => forGO n ds0 f xs s'
    | .ct s' => forGO n ds0 f xs s'
    | .bk s' => M.pure (.nx s')
    | .rt b => M.pure (.rt b)) S else .stuck
theorem forG_core {L' : τ' → Env} {L : τ → Env} {ER : β → Val → Prop} {X : Env → Prop} {n : Nat} {ds0 : List D} {ei : α → D} {tg : Tgt} {body : Stm} {f : α → τ' → M (O τ' τ' β)} {B : α → τ' → Env} (ht : ∀ x s, tg (ei x) (L' s) = some (B x s)) (hb : ∀ x s, Sm L' L' ER X body (B x s) (f x s)) : ∀ (xs : List α) (s : τ') (S : Store), SR1 L' L ER X (forG n ds0 tg body (xs.map ei) (L' s) S) (forGO (τ' := τ) n ds0 f xs s S)
  | [], s, S => by
    simp only [List.map_nil, forG, forGO]
    by_cases q : S[n]? = some (.box (.lst ds0))
    · rw [if_pos q, if_pos q]; exact rfl
    · rw [if_neg q, if_neg q]; exact trivial
  | x :: xs, s, S => by
    simp only [List.map_cons, forG, forGO, ht x s]
    by_cases qb : S[n]? = some (.box (.lst ds0))
    · rw [if_pos qb, if_pos qb]
      unfold M.bind Res.bind
      have h := (hb x s).run S
      cases q : f x s S with
      | ok o S' =>
        cases o <;> simp only [q, SR1] at h ⊢
        · rw [h]; exact forG_core ht hb xs _ S'
        · rw [h]; exact rfl
        · rw [h]; exact forG_core ht hb xs _ S'
        · obtain ⟨v, h1, h2⟩ := h
          rw [h1]
          exact ⟨v, rfl, h2⟩
      | exc n S' =>
        simp only [q, SR1] at h ⊢
        obtain ⟨ρ', h1, h2⟩ := h
        rw [h1]
        exact ⟨ρ', rfl, h2⟩
      | stuck => exact trivial
    · rw [if_neg qb, if_neg qb]; exact trivial
noncomputable def forGM (u : D → Option α) (f : α → τ → M (O τ τ β)) (d : D) (s0 : τ) : M (O τ τ' β) := fun S => match d with
  | .rf n => (match S[n]? with
    | some (.box (.lst ds)) => (match uAll u ds with
      | some xs => forGO n ds f xs s0 S
      | none => .stuck)
    | _ => .stuck)
  | _ => .stuck
theorem t_forG {E : σ → Env} {L : τ → Env} {L' : τ' → Env} {ER : β → Val → Prop} {X : Env → Prop} {rest : Stm} {ei : α → D} {u : D → Option α} {tg : Tgt} {body : Stm} {f : α → τ' → M (O τ' τ' β)} {B : α → τ' → Env} {md : M D} {s0 : τ'} {k : τ' → M (O σ τ β)} (hu : Un ei u) (hi : Xv iN co ρ md) (hX : X ρ) (h0 : ρ = L' s0) (ht : ∀ x s, tg (ei x) (L' s) = some (B x s)) (hb : ∀ x s, Sm L' L' ER X body (B x s) (f x s)) (hk : ∀ s, Sm E L ER X rest (L' s) (k s)) :
    Sm E L ER X (sSeq (sForG co tg body) rest) ρ (M.bind md fun d => bindO (forGM u f d s0) k) :=
  t_ex hi hX fun d S => by
    subst h0
    unfold PM.bindO M.bind forGM
    simp only [iN, id]
    cases d with
    | rf n =>
      simp only [sSeq]
      cases q : S[n]? with
      | none => exact trivial
      | some cell =>
        cases cell with
        | obj _ _ => simp only [Res.bind]; exact trivial
        | box b =>
          cases b <;> first | (simp only [Res.bind]; exact trivial) | skip
          rename_i ds
          simp only
          cases qu : uAll u ds with
          | none => simp only [Res.bind]; exact trivial
          | some xs =>
            simp only
            have e := uAll_back hu ds xs qu
            have core := forG_core (L := L) (n := n) (ds0 := ds) ht hb xs s0 S
            rw [← e] at core
            exact seq_of core hk
    | _ => exact trivial
variable {E : σ → Env} {L : τ → Env} {ER : γ → Val → Prop} {X : Env → Prop} {rest : Stm} {i : Nat} {k : M (O σ τ γ)}
end
end PM
set_option maxHeartbeats 1000000
namespace PM
open PySem PySem.Spec PyProof.Rows L2
end PM
set_option maxHeartbeats 1000000
namespace PM
open PySem PySem.Spec PyProof.Rows L2
section
variable {α β : Type} {eb : β → D} {ρ ρw : Env} {own : List Nat} {ci : Ix} {tg : Tgt} {tt : Tx} {elt : Ex} {ei : α → D} {t : α → M Bool} {fe : α → M β} {ρx : α → Env}
end
end PM
set_option maxHeartbeats 1000000
namespace PM
open PySem PySem.Spec PyProof.Rows L2
end PM
set_option maxHeartbeats 1000000
namespace PM
open PySem PySem.Spec PyProof.Rows L2
section
variable {σ τ β : Type} {E : σ → Env} {L : τ → Env} {ER : β → Val → Prop} {X : Env → Prop} {ρ ρj ρt : Env} {rest sb : Stm} {i j n : Nat} {ci : Ex} {me : M (List Bool)} {mr : M β} {k : M (O σ τ β)}
end
end PM
set_option maxHeartbeats 1000000
namespace PM
open PySem PySem.Spec PyProof.Rows L2
section
variable {α : Type} {e : α → D} {xs ys : List α}
theorem oo_addT {z : List α} (h : gCatL xs ys = some z) : oAdd (eTL e xs) (eTL e ys) = some (eTL e z) := by
  unfold gCatL at h
  split at h
  · rename_i hz
    cases h
    simp only [oAdd, eTL, List.length_map, hz, if_true, List.map_append]
  · cases h
end
section
variable {ρ : Env} {co ce : Ex}
end
section
variable {σ τ β : Type} {E : σ → Env} {L : τ → Env} {ER : β → Val → Prop} {X : Env → Prop} {ρ : Env} {rest : Stm} {i : Nat}
def gPopApp (c : Str) (ds : List D) : Option (List D) := ds.getLast?.bind fun d => if ds.length < 1000000 then some (ds.dropLast ++ [.tup [.str c, d]]) else none
theorem t_popApp {ds : List D} {c : Str} {ρ2 : List D → Env} {k : List D → M (O σ τ β)} (h : Nth ρ i (.ow (eL iN ds))) (hs : ∀ a, SetR ρ i (.ow (eL iN a)) (ρ2 a)) (hk : ∀ a, Sm E L ER X rest (ρ2 a) (k a)) :
    Sm E L ER X (sSeq (sPopApp i c) rest) ρ (M.bind (M.opt (gPopApp c ds)) k) := ⟨fun S => by
  have e0 : eL iN ds = .lst ds := by simp [eL, iN]
  unfold M.bind Res.bind M.opt gPopApp
  cases q : ds.getLast? with
  | none => exact trivial
  | some d =>
    by_cases hl : ds.length < 1000000
    · have := (hk (ds.dropLast ++ [.tup [.str c, d]])).run S
      have hs' := (hs (ds.dropLast ++ [.tup [.str c, d]])).eq
      have e1 : eL iN (ds.dropLast ++ [.tup [.str c, d]]) = .lst (ds.dropLast ++ [.tup [.str c, d]]) := by simp [eL, iN]
      rw [e1] at hs'
      simp only [Option.bind_some, hl, if_true, sSeq, sPopApp, h.eq, e0, q, hs']
      exact this
    · simp only [Option.bind_some, hl, if_false]; exact trivial⟩
end
end PM
set_option maxHeartbeats 1000000
namespace PM
open PySem PySem.Spec PyProof.Rows L2
section
variable {ρ : Env} {co ce ci : Ex} {mo me : M Str} {mi : M Int}
theorem x_sortD {ca : Ex} {m : M (List (Key × D))} (ha : Xv eDic ca ρ m) : Xv (eL D.str) (eSortD ca) ρ (M.bind m fun ds => M.opt (gSortD ds)) := fun S =>
  RS.bind (ha S) fun ds S1 => by
    unfold M.opt
    simp only [eDic]
    cases gSortD ds with
    | none => exact trivial
    | some z => exact rfl
end
end PM
set_option maxHeartbeats 1000000
namespace PM
open PySem PySem.Spec PyProof.Rows L2
section
variable {α σ τ β : Type} {E : σ → Env} {L : τ → Env} {ER : β → Val → Prop} {X : Env → Prop} {ρ : Env} {rest : Stm} {i j : Nat} {en : α → D} {ce : Ex}
end
end PM
set_option maxHeartbeats 1000000
namespace PM
open PySem PySem.Spec PyProof.Rows L2
section
variable {α β γ σ σ' τ τ' : Type}
variable {E : σ → Env} {L : τ → Env} {ER : β → Val → Prop} {X : Env → Prop} {ρ : Env} {body suite : Stm} {m h : M (O σ τ β)}
end
end PM
set_option maxHeartbeats 1000000
namespace PM
open PySem PySem.Spec PyProof.Rows L2
theorem x_sortSet {ρ : Env} {ca : Ex} {m : M (List Str)} (ha : Xv (eL D.str) ca ρ m) : Xv (eL D.str) (eSortSet ca) ρ (M.bind m fun ds => M.opt (gSortSet ds)) := fun S =>
  RS.bind (ha S) fun ds S1 => by
    have e : D.strs (ds.map D.str) = some ds := by
      have : ∀ l : List Str, D.strs (l.map D.str) = some l := fun l => by
        induction l with
        | nil => rfl
        | cons x l ih => simp only [List.map_cons, D.strs, ih, Option.map_some, Option.bind_some]
      exact this ds
    unfold M.opt
    simp only [eL, e, Option.bind_some]
    cases gSortSet ds with
    | none => exact trivial
    | some z => exact rfl
end PM
namespace PM
open PySem PySem.Spec PyProof.Rows L2
theorem NFL : (∀ {α β : Type} (a : α) (k : α → M β), M.bind (M.pure a) k = k a) ∧ (∀ {α β γ : Type} (m : M α) (f : α → M β) (g : β → M γ), M.bind (M.bind m f) g = M.bind m fun a => M.bind (f a) g) ∧ (∀ {α β : Type} (n : Nat) (k : α → M β), M.bind (M.exc n) k = M.exc n) ∧ (∀ {α : Type} (a : α), M.opt (some a) = M.pure a) ∧
  (∀ {σ σ' τ β : Type} (s : σ) (k : σ → M (O σ' τ β)), PM.bindO (M.pure (.nx s)) k = k s) ∧ (∀ {σ σ' τ β : Type} (b : β) (k : σ → M (O σ' τ β)), PM.bindO (M.pure (.rt b)) k = M.pure (.rt b)) ∧ (∀ {σ σ' τ β : Type} (b : τ) (k : σ → M (O σ' τ β)), PM.bindO (M.pure (.bk b)) k = M.pure (.bk b)) ∧ (∀ {σ σ' τ β : Type} (b : τ) (k : σ → M (O σ' τ β)), PM.bindO (M.pure (.ct b)) k = M.pure (.ct b)) ∧ (∀ {σ σ' τ β : Type} (n : Nat) (k : σ → M (O σ' τ β)), PM.bindO (M.exc n) k = M.exc n) ∧ (∀ {α σ σ' τ β : Type} (m : M α) (f : α → M (O σ τ β)) (k : σ → M (O σ' τ β)), PM.bindO (M.bind m f) k = M.bind m fun a => PM.bindO (f a) k) ∧
  (∀ {β : Type} (d : Option β) (s : Unit), PM.runO d (M.pure (.nx s)) = M.opt d) ∧ (∀ {β : Type} (d : Option β) (b : β), PM.runO d (M.pure (.rt b)) = M.pure b) ∧ (∀ {β : Type} (d : Option β) (n : Nat), PM.runO d (M.exc n) = M.exc n) ∧ (∀ {α β : Type} (d : Option β) (m : M α) (f : α → M (O Unit Unit β)), PM.runO d (M.bind m f) = M.bind m fun a => PM.runO d (f a)) :=
  ⟨M.pure_bind, M.bind_assoc, M.exc_bind, M.opt_some, bindO_nx, bindO_rt, bindO_bk, bindO_ct, bindO_exc, bindO_bind, runO_nx, runO_rt, runO_exc, runO_bind⟩
end PM
set_option maxHeartbeats 4000000
namespace PM
open PySem PySem.Spec PyProof.Rows L2
noncomputable section
def fl : FTab := fun c f => (c == 14 && f == "mark") || (c == 15 && f == "number") || (c == 15 && f == "mark") || (c == 17 && f == "one") || (c == 17 && f == "other") || (c == 18 && f == "one") || (c == 18 && f == "other") || (c == 19 && f == "one") || (c == 19 && f == "other") || (c == 21 && f == "parts") || (c == 22 && f == "parts") || (c == 23 && f == "parts")
theorem fl_14_mark : fl 14 "mark" = true := by decide +kernel
theorem fl_15_number : fl 15 "number" = true := by decide +kernel
theorem fl_15_mark : fl 15 "mark" = true := by decide +kernel
theorem fl_17_one : fl 17 "one" = true := by decide +kernel
theorem fl_17_other : fl 17 "other" = true := by decide +kernel
theorem fl_18_one : fl 18 "one" = true := by decide +kernel
theorem fl_18_other : fl 18 "other" = true := by decide +kernel
theorem fl_19_one : fl 19 "one" = true := by decide +kernel
theorem fl_19_other : fl 19 "other" = true := by decide +kernel
theorem fl_21_parts : fl 21 "parts" = true := by decide +kernel
theorem fl_22_parts : fl 22 "parts" = true := by decide +kernel
theorem fl_23_parts : fl 23 "parts" = true := by decide +kernel
def clsN : List Str := ["ShrinkError", "NoThing", "NoPlace", "NoFault", "NoRule", "Spent", "Healthy", "NoText", "NoRow", "Thing", "Row", "Forest", "Table", "Fault", "Has", "Many", "Pair", "Before", "Under", "Beside", "Group", "All", "Any", "Not", "Asker", "Shrinking", "Desk"]
def c_p_Has_marks : Stm := sSeq (sRetN (eLst (aCons (eFld fl "mark" (eB 0)) (aNil)))) (sNx)
def m_p_Has_marks : Fn := mkFn [true] 0 c_p_Has_marks
def c_p_Many_marks : Stm := sSeq (sRetN (eLst (aCons (eFld fl "mark" (eB 0)) (aNil)))) (sNx)
def m_p_Many_marks : Fn := mkFn [true] 0 c_p_Many_marks
def c_p_Pair_marks : Stm := sSeq (sRetN (eFn fSorted (aCons (eBin oAdd (eLst (aCons (eFld fl "one" (eB 0)) (aNil))) (eLc [1] (iL (eLst (aCons (eFld fl "other" (eB 0)) (aNil)))) (gN 1) (eTr (eBin oNe (eB 1) (eFld fl "one" (eB 0)))) (eV 1))) (aNil)))) (sNx)
def m_p_Pair_marks : Fn := mkFn [true] 1 c_p_Pair_marks
def mtq_marks (q : Nat → Fn) : MTab := fun c => if c = 14 then some m_p_Has_marks else if c = 15 then some m_p_Many_marks else if c = 17 then some m_p_Pair_marks else if c = 18 then some m_p_Pair_marks else if c = 19 then some m_p_Pair_marks else if c = 21 then some (q 1) else if c = 22 then some (q 1) else if c = 23 then some (q 1) else none
theorem mtq_marks_14 {q : Nat → Fn} : mtq_marks q 14 = some m_p_Has_marks := rfl
theorem mtq_marks_15 {q : Nat → Fn} : mtq_marks q 15 = some m_p_Many_marks := rfl
theorem mtq_marks_17 {q : Nat → Fn} : mtq_marks q 17 = some m_p_Pair_marks := rfl
theorem mtq_marks_18 {q : Nat → Fn} : mtq_marks q 18 = some m_p_Pair_marks := rfl
theorem mtq_marks_19 {q : Nat → Fn} : mtq_marks q 19 = some m_p_Pair_marks := rfl
theorem mtq_marks_21 {q : Nat → Fn} : mtq_marks q 21 = some (q 1) := rfl
theorem mtq_marks_22 {q : Nat → Fn} : mtq_marks q 22 = some (q 1) := rfl
theorem mtq_marks_23 {q : Nat → Fn} : mtq_marks q 23 = some (q 1) := rfl
def b2_p_sorted_marks (q : Nat → Fn) : Stm := sSeq (sPut 1 (eB 3) (eC (.bl true))) (sSeq (sWipe [3]) (sNx))
def b1_p_sorted_marks (q : Nat → Fn) : Stm := sSeq (sWipe []) (sSeq (sFor (iL (eMeth "marks" (mtq_marks q) (eB 2) aNil resF)) (gN 3) (b2_p_sorted_marks q)) (sSeq (sWipe [2, 3]) (sNx)))
def c_p_sorted_marks (q : Nat → Fn) : Stm := sSeq (sSetN 1 (eDic0)) (sSeq (sWipe []) (sSeq (sFor (iB 0) (gN 2) (b1_p_sorted_marks q)) (sSeq (sRetN (eSortD (eB 1))) (sNx))))
def c_p_Group_marks (q : Nat → Fn) : Stm := sSeq (sRetN (eCallN (q 0) (aCons (eFld fl "parts" (eB 0)) (aNil)))) (sNx)
def g_p_sorted_marks : Nat → Nat → Fn
  | 0 => fun _ => stuckFn
  | r + 1 => fun i => match i with
    | 0 => mkFn [true] 3 (c_p_sorted_marks (g_p_sorted_marks r))
    | 1 => mkFn [true] 0 (c_p_Group_marks (g_p_sorted_marks r))
    | _ => stuckFn
def mt_marks : MTab := mtq_marks (g_p_sorted_marks 24)
def c_p_Fault_grows : Stm := sSeq (sRet (eC (.bl true))) (sNx)
def m_p_Fault_grows : Fn := mkFn [true] 0 c_p_Fault_grows
def c_p_Has_init : Stm := sSeq (sFldMe fl 0 "mark" (eV 1)) (sSeq (sWipe [1]) (sNx))
def m_p_Has_init : Ini := mkIni [false] 0 c_p_Has_init
def c_p_Has_shown : Stm := sSeq (sRet (eBin oAdd (eBin oAdd (eC (.str "has(")) (eFld fl "mark" (eB 0))) (eC (.str ")")))) (sNx)
def m_p_Has_shown : Fn := mkFn [true] 0 c_p_Has_shown
def c_p_Many_init : Stm := sSeq (sFldMe fl 0 "number" (eV 1)) (sSeq (sFldMe fl 0 "mark" (eV 2)) (sSeq (sWipe [1, 2]) (sNx)))
def m_p_Many_init : Ini := mkIni [false, false] 0 c_p_Many_init
def c_p_Many_shown : Stm := sSeq (sRet (eBin oAdd (eBin oAdd (eBin oAdd (eBin oAdd (eC (.str "many(")) (eFn fStr (aCons (eFld fl "number" (eB 0)) (aNil)))) (eC (.str ","))) (eFld fl "mark" (eB 0))) (eC (.str ")")))) (sNx)
def m_p_Many_shown : Fn := mkFn [true] 0 c_p_Many_shown
def c_p_Pair_init : Stm := sSeq (sFldMe fl 0 "one" (eV 1)) (sSeq (sFldMe fl 0 "other" (eV 2)) (sSeq (sWipe [1, 2]) (sNx)))
def m_p_Pair_init : Ini := mkIni [false, false] 0 c_p_Pair_init
def c_p_All_word : Stm := sSeq (sRet (eC (.str "all"))) (sNx)
def m_p_All_word : Fn := mkFn [true] 0 c_p_All_word
def c_p_Any_word : Stm := sSeq (sRet (eC (.str "any"))) (sNx)
def m_p_Any_word : Fn := mkFn [true] 0 c_p_Any_word
def c_p_Before_word : Stm := sSeq (sRet (eC (.str "before"))) (sNx)
def m_p_Before_word : Fn := mkFn [true] 0 c_p_Before_word
def c_p_Beside_word : Stm := sSeq (sRet (eC (.str "beside"))) (sNx)
def m_p_Beside_word : Fn := mkFn [true] 0 c_p_Beside_word
def c_p_Not_word : Stm := sSeq (sRet (eC (.str "not"))) (sNx)
def m_p_Not_word : Fn := mkFn [true] 0 c_p_Not_word
def c_p_Under_word : Stm := sSeq (sRet (eC (.str "under"))) (sNx)
def m_p_Under_word : Fn := mkFn [true] 0 c_p_Under_word
def mt_word : MTab := fun c => if c = 17 then some m_p_Before_word else if c = 18 then some m_p_Under_word else if c = 19 then some m_p_Beside_word else if c = 21 then some m_p_All_word else if c = 22 then some m_p_Any_word else if c = 23 then some m_p_Not_word else none
theorem mt_word_17 : mt_word 17 = some m_p_Before_word := rfl
theorem mt_word_18 : mt_word 18 = some m_p_Under_word := rfl
theorem mt_word_19 : mt_word 19 = some m_p_Beside_word := rfl
theorem mt_word_21 : mt_word 21 = some m_p_All_word := rfl
theorem mt_word_22 : mt_word 22 = some m_p_Any_word := rfl
theorem mt_word_23 : mt_word 23 = some m_p_Not_word := rfl
def c_p_Pair_shown : Stm := sSeq (sRet (eBin oAdd (eBin oAdd (eBin oAdd (eBin oAdd (eBin oAdd (eMeth "word" mt_word (eB 0) aNil resF) (eC (.str "("))) (eFld fl "one" (eB 0))) (eC (.str ","))) (eFld fl "other" (eB 0))) (eC (.str ")")))) (sNx)
def m_p_Pair_shown : Fn := mkFn [true] 0 c_p_Pair_shown
def c_p_Beside_grows : Stm := sSeq (sRet (eC (.bl false))) (sNx)
def m_p_Beside_grows : Fn := mkFn [true] 0 c_p_Beside_grows
def c_p_Group_init : Stm := sSeq (sFldMe fl 0 "parts" (eListS (eB 1))) (sSeq (sWipe [1]) (sNx))
def m_p_Group_init : Ini := mkIni [true] 0 c_p_Group_init
def mtq_shown (q : Nat → Fn) : MTab := fun c => if c = 14 then some m_p_Has_shown else if c = 15 then some m_p_Many_shown else if c = 17 then some m_p_Pair_shown else if c = 18 then some m_p_Pair_shown else if c = 19 then some m_p_Pair_shown else if c = 21 then some (q 0) else if c = 22 then some (q 0) else if c = 23 then some (q 0) else none
theorem mtq_shown_14 {q : Nat → Fn} : mtq_shown q 14 = some m_p_Has_shown := rfl
theorem mtq_shown_15 {q : Nat → Fn} : mtq_shown q 15 = some m_p_Many_shown := rfl
theorem mtq_shown_17 {q : Nat → Fn} : mtq_shown q 17 = some m_p_Pair_shown := rfl
theorem mtq_shown_18 {q : Nat → Fn} : mtq_shown q 18 = some m_p_Pair_shown := rfl
theorem mtq_shown_19 {q : Nat → Fn} : mtq_shown q 19 = some m_p_Pair_shown := rfl
theorem mtq_shown_21 {q : Nat → Fn} : mtq_shown q 21 = some (q 0) := rfl
theorem mtq_shown_22 {q : Nat → Fn} : mtq_shown q 22 = some (q 0) := rfl
theorem mtq_shown_23 {q : Nat → Fn} : mtq_shown q 23 = some (q 0) := rfl
def c_p_Group_shown (q : Nat → Fn) : Stm := sSeq (sRet (eBin oAdd (eBin oAdd (eBin oAdd (eMeth "word" mt_word (eB 0) aNil resF) (eC (.str "("))) (eJoin (eC (.str ",")) (eLc [1] (iL (eFld fl "parts" (eB 0))) (gN 1) (tYesD) (eMeth "shown" (mtq_shown q) (eB 1) aNil resF)))) (eC (.str ")")))) (sNx)
def g_p_Group_shown : Nat → Nat → Fn
  | 0 => fun _ => stuckFn
  | r + 1 => fun i => match i with
    | 0 => mkFn [true] 1 (c_p_Group_shown (g_p_Group_shown r))
    | _ => stuckFn
def mt_shown : MTab := mtq_shown (g_p_Group_shown 24)
def c_p_Not_grows : Stm := sSeq (sRet (eC (.bl false))) (sNx)
def m_p_Not_grows : Fn := mkFn [true] 0 c_p_Not_grows
def mtq_grows (q : Nat → Fn) : MTab := fun c => if c = 14 then some m_p_Fault_grows else if c = 15 then some m_p_Fault_grows else if c = 17 then some m_p_Fault_grows else if c = 18 then some m_p_Fault_grows else if c = 19 then some m_p_Beside_grows else if c = 21 then some (q 0) else if c = 22 then some (q 0) else if c = 23 then some m_p_Not_grows else none
theorem mtq_grows_14 {q : Nat → Fn} : mtq_grows q 14 = some m_p_Fault_grows := rfl
theorem mtq_grows_15 {q : Nat → Fn} : mtq_grows q 15 = some m_p_Fault_grows := rfl
theorem mtq_grows_17 {q : Nat → Fn} : mtq_grows q 17 = some m_p_Fault_grows := rfl
theorem mtq_grows_18 {q : Nat → Fn} : mtq_grows q 18 = some m_p_Fault_grows := rfl
theorem mtq_grows_19 {q : Nat → Fn} : mtq_grows q 19 = some m_p_Beside_grows := rfl
theorem mtq_grows_21 {q : Nat → Fn} : mtq_grows q 21 = some (q 0) := rfl
theorem mtq_grows_22 {q : Nat → Fn} : mtq_grows q 22 = some (q 0) := rfl
theorem mtq_grows_23 {q : Nat → Fn} : mtq_grows q 23 = some m_p_Not_grows := rfl
def c_p_Group_grows (q : Nat → Fn) : Stm := sSeq (sRet (eFn fAll (aCons (eLc [1] (iL (eFld fl "parts" (eB 0))) (gN 1) (tYesD) (eMeth "grows" (mtq_grows q) (eB 1) aNil resF)) (aNil)))) (sNx)
def g_p_Group_grows : Nat → Nat → Fn
  | 0 => fun _ => stuckFn
  | r + 1 => fun i => match i with
    | 0 => mkFn [true] 1 (c_p_Group_grows (g_p_Group_grows r))
    | _ => stuckFn
def mt_grows : MTab := mtq_grows (g_p_Group_grows 24)
def c_p_Not_init : Stm := sSeq (sBase m_p_Group_init (aCons (eLst (aCons (eV 1) (aNil))) (aNil))) (sSeq (sWipe [1]) (sNx))
def m_p_Not_init : Ini := mkIni [false] 0 c_p_Not_init
def c_l_cell_at : Stm := sSeq (sIf (eTr (eBin oLt (eB 1) (eFn fLen (aCons (eB 0) (aNil))))) (sSeq (sRet (eBin oIx (eB 0) (eB 1))) (sNx)) (sNx)) (sSeq (sRet (eBin oAdd (eBin oMulI (eC (.int 13)) (eB 1)) (eC (.int 3)))) (sNx))
def m_l_cell_at : Fn := mkFn [true, true] 0 c_l_cell_at
def b2_l_names : Stm := sSeq (sSet 8 (eBin oAdd (eB 8) (eBin oIx (eB 2) (eBin oMod (eB 6) (eC (.int 26)))))) (sSeq (sSet 6 (eBin oDiv (eB 6) (eC (.int 26)))) (sSeq (sWipe [7, 10, 11]) (sNx)))
def b1_l_names : Stm := sSeq (sSet 8 (eBin oIx (eB 2) (eBin oMod (eBin oDiv (eB 6) (eC (.int 8))) (eC (.int 26))))) (sSeq (sSet 9 (eBin oMod (eB 6) (eC (.int 8)))) (sSeq (sSet 6 (eBin oDiv (eB 6) (eC (.int 208)))) (sSeq (sWipe [7]) (sSeq (sFor (iR1 (aCons (eB 9) (aNil))) (gN 10) b2_l_names) (sSeq (sLm 5 lAppend (aCons (eV 8) (aNil))) (sSeq (sWipe [7, 8, 9, 10, 11]) (sNx)))))))
def b4_l_names : Stm := sSeq (sSet 11 (eBin oAdd (eBin oDiv (eB 0) (eBin oAdd (eC (.int 64)) (eBin oMulI (eC (.int 3)) (eB 10)))) (eBin oMulI (eB 10) (eB 10)))) (sSeq (sIf (eTr (eBin oEq (eB 10) (eB 4))) (sSeq (sSet 11 (eBin oAdd (eB 11) (eB 7))) (sSeq (sWipe [6, 9, 10]) (sNx))) (sSeq (sWipe [6, 9, 10]) (sNx))) (sSeq (sSet 8 (eBin oAdd (eB 8) (eBin oIx (eB 2) (eBin oMod (eB 11) (eC (.int 26)))))) (sSeq (sWipe [6, 9, 10, 11]) (sNx))))
def b3_l_names : Stm := sSeq (sSet 8 (eC (.str ""))) (sSeq (sWipe []) (sSeq (sFor (iR1 (aCons (eB 3) (aNil))) (gN 10) b4_l_names) (sSeq (sLm 5 lAppend (aCons (eV 8) (aNil))) (sSeq (sWipe [6, 7, 8, 9, 10, 11]) (sNx)))))
def c_l_names : Stm := sSeq (sSet 2 (eC (.str "abcdefghijklmnopqrstuvwxyz"))) (sSeq (sSet 3 (eBin oAdd (eC (.int 1)) (eBin oMod (eB 0) (eC (.int 8))))) (sSeq (sSet 4 (eBin oMod (eBin oDiv (eB 0) (eC (.int 8))) (eB 3))) (sSeq (sSetN 5 (eLst (aNil))) (sSeq (sSet 6 (eBin oDiv (eB 0) (eC (.int 2)))) (sSeq (sWipe []) (sSeq (sFor (iR1 (aCons (eBin oMulI (eBin oMulI (eB 1) (eBin oMod (eB 0) (eC (.int 2)))) (eFn fInt (aCons (eBin oGt (eB 0) (eBin oPow (eC (.int 10)) (eC (.int 9)))) (aNil)))) (aNil))) (gN 7) b1_l_names) (sSeq (sIf (eTr (eBin oNe (eB 5) (eLst (aNil)))) (sSeq (sRetV 5) (sNx)) (sNx)) (sSeq (sWipe [6]) (sSeq (sFor (iR1 (aCons (eB 1) (aNil))) (gN 7) b3_l_names) (sSeq (sRetV 5) (sNx)))))))))))
def m_l_names : Fn := mkFn [true, true] 10 c_l_names
def c_l_leaf : Stm := sSeq (sSet 2 (eBin oIx (eB 1) (eBin oMod (eBin oDiv (eB 0) (eC (.int 8))) (eFn fLen (aCons (eB 1) (aNil)))))) (sSeq (sSet 3 (eBin oIx (eB 1) (eBin oMod (eBin oDiv (eB 0) (eBin oMulI (eC (.int 8)) (eFn fLen (aCons (eB 1) (aNil))))) (eFn fLen (aCons (eB 1) (aNil)))))) (sSeq (sSet 4 (eBin oIx (eLst (aCons (eC (.str "has")) (aCons (eC (.str "many")) (aCons (eC (.str "before")) (aCons (eC (.str "under")) (aCons (eC (.str "beside")) (aCons (eC (.str "has")) (aCons (eC (.str "before")) (aCons (eC (.str "under")) (aNil)))))))))) (eBin oMod (eB 0) (eC (.int 8))))) (sSeq (sIf (eTr (eBin oEq (eB 4) (eC (.str "has")))) (sSeq (sRet (eTup (aCons (eC (.str "has")) (aCons (eV 2) (aNil))))) (sNx)) (sNx)) (sSeq (sIf (eTr (eBin oEq (eB 4) (eC (.str "many")))) (sSeq (sRet (eTup (aCons (eC (.str "many")) (aCons (eBin oAdd (eC (.int 1)) (eBin oMod (eBin oDiv (eB 0) (eBin oMulI (eC (.int 8)) (eFn fLen (aCons (eB 1) (aNil))))) (eC (.int 13)))) (aCons (eV 2) (aNil)))))) (sNx)) (sNx)) (sSeq (sRet (eTup (aCons (eV 4) (aCons (eV 2) (aCons (eV 3) (aNil)))))) (sNx))))))
def m_l_leaf : Fn := mkFn [true, true] 3 c_l_leaf
def b1_l_term : Stm := sSeq (sSet 6 (eCall m_l_cell_at (aCons (eB 0) (aCons (eBin oAdd (eB 1) (eB 5)) (aNil))))) (sSeq (sSet 7 (eBin oMod (eB 6) (eC (.int 6)))) (sSeq (sIf (eTr (eBin oEq (eB 7) (eC (.int 5)))) (sSeq (sPopApp 4 "not") (sNx)) (sSeq (sIf (tAndD (eTr (eBin oGt (eB 7) (eC (.int 2)))) (eTr (eBin oGt (eFn fLen (aCons (eB 4) (aNil))) (eC (.int 1))))) (sSeq (sSet 8 (eBin oAdd (eC (.int 2)) (eBin oMod (eBin oDiv (eB 6) (eC (.int 6))) (eBin oSub (eFn fMin2 (aCons (eC (.int 6)) (aCons (eFn fLen (aCons (eB 4) (aNil))) (aNil)))) (eC (.int 1)))))) (sSeq (sSetN 4 (eBin oCat (eCut oCut (eB 4) (pNo) (pAt (eUn oNeg (eB 8)))) (eLst (aCons (eBin oAdd (eTup (aCons (eBin oIx (eLst (aCons (eC (.str "all")) (aCons (eC (.str "any")) (aNil)))) (eBin oSub (eB 7) (eC (.int 3)))) (aNil))) (eFn fTuple (aCons (eCut oCut (eB 4) (pAt (eUn oNeg (eB 8))) (pNo)) (aNil)))) (aNil))))) (sNx))) (sSeq (sLm 4 lAppend (aCons (eCall m_l_leaf (aCons (eBin oDiv (eB 6) (eC (.int 6))) (aCons (eB 3) (aNil)))) (aNil))) (sNx))) (sNx))) (sSeq (sWipe [5, 6, 7, 8]) (sNx))))
def b2_l_term : Stm := sSeq (sSet 8 (eFn fMin2 (aCons (eC (.int 6)) (aCons (eFn fLen (aCons (eB 4) (aNil))) (aNil))))) (sSeq (sSetN 4 (eBin oCat (eCut oCut (eB 4) (pNo) (pAt (eUn oNeg (eB 8)))) (eLst (aCons (eBin oAdd (eTup (aCons (eBin oIx (eLst (aCons (eC (.str "any")) (aCons (eC (.str "all")) (aNil)))) (eBin oMod (eBin oDiv (eCall m_l_cell_at (aCons (eB 0) (aCons (eB 1) (aNil)))) (eC (.int 7))) (eC (.int 2)))) (aNil))) (eFn fTuple (aCons (eCut oCut (eB 4) (pAt (eUn oNeg (eB 8))) (pNo)) (aNil)))) (aNil))))) (sSeq (sWipe [2, 3, 5, 6, 7, 8]) (sNx)))
def c_l_term : Stm := sSeq (sSetN 4 (eLst (aCons (eCall m_l_leaf (aCons (eCall m_l_cell_at (aCons (eB 0) (aCons (eB 1) (aNil)))) (aCons (eB 3) (aNil)))) (aNil)))) (sSeq (sWipe []) (sSeq (sFor (iR2 (aCons (eC (.int 1)) (aCons (eB 2) (aNil)))) (gN 5) b1_l_term) (sSeq (sWipe [2, 3]) (sSeq (sWhile (eTr (eBin oGt (eFn fLen (aCons (eB 4) (aNil))) (eC (.int 1)))) b2_l_term) (sSeq (sRet (eBin oIx (eB 4) (eC (.int 0)))) (sNx))))))
def m_l_term : Fn := mkFn [true, true, true, true] 5 c_l_term
def c_l_text (q : Nat → Fn) : Stm := sSeq (sIf (eTr (eBin oEq (eBin oIx (eB 0) (eC (.int 0))) (eC (.str "many")))) (sSeq (sRet (eBin oAdd (eBin oAdd (eBin oAdd (eBin oAdd (eC (.str "many(")) (eFn fStr (aCons (eBin oIx (eB 0) (eC (.int 1))) (aNil)))) (eC (.str ","))) (eBin oIx (eB 0) (eC (.int 2)))) (eC (.str ")")))) (sNx)) (sNx)) (sSeq (sIf (eTr (eBin oIn (eBin oIx (eB 0) (eC (.int 0))) (eTup (aCons (eC (.str "all")) (aCons (eC (.str "any")) (aCons (eC (.str "not")) (aNil))))))) (sSeq (sRet (eBin oAdd (eBin oAdd (eBin oAdd (eBin oIx (eB 0) (eC (.int 0))) (eC (.str "("))) (eJoin (eC (.str ",")) (eLc [1] (iT (eCut oCut (eB 0) (pAt (eC (.int 1))) (pNo))) (gN 1) (tYesD) (eCall (q 0) (aCons (eB 1) (aNil)))))) (eC (.str ")")))) (sNx)) (sNx)) (sSeq (sRet (eBin oAdd (eBin oAdd (eBin oAdd (eBin oIx (eB 0) (eC (.int 0))) (eC (.str "("))) (eJoin (eC (.str ",")) (eCut oCut (eB 0) (pAt (eC (.int 1))) (pNo)))) (eC (.str ")")))) (sNx)))
def g_l_text : Nat → Nat → Fn
  | 0 => fun _ => stuckFn
  | r + 1 => fun i => match i with
    | 0 => mkFn [true] 1 (c_l_text (g_l_text r))
    | _ => stuckFn
def m_l_text : Fn := g_l_text 24 0
def b1_l_marks (q : Nat → Fn) : Stm := sSeq (sSet 1 (eBin oAdd (eB 1) (eCall (q 0) (aCons (eB 2) (aNil))))) (sSeq (sWipe [2]) (sNx))
def c_l_marks (q : Nat → Fn) : Stm := sSeq (sIf (eTr (eBin oEq (eBin oIx (eB 0) (eC (.int 0))) (eC (.str "many")))) (sSeq (sRetN (eLst (aCons (eBin oIx (eB 0) (eC (.int 2))) (aNil)))) (sNx)) (sNx)) (sSeq (sIf (eTr (eBin oNin (eBin oIx (eB 0) (eC (.int 0))) (eTup (aCons (eC (.str "all")) (aCons (eC (.str "any")) (aCons (eC (.str "not")) (aNil))))))) (sSeq (sRetN (eFn fList (aCons (eCut oCut (eB 0) (pAt (eC (.int 1))) (pNo)) (aNil)))) (sNx)) (sNx)) (sSeq (sSet 1 (eLst (aNil))) (sSeq (sWipe []) (sSeq (sFor (iT (eCut oCut (eB 0) (pAt (eC (.int 1))) (pNo))) (gN 2) (b1_l_marks q)) (sSeq (sRet (eV 1)) (sNx))))))
def g_l_marks : Nat → Nat → Fn
  | 0 => fun _ => stuckFn
  | r + 1 => fun i => match i with
    | 0 => mkFn [true] 2 (c_l_marks (g_l_marks r))
    | _ => stuckFn
def m_l_marks : Fn := g_l_marks 24 0
def c_l_grows (q : Nat → Fn) : Stm := sSeq (sIf (eTr (eBin oIn (eBin oIx (eB 0) (eC (.int 0))) (eTup (aCons (eC (.str "beside")) (aCons (eC (.str "not")) (aNil)))))) (sSeq (sRet (eC (.bl false))) (sNx)) (sNx)) (sSeq (sIf (eTr (eBin oNin (eBin oIx (eB 0) (eC (.int 0))) (eTup (aCons (eC (.str "all")) (aCons (eC (.str "any")) (aNil)))))) (sSeq (sRet (eC (.bl true))) (sNx)) (sNx)) (sSeq (sRet (eFn fAll (aCons (eLc [1] (iT (eCut oCut (eB 0) (pAt (eC (.int 1))) (pNo))) (gN 1) (tYesD) (eCall (q 0) (aCons (eB 1) (aNil)))) (aNil)))) (sNx)))
def g_l_grows : Nat → Nat → Fn
  | 0 => fun _ => stuckFn
  | r + 1 => fun i => match i with
    | 0 => mkFn [true] 1 (c_l_grows (g_l_grows r))
    | _ => stuckFn
def m_l_grows : Fn := g_l_grows 24 0
def c_l_fault (q : Nat → Fn) : Stm := sSeq (sIf (eTr (eBin oEq (eBin oIx (eB 0) (eC (.int 0))) (eC (.str "has")))) (sSeq (sRetN (eMake (m_p_Has_init 14) (aCons (eBin oIx (eB 0) (eC (.int 1))) (aNil)))) (sNx)) (sNx)) (sSeq (sIf (eTr (eBin oEq (eBin oIx (eB 0) (eC (.int 0))) (eC (.str "many")))) (sSeq (sRetN (eMake (m_p_Many_init 15) (aCons (eBin oIx (eB 0) (eC (.int 1))) (aCons (eBin oIx (eB 0) (eC (.int 2))) (aNil))))) (sNx)) (sNx)) (sSeq (sIf (eTr (eBin oEq (eBin oIx (eB 0) (eC (.int 0))) (eC (.str "before")))) (sSeq (sRetN (eMake (m_p_Pair_init 17) (aCons (eBin oIx (eB 0) (eC (.int 1))) (aCons (eBin oIx (eB 0) (eC (.int 2))) (aNil))))) (sNx)) (sNx)) (sSeq (sIf (eTr (eBin oEq (eBin oIx (eB 0) (eC (.int 0))) (eC (.str "under")))) (sSeq (sRetN (eMake (m_p_Pair_init 18) (aCons (eBin oIx (eB 0) (eC (.int 1))) (aCons (eBin oIx (eB 0) (eC (.int 2))) (aNil))))) (sNx)) (sNx)) (sSeq (sIf (eTr (eBin oEq (eBin oIx (eB 0) (eC (.int 0))) (eC (.str "beside")))) (sSeq (sRetN (eMake (m_p_Pair_init 19) (aCons (eBin oIx (eB 0) (eC (.int 1))) (aCons (eBin oIx (eB 0) (eC (.int 2))) (aNil))))) (sNx)) (sNx)) (sSeq (sIf (eTr (eBin oEq (eBin oIx (eB 0) (eC (.int 0))) (eC (.str "not")))) (sSeq (sRetN (eMake (m_p_Not_init 23) (aCons (eCall (q 0) (aCons (eBin oIx (eB 0) (eC (.int 1))) (aCons (eB 1) (aNil)))) (aNil)))) (sNx)) (sNx)) (sSeq (sSet 2 (eBox (eLc [3] (iT (eCut oCut (eB 0) (pAt (eC (.int 1))) (pNo))) (gN 3) (tYesD) (eCall (q 0) (aCons (eB 3) (aCons (eB 1) (aNil))))))) (sSeq (sLmS lAppend (eB 1) (aCons (eV 2) (aNil))) (sSeq (sIf (eTr (eBin oEq (eBin oIx (eB 0) (eC (.int 0))) (eC (.str "all")))) (sSeq (sRetN (eMake (m_p_Group_init 21) (aCons (eB 2) (aNil)))) (sNx)) (sNx)) (sSeq (sRetN (eMake (m_p_Group_init 22) (aCons (eB 2) (aNil)))) (sNx))))))))))
def g_l_fault : Nat → Nat → Fn
  | 0 => fun _ => stuckFn
  | r + 1 => fun i => match i with
    | 0 => mkFn [true, true] 2 (c_l_fault (g_l_fault r))
    | _ => stuckFn
def m_l_fault : Fn := g_l_fault 24 0
def b1_p_law : Stm := sSeq (sLmS lReverse (eB 5) aNil) (sSeq (sLmS lPop (eB 5) aNil) (sSeq (sWipe [5, 6, 7, 8, 9, 10]) (sNx)))
def b2_p_law : Stm := sSeq (sSetN 10 (eMeth "marks" mt_marks (eB 4) aNil resN)) (sSeq (sIf (tOrD (tNotD (eTr (eIsT "list" (eB 10)))) (eTr (eBin oNe (eB 10) (eB 6)))) (sSeq (sRet (eC (.bl false))) (sNx)) (sNx)) (sSeq (sLm 10 lAppend (aCons (eC (.str "a")) (aNil))) (sSeq (sWipe [3, 5, 7, 8, 9, 10]) (sNx))))
def c_p_law : Stm := sSeq (sSet 1 (eCall m_l_names (aCons (eCall m_l_cell_at (aCons (eB 0) (aCons (eC (.int 0)) (aNil)))) (aCons (eC (.int 6)) (aNil))))) (sSeq (sSet 2 (eCall m_l_term (aCons (eB 0) (aCons (eC (.int 2)) (aCons (eBin oAdd (eC (.int 1)) (eBin oMod (eCall m_l_cell_at (aCons (eB 0) (aCons (eC (.int 1)) (aNil)))) (eC (.int 6)))) (aCons (eB 1) (aNil))))))) (sSeq (sSet 3 (eBox (eLst (aNil)))) (sSeq (sSet 4 (eCall m_l_fault (aCons (eB 2) (aCons (eB 3) (aNil))))) (sSeq (sWipe []) (sSeq (sForG (eB 3) (gN 5) b1_p_law) (sSeq (sSet 6 (eSortSet (eCall m_l_marks (aCons (eB 2) (aNil))))) (sSeq (sWipe [3]) (sSeq (sFor (iR1 (aCons (eC (.int 2)) (aNil))) (gN 7) b2_p_law) (sSeq (sSet 8 (eBin oAdd (eBin oPow (eC (.int 10)) (eC (.int 9))) (eBin oMod (eCall m_l_cell_at (aCons (eB 0) (aCons (eC (.int 8)) (aNil)))) (eBin oPow (eC (.int 10)) (eC (.int 50)))))) (sSeq (sIf (eTr (eBin oNe (eMeth "shown" mt_shown (eMake (m_p_Many_init 15) (aCons (eV 8) (aCons (eBin oIx (eB 1) (eC (.int 0))) (aNil)))) aNil resF) (eBin oAdd (eBin oAdd (eBin oAdd (eBin oAdd (eC (.str "many(")) (eFn fStr (aCons (eB 8) (aNil)))) (eC (.str ","))) (eBin oIx (eB 1) (eC (.int 0)))) (eC (.str ")"))))) (sSeq (sRet (eC (.bl false))) (sNx)) (sNx)) (sSeq (sSet 9 (eMeth "grows" mt_grows (eB 4) aNil resF)) (sSeq (sIf (tOrD (tNotD (eTr (eIsT "bool" (eB 9)))) (eTr (eBin oNe (eB 9) (eCall m_l_grows (aCons (eB 2) (aNil)))))) (sSeq (sRet (eC (.bl false))) (sNx)) (sNx)) (sSeq (sRet (eBin oEq (eMeth "shown" mt_shown (eB 4) aNil resF) (eCall m_l_text (aCons (eB 2) (aNil))))) (sNx))))))))))))))
def m_p_law : Fn := mkFn [true] 10 c_p_law
def LawOk : Prop := ∀ ns : List Int, ns.length ≤ 63 → ∃ S, resF (m_p_law [.scr ns] []) = .ok (.bl true) S
end
end PM
set_option maxHeartbeats 4000000
namespace PM
open PySem PySem.Spec PyProof.Rows L2
noncomputable section
def f_p_Has_marks (v_self : D) : M (List Str) := runO none (
 (M.bind (M.bind (M.bind (fldM fl "mark" v_self) fun t1 => M.opt (uS t1)) fun t2 => M.pure [t2]) fun t3 => M.pure (.rt t3)))
theorem tyN_p_Has_marks (v_self : D) : FnN (eL D.str) m_p_Has_marks [iN v_self] (f_p_Has_marks v_self) := by
  unfold f_p_Has_marks
  refine t_fnN (Ef := fun _ => [.un]) (Lf := fun _ => []) rfl (.t (.n .z)) ?_
  unfold c_p_Has_marks
  exact t_retN (eb := (eL D.str)) (x_Lst' (ez := (eL D.str)) (xa_1 (ea := D.str) (x_castX unS (p_fld (ea := iN) (p_Bb (e := iN) .z))) p_aNil) (fun _ => Nat.le_of_ble_eq_true rfl) (fun _ => rfl)) trivial (fun _ => rn_ow _)
theorem ty_p_Has_marks (v_self : D) : FnT (eL D.str) m_p_Has_marks [iN v_self] (f_p_Has_marks v_self) := (tyN_p_Has_marks v_self).toT
def f_p_Many_marks (v_self : D) : M (List Str) := runO none (
 (M.bind (M.bind (M.bind (fldM fl "mark" v_self) fun t1 => M.opt (uS t1)) fun t2 => M.pure [t2]) fun t3 => M.pure (.rt t3)))
theorem tyN_p_Many_marks (v_self : D) : FnN (eL D.str) m_p_Many_marks [iN v_self] (f_p_Many_marks v_self) := by
  unfold f_p_Many_marks
  refine t_fnN (Ef := fun _ => [.un]) (Lf := fun _ => []) rfl (.t (.n .z)) ?_
  unfold c_p_Many_marks
  exact t_retN (eb := (eL D.str)) (x_Lst' (ez := (eL D.str)) (xa_1 (ea := D.str) (x_castX unS (p_fld (ea := iN) (p_Bb (e := iN) .z))) p_aNil) (fun _ => Nat.le_of_ble_eq_true rfl) (fun _ => rfl)) trivial (fun _ => rn_ow _)
theorem ty_p_Many_marks (v_self : D) : FnT (eL D.str) m_p_Many_marks [iN v_self] (f_p_Many_marks v_self) := (tyN_p_Many_marks v_self).toT
def f_p_Pair_marks (v_self : D) : M (List Str) := runO none (
 (M.bind (M.bind (M.bind (M.bind (M.bind (fldM fl "one" v_self) fun t2 => M.opt (uS t2)) fun t3 => M.pure [t3]) fun t11 => M.bind (M.bind (M.bind (M.bind (fldM fl "other" v_self) fun t5 => M.opt (uS t5)) fun t6 => M.pure [t6]) fun t10 => lcO (fun x7 => (M.bind (M.bind (fldM fl "one" v_self) fun t8 => M.opt (uS t8)) fun t9 => M.pure (!decide (x7 = t9)))) (fun x7 => (M.pure x7)) t10 []) fun t12 => M.opt (gCatL t11 t12)) fun t13 => M.opt (gSrtS t13)) fun t14 => M.pure (.rt t14)))
theorem tyN_p_Pair_marks (v_self : D) : FnN (eL D.str) m_p_Pair_marks [iN v_self] (f_p_Pair_marks v_self) := by
  unfold f_p_Pair_marks
  refine t_fnN (Ef := fun _ => [.un, .un]) (Lf := fun _ => []) rfl (.t (.n (.s .z))) ?_
  unfold c_p_Pair_marks
  exact t_retN (eb := (eL D.str)) (x_FnO (ez := (eL D.str)) (xa_1 (ea := (eL D.str)) (xx_binO (x_Lst' (ez := (eL D.str)) (xa_1 (ea := D.str) (x_castX unS (p_fld (ea := iN) (p_Bb (e := iN) .z))) p_aNil) (fun _ => Nat.le_of_ble_eq_true rfl) (fun _ => rfl)) (x_Lc' (ei := D.str) (eb := D.str) (x_iL' (x_Lst' (ez := (eL D.str)) (xa_1 (ea := D.str) (x_castX unS (p_fld (ea := iN) (p_Bb (e := iN) .z))) p_aNil) (fun _ => Nat.le_of_ble_eq_true rfl) (fun _ => rfl))) (.cons .nil (.s .z)) (fun _ => (tgN (.s .z))) (fun x7 => (x_TrBm (px_bin (p_Bf (e := D.str) (.s .z)) (x_castX unS (p_fld (ea := iN) (p_Bb (e := iN) .z))) (fun _ => (ot_ne eqS))))) (fun x7 => (Pv.x (p_V (e := D.str) (.s .z))))) (fun _ _ _ => oo_addL)) p_aNil) (fun _ _ => oo_sortS)) trivial (fun _ => rn_ow _)
theorem ty_p_Pair_marks (v_self : D) : FnT (eL D.str) m_p_Pair_marks [iN v_self] (f_p_Pair_marks v_self) := (tyN_p_Pair_marks v_self).toT
abbrev L2_p_sorted_marks (v_parts : (List D)) (v_part : D) : (List (Key × D)) → Env := fun s => [.bo ((eL iN) v_parts), .ow (eDic s), .fr (iN v_part), .un]
def f_b2_p_sorted_marks (r : Nat) (F_p_sorted_marks : (List D) → M (List Str)) (F_p_Group_marks : D → M (List Str))  (x12 : Str) (v_seen : (List (Key × D))) : M (O (List (Key × D)) (List (Key × D)) (List Str)) :=
 (M.bind (M.pure true) fun t16 => M.bind (M.pure x12) fun t17 => M.bind (M.opt (gPut v_seen (D.str t17) (D.bl t16))) fun v_seen =>
 (M.pure (.nx v_seen)))
theorem t_b2_p_sorted_marks (r : Nat) (F_p_sorted_marks : (List D) → M (List Str)) (F_p_Group_marks : D → M (List Str)) (hF_p_sorted_marks : ∀ (a0 : (List D)), FnN (eL D.str) (g_p_sorted_marks r 0) [(eL iN) a0] (F_p_sorted_marks a0)) (hF_p_Group_marks : ∀ (a0 : D), FnN (eL D.str) (g_p_sorted_marks r 1) [iN a0] (F_p_Group_marks a0)) (v_parts : (List D)) (v_part : D) (x12 : Str) (v_seen : (List (Key × D))) : Sm (L2_p_sorted_marks v_parts v_part) (L2_p_sorted_marks v_parts v_part) (RN (eL D.str)) XT (b2_p_sorted_marks (g_p_sorted_marks r)) [.bo ((eL iN) v_parts), .ow (eDic v_seen), .fr (iN v_part), .fr (D.str x12)] (f_b2_p_sorted_marks r F_p_sorted_marks F_p_Group_marks  x12 v_seen) := by
  unfold b2_p_sorted_marks f_b2_p_sorted_marks
  refine t_put (en := D.bl) (ek := D.str) (.s .z) (Pv.x (p_C (e := D.bl))) (Pv.x (p_Bf (e := D.str) (.s (.s (.s .z))))) trivial (fun _ => (.s .z)) (fun v_seen => ?_)
  refine t_wipe (is := [3]) (.cons .nil (.s (.s (.s .z)))) ?_
  exact t_nil rfl
abbrev L1_p_sorted_marks (v_parts : (List D)) : (List (Key × D)) → Env := fun s => [.bo ((eL iN) v_parts), .ow (eDic s), .un, .un]
def f_b1_p_sorted_marks (r : Nat) (F_p_sorted_marks : (List D) → M (List Str)) (F_p_Group_marks : D → M (List Str))  (x2 : D) (v_seen : (List (Key × D))) : M (O (List (Key × D)) (List (Key × D)) (List Str)) :=
 (M.bind (M.bind (methM "marks" (mtq_marks (g_p_sorted_marks r)) resF x2 (M.pure [])) fun t15 => M.opt ((uL uS) t15)) fun t18 => bindO (forO (fun x s11 => f_b2_p_sorted_marks r F_p_sorted_marks F_p_Group_marks  x s11) t18 (v_seen : (List (Key × D)))) fun s11 =>
 (M.pure (.nx s11)))
theorem t_b1_p_sorted_marks (r : Nat) (F_p_sorted_marks : (List D) → M (List Str)) (F_p_Group_marks : D → M (List Str)) (hF_p_sorted_marks : ∀ (a0 : (List D)), FnN (eL D.str) (g_p_sorted_marks r 0) [(eL iN) a0] (F_p_sorted_marks a0)) (hF_p_Group_marks : ∀ (a0 : D), FnN (eL D.str) (g_p_sorted_marks r 1) [iN a0] (F_p_Group_marks a0)) (v_parts : (List D)) (x2 : D) (v_seen : (List (Key × D))) : Sm (L1_p_sorted_marks v_parts) (L1_p_sorted_marks v_parts) (RN (eL D.str)) XT (b1_p_sorted_marks (g_p_sorted_marks r)) [.bo ((eL iN) v_parts), .ow (eDic v_seen), .fr (iN x2), .un] (f_b1_p_sorted_marks r F_p_sorted_marks F_p_Group_marks  x2 v_seen) := by
  unfold b1_p_sorted_marks f_b1_p_sorted_marks
  refine t_wipe (is := []) .nil ?_
  refine t_for (L' := (L2_p_sorted_marks v_parts x2)) (ei := D.str) (x_iL' (x_castX (unL unS) (p_methP (ea := iN) (p_Bf (e := iN) (.s (.s .z))) p_aNil))) trivial rfl (fun _ _ => (tgN (.s (.s (.s .z))))) (fun x s => t_b2_p_sorted_marks r F_p_sorted_marks F_p_Group_marks hF_p_sorted_marks hF_p_Group_marks v_parts x2 x s) (fun s11 => ?_)
  show Sm _ _ _ _ _ [.bo ((eL iN) v_parts), .ow (eDic s11), .fr (iN x2), .un] _
  refine t_wipe (is := [2, 3]) (.cons (.cons .nil (.s (.s (.s .z)))) (.s (.s .z))) ?_
  exact t_nil rfl
def s_p_sorted_marks (r : Nat) (F_p_sorted_marks : (List D) → M (List Str)) (F_p_Group_marks : D → M (List Str)) (v_parts : (List D)) : M (List Str) := runO none (
 (M.bind (M.pure ([] : List (Key × D))) fun v_seen =>
 (M.bind (M.pure v_parts) fun t21 => bindO (forO (fun x s1 => f_b1_p_sorted_marks r F_p_sorted_marks F_p_Group_marks  x s1) t21 (v_seen : (List (Key × D)))) fun s1 =>
 (M.bind (M.bind (M.pure s1) fun t19 => M.opt (gSortD t19)) fun t20 => M.pure (.rt t20)))))
theorem tyS_p_sorted_marks (r : Nat) (F_p_sorted_marks : (List D) → M (List Str)) (F_p_Group_marks : D → M (List Str)) (hF_p_sorted_marks : ∀ (a0 : (List D)), FnN (eL D.str) (g_p_sorted_marks r 0) [(eL iN) a0] (F_p_sorted_marks a0)) (hF_p_Group_marks : ∀ (a0 : D), FnN (eL D.str) (g_p_sorted_marks r 1) [iN a0] (F_p_Group_marks a0)) (v_parts : (List D)) : FnN (eL D.str) (mkFn [true] 3 (c_p_sorted_marks (g_p_sorted_marks r))) [(eL iN) v_parts] (s_p_sorted_marks r F_p_sorted_marks F_p_Group_marks v_parts) := by
  unfold s_p_sorted_marks
  refine t_fnN (Ef := fun _ => [.un, .un, .un, .un]) (Lf := fun _ => []) rfl (.t (.n (.s (.s (.s .z))))) ?_
  unfold c_p_sorted_marks
  refine t_setN (en := eDic) (Pv.x (p_Dic0)) trivial (fun _ => (.s .z)) (fun v_seen => ?_)
  refine t_wipe (is := []) .nil ?_
  refine t_for (L' := (L1_p_sorted_marks v_parts)) (ei := iN) (Pv.x (p_iBb (ea := iN) .z)) trivial rfl (fun _ _ => (tgN (.s (.s .z)))) (fun x s => t_b1_p_sorted_marks r F_p_sorted_marks F_p_Group_marks hF_p_sorted_marks hF_p_Group_marks v_parts x s) (fun s1 => ?_)
  show Sm _ _ _ _ _ [.bo ((eL iN) v_parts), .ow (eDic s1), .un, .un] _
  exact t_retN (eb := (eL D.str)) (x_sortD (Pv.x (p_Bo (e := eDic) (.s .z)))) trivial (fun _ => rn_ow _)
def s_p_Group_marks (r : Nat) (F_p_sorted_marks : (List D) → M (List Str)) (F_p_Group_marks : D → M (List Str)) (v_self : D) : M (List Str) := runO none (
 (M.bind (M.bind (M.bind (fldM fl "parts" v_self) fun t1 => M.opt ((uL some) t1)) fun t2 => F_p_sorted_marks t2) fun t3 => M.pure (.rt t3)))
theorem tyS_p_Group_marks (r : Nat) (F_p_sorted_marks : (List D) → M (List Str)) (F_p_Group_marks : D → M (List Str)) (hF_p_sorted_marks : ∀ (a0 : (List D)), FnN (eL D.str) (g_p_sorted_marks r 0) [(eL iN) a0] (F_p_sorted_marks a0)) (hF_p_Group_marks : ∀ (a0 : D), FnN (eL D.str) (g_p_sorted_marks r 1) [iN a0] (F_p_Group_marks a0)) (v_self : D) : FnN (eL D.str) (mkFn [true] 0 (c_p_Group_marks (g_p_sorted_marks r))) [iN v_self] (s_p_Group_marks r F_p_sorted_marks F_p_Group_marks v_self) := by
  unfold s_p_Group_marks
  refine t_fnN (Ef := fun _ => [.un]) (Lf := fun _ => []) rfl (.t (.n .z)) ?_
  unfold c_p_Group_marks
  exact t_retN (eb := (eL D.str)) (x_callNX (xa_1 (ea := (eL iN)) (x_castX (unL unAny) (p_fld (ea := iN) (p_Bb (e := iN) .z))) p_aNil) (fun _ => hF_p_sorted_marks _)) trivial (fun _ => rn_ow _)
def fg_p_sorted_marks : Nat → ((List D) → M (List Str)) × (D → M (List Str))
  | 0 => ((fun _ => M.stuck), (fun _ => M.stuck))
  | r + 1 => ((s_p_sorted_marks r (fg_p_sorted_marks r).1 (fg_p_sorted_marks r).2), (s_p_Group_marks r (fg_p_sorted_marks r).1 (fg_p_sorted_marks r).2))
def f_p_sorted_marks (r : Nat) : (List D) → M (List Str) := (fg_p_sorted_marks r).1
def f_p_Group_marks (r : Nat) : D → M (List Str) := (fg_p_sorted_marks r).2
theorem tyg_p_sorted_marks : ∀ r : Nat, (∀ (a0 : (List D)), FnN (eL D.str) (g_p_sorted_marks r 0) [(eL iN) a0] (f_p_sorted_marks r a0)) ∧ (∀ (a0 : D), FnN (eL D.str) (g_p_sorted_marks r 1) [iN a0] (f_p_Group_marks r a0))
  | 0 => ⟨(fun _ => fnN_stuck), (fun _ => fnN_stuck)⟩
  | r + 1 => ⟨(fun a0 => tyS_p_sorted_marks r (fg_p_sorted_marks r).1 (fg_p_sorted_marks r).2 (tyg_p_sorted_marks r).1 (tyg_p_sorted_marks r).2 a0), (fun a0 => tyS_p_Group_marks r (fg_p_sorted_marks r).1 (fg_p_sorted_marks r).2 (tyg_p_sorted_marks r).1 (tyg_p_sorted_marks r).2 a0)⟩
theorem tyN_p_Group_marks (r : Nat) (a0 : D) : FnN (eL D.str) (g_p_sorted_marks r 1) [iN a0] (f_p_Group_marks r a0) := (tyg_p_sorted_marks r).2 a0
theorem ty_p_Group_marks (r : Nat) (a0 : D) : FnT (eL D.str) (g_p_sorted_marks r 1) [iN a0] (f_p_Group_marks r a0) := (tyN_p_Group_marks r a0).toT
def f_p_Fault_grows (v_self : D) : M Bool := runO none (
 (M.bind (M.pure true) fun t1 => M.pure (.rt t1)))
theorem ty_p_Fault_grows (v_self : D) : FnT D.bl m_p_Fault_grows [iN v_self] (f_p_Fault_grows v_self) := by
  unfold f_p_Fault_grows
  refine t_fn (Ef := fun _ => [.un]) (Lf := fun _ => []) rfl (.t (.n .z)) (fun _ h => nomatch h) ?_
  unfold c_p_Fault_grows
  exact t_ret (eb := D.bl) (Pv.x (p_C (e := D.bl))) trivial (fun _ => rf_fr _)
def f_p_Has_init (k : Nat) (v_mark : Str) : M D := runI (
 M.bind (M.pure (D.obj k [])) fun v_self =>
 (M.bind (M.pure v_mark) fun t1 => M.bind (M.opt (gFld fl "mark" v_self (D.str t1))) fun v_self =>
 (M.pure (.nx v_self))))
theorem ty_p_Has_init (k : Nat) (v_mark : Str) : FnI iN (m_p_Has_init k) [D.str v_mark] (f_p_Has_init k v_mark) := by
  unfold f_p_Has_init
  refine t_ini (Ef := fun d => [.me (iN d), .un]) (Lf := fun _ => []) (k := k) rfl (.f (.n .z)) (fun _ => .z) ?_
  refine t_let (ρ2 := fun v_self => [.me (iN v_self), .fr (D.str v_mark)]) (a := D.obj k []) (fun v_self => ?_)
  unfold c_p_Has_init
  refine t_fldMe (en := D.str) .z (Pv.x (p_V (e := D.str) (.s .z))) trivial (fun _ => .z) (fun v_self => ?_)
  refine t_wipe (is := [1]) (.cons .nil (.s .z)) ?_
  exact t_nil rfl
def f_p_Has_shown (v_self : D) : M Str := runO none (
 (M.bind (M.bind (M.bind (M.bind (fldM fl "mark" v_self) fun t1 => M.opt (uS t1)) fun t2 => M.opt (gCatS ("has(" : Str) t2)) fun t3 => M.opt (gCatS t3 (")" : Str))) fun t4 => M.pure (.rt t4)))
theorem ty_p_Has_shown (v_self : D) : FnT D.str m_p_Has_shown [iN v_self] (f_p_Has_shown v_self) := by
  unfold f_p_Has_shown
  refine t_fn (Ef := fun _ => [.un]) (Lf := fun _ => []) rfl (.t (.n .z)) (fun _ h => nomatch h) ?_
  unfold c_p_Has_shown
  exact t_ret (eb := D.str) (xp_binO (px_binO (p_C (e := D.str)) (x_castX unS (p_fld (ea := iN) (p_Bb (e := iN) .z))) (fun _ _ => oo_catS)) (p_C (e := D.str)) (fun _ _ => oo_catS)) trivial (fun _ => rf_fr _)
def f_p_Many_init (k : Nat) (v_number : Int) (v_mark : Str) : M D := runI (
 M.bind (M.pure (D.obj k [])) fun v_self =>
 (M.bind (M.pure v_number) fun t1 => M.bind (M.opt (gFld fl "number" v_self (D.int t1))) fun v_self =>
 (M.bind (M.pure v_mark) fun t2 => M.bind (M.opt (gFld fl "mark" v_self (D.str t2))) fun v_self =>
 (M.pure (.nx v_self)))))
theorem ty_p_Many_init (k : Nat) (v_number : Int) (v_mark : Str) : FnI iN (m_p_Many_init k) [D.int v_number, D.str v_mark] (f_p_Many_init k v_number v_mark) := by
  unfold f_p_Many_init
  refine t_ini (Ef := fun d => [.me (iN d), .un, .un]) (Lf := fun _ => []) (k := k) rfl (.f (.f (.n .z))) (fun _ => .z) ?_
  refine t_let (ρ2 := fun v_self => [.me (iN v_self), .fr (D.int v_number), .fr (D.str v_mark)]) (a := D.obj k []) (fun v_self => ?_)
  unfold c_p_Many_init
  refine t_fldMe (en := D.int) .z (Pv.x (p_V (e := D.int) (.s .z))) trivial (fun _ => .z) (fun v_self => ?_)
  refine t_fldMe (en := D.str) .z (Pv.x (p_V (e := D.str) (.s (.s .z)))) trivial (fun _ => .z) (fun v_self => ?_)
  refine t_wipe (is := [1, 2]) (.cons (.cons .nil (.s (.s .z))) (.s .z)) ?_
  exact t_nil rfl
def f_p_Many_shown (v_self : D) : M Str := runO none (
 (M.bind (M.bind (M.bind (M.bind (M.bind (M.bind (M.bind (fldM fl "number" v_self) fun t1 => M.opt (uI t1)) fun t2 => M.opt (gSt (fStr [.int t2]))) fun t3 => M.opt (gCatS ("many(" : Str) t3)) fun t4 => M.opt (gCatS t4 ("," : Str))) fun t6 => M.bind (M.bind (fldM fl "mark" v_self) fun t5 => M.opt (uS t5)) fun t7 => M.opt (gCatS t6 t7)) fun t8 => M.opt (gCatS t8 (")" : Str))) fun t9 => M.pure (.rt t9)))
theorem ty_p_Many_shown (v_self : D) : FnT D.str m_p_Many_shown [iN v_self] (f_p_Many_shown v_self) := by
  unfold f_p_Many_shown
  refine t_fn (Ef := fun _ => [.un]) (Lf := fun _ => []) rfl (.t (.n .z)) (fun _ h => nomatch h) ?_
  unfold c_p_Many_shown
  exact t_ret (eb := D.str) (xp_binO (xx_binO (xp_binO (px_binO (p_C (e := D.str)) (x_FnO (ez := D.str) (xa_1 (ea := D.int) (x_castX unI (p_fld (ea := iN) (p_Bb (e := iN) .z))) p_aNil) (fun _ _ => oo_strI)) (fun _ _ => oo_catS)) (p_C (e := D.str)) (fun _ _ => oo_catS)) (x_castX unS (p_fld (ea := iN) (p_Bb (e := iN) .z))) (fun _ _ _ => oo_catS)) (p_C (e := D.str)) (fun _ _ => oo_catS)) trivial (fun _ => rf_fr _)
def f_p_Pair_init (k : Nat) (v_one : Str) (v_other : Str) : M D := runI (
 M.bind (M.pure (D.obj k [])) fun v_self =>
 (M.bind (M.pure v_one) fun t1 => M.bind (M.opt (gFld fl "one" v_self (D.str t1))) fun v_self =>
 (M.bind (M.pure v_other) fun t2 => M.bind (M.opt (gFld fl "other" v_self (D.str t2))) fun v_self =>
 (M.pure (.nx v_self)))))
theorem ty_p_Pair_init (k : Nat) (v_one : Str) (v_other : Str) : FnI iN (m_p_Pair_init k) [D.str v_one, D.str v_other] (f_p_Pair_init k v_one v_other) := by
  unfold f_p_Pair_init
  refine t_ini (Ef := fun d => [.me (iN d), .un, .un]) (Lf := fun _ => []) (k := k) rfl (.f (.f (.n .z))) (fun _ => .z) ?_
  refine t_let (ρ2 := fun v_self => [.me (iN v_self), .fr (D.str v_one), .fr (D.str v_other)]) (a := D.obj k []) (fun v_self => ?_)
  unfold c_p_Pair_init
  refine t_fldMe (en := D.str) .z (Pv.x (p_V (e := D.str) (.s .z))) trivial (fun _ => .z) (fun v_self => ?_)
  refine t_fldMe (en := D.str) .z (Pv.x (p_V (e := D.str) (.s (.s .z)))) trivial (fun _ => .z) (fun v_self => ?_)
  refine t_wipe (is := [1, 2]) (.cons (.cons .nil (.s (.s .z))) (.s .z)) ?_
  exact t_nil rfl
def f_p_All_word (v_self : D) : M Str := runO none (
 (M.bind (M.pure ("all" : Str)) fun t1 => M.pure (.rt t1)))
theorem ty_p_All_word (v_self : D) : FnT D.str m_p_All_word [iN v_self] (f_p_All_word v_self) := by
  unfold f_p_All_word
  refine t_fn (Ef := fun _ => [.un]) (Lf := fun _ => []) rfl (.t (.n .z)) (fun _ h => nomatch h) ?_
  unfold c_p_All_word
  exact t_ret (eb := D.str) (Pv.x (p_C (e := D.str))) trivial (fun _ => rf_fr _)
def f_p_Any_word (v_self : D) : M Str := runO none (
 (M.bind (M.pure ("any" : Str)) fun t1 => M.pure (.rt t1)))
theorem ty_p_Any_word (v_self : D) : FnT D.str m_p_Any_word [iN v_self] (f_p_Any_word v_self) := by
  unfold f_p_Any_word
  refine t_fn (Ef := fun _ => [.un]) (Lf := fun _ => []) rfl (.t (.n .z)) (fun _ h => nomatch h) ?_
  unfold c_p_Any_word
  exact t_ret (eb := D.str) (Pv.x (p_C (e := D.str))) trivial (fun _ => rf_fr _)
def f_p_Before_word (v_self : D) : M Str := runO none (
 (M.bind (M.pure ("before" : Str)) fun t1 => M.pure (.rt t1)))
theorem ty_p_Before_word (v_self : D) : FnT D.str m_p_Before_word [iN v_self] (f_p_Before_word v_self) := by
  unfold f_p_Before_word
  refine t_fn (Ef := fun _ => [.un]) (Lf := fun _ => []) rfl (.t (.n .z)) (fun _ h => nomatch h) ?_
  unfold c_p_Before_word
  exact t_ret (eb := D.str) (Pv.x (p_C (e := D.str))) trivial (fun _ => rf_fr _)
def f_p_Beside_word (v_self : D) : M Str := runO none (
 (M.bind (M.pure ("beside" : Str)) fun t1 => M.pure (.rt t1)))
theorem ty_p_Beside_word (v_self : D) : FnT D.str m_p_Beside_word [iN v_self] (f_p_Beside_word v_self) := by
  unfold f_p_Beside_word
  refine t_fn (Ef := fun _ => [.un]) (Lf := fun _ => []) rfl (.t (.n .z)) (fun _ h => nomatch h) ?_
  unfold c_p_Beside_word
  exact t_ret (eb := D.str) (Pv.x (p_C (e := D.str))) trivial (fun _ => rf_fr _)
def f_p_Not_word (v_self : D) : M Str := runO none (
 (M.bind (M.pure ("not" : Str)) fun t1 => M.pure (.rt t1)))
theorem ty_p_Not_word (v_self : D) : FnT D.str m_p_Not_word [iN v_self] (f_p_Not_word v_self) := by
  unfold f_p_Not_word
  refine t_fn (Ef := fun _ => [.un]) (Lf := fun _ => []) rfl (.t (.n .z)) (fun _ h => nomatch h) ?_
  unfold c_p_Not_word
  exact t_ret (eb := D.str) (Pv.x (p_C (e := D.str))) trivial (fun _ => rf_fr _)
def f_p_Under_word (v_self : D) : M Str := runO none (
 (M.bind (M.pure ("under" : Str)) fun t1 => M.pure (.rt t1)))
theorem ty_p_Under_word (v_self : D) : FnT D.str m_p_Under_word [iN v_self] (f_p_Under_word v_self) := by
  unfold f_p_Under_word
  refine t_fn (Ef := fun _ => [.un]) (Lf := fun _ => []) rfl (.t (.n .z)) (fun _ h => nomatch h) ?_
  unfold c_p_Under_word
  exact t_ret (eb := D.str) (Pv.x (p_C (e := D.str))) trivial (fun _ => rf_fr _)
def f_p_Pair_shown (v_self : D) : M Str := runO none (
 (M.bind (M.bind (M.bind (M.bind (M.bind (M.bind (M.bind (methM "word" mt_word resF v_self (M.pure [])) fun t1 => M.opt (uS t1)) fun t2 => M.opt (gCatS t2 ("(" : Str))) fun t4 => M.bind (M.bind (fldM fl "one" v_self) fun t3 => M.opt (uS t3)) fun t5 => M.opt (gCatS t4 t5)) fun t6 => M.opt (gCatS t6 ("," : Str))) fun t8 => M.bind (M.bind (fldM fl "other" v_self) fun t7 => M.opt (uS t7)) fun t9 => M.opt (gCatS t8 t9)) fun t10 => M.opt (gCatS t10 (")" : Str))) fun t11 => M.pure (.rt t11)))
theorem ty_p_Pair_shown (v_self : D) : FnT D.str m_p_Pair_shown [iN v_self] (f_p_Pair_shown v_self) := by
  unfold f_p_Pair_shown
  refine t_fn (Ef := fun _ => [.un]) (Lf := fun _ => []) rfl (.t (.n .z)) (fun _ h => nomatch h) ?_
  unfold c_p_Pair_shown
  exact t_ret (eb := D.str) (xp_binO (xx_binO (xp_binO (xx_binO (xp_binO (x_castX unS (p_methP (ea := iN) (p_Bb (e := iN) .z) p_aNil)) (p_C (e := D.str)) (fun _ _ => oo_catS)) (x_castX unS (p_fld (ea := iN) (p_Bb (e := iN) .z))) (fun _ _ _ => oo_catS)) (p_C (e := D.str)) (fun _ _ => oo_catS)) (x_castX unS (p_fld (ea := iN) (p_Bb (e := iN) .z))) (fun _ _ _ => oo_catS)) (p_C (e := D.str)) (fun _ _ => oo_catS)) trivial (fun _ => rf_fr _)
def f_p_Beside_grows (v_self : D) : M Bool := runO none (
 (M.bind (M.pure false) fun t1 => M.pure (.rt t1)))
theorem ty_p_Beside_grows (v_self : D) : FnT D.bl m_p_Beside_grows [iN v_self] (f_p_Beside_grows v_self) := by
  unfold f_p_Beside_grows
  refine t_fn (Ef := fun _ => [.un]) (Lf := fun _ => []) rfl (.t (.n .z)) (fun _ h => nomatch h) ?_
  unfold c_p_Beside_grows
  exact t_ret (eb := D.bl) (Pv.x (p_C (e := D.bl))) trivial (fun _ => rf_fr _)
def f_p_Group_init (k : Nat) (v_parts : D) : M D := runI (
 M.bind (M.pure (D.obj k [])) fun v_self =>
 (M.bind (M.bind (M.bind (M.pure v_parts) fun t1 => M.bind (getL t1) fun t2 => M.pure (D.lst t2)) fun t3 => M.opt ((uL some) t3)) fun t4 => M.bind (M.opt (gFld fl "parts" v_self ((eL iN) t4))) fun v_self =>
 (M.pure (.nx v_self))))
theorem ty_p_Group_init (k : Nat) (v_parts : D) : FnI iN (m_p_Group_init k) [iN v_parts] (f_p_Group_init k v_parts) := by
  unfold f_p_Group_init
  refine t_ini (Ef := fun d => [.me (iN d), .un]) (Lf := fun _ => []) (k := k) rfl (.t (.n .z)) (fun _ => .z) ?_
  refine t_let (ρ2 := fun v_self => [.me (iN v_self), .bo (iN v_parts)]) (a := D.obj k []) (fun v_self => ?_)
  unfold c_p_Group_init
  refine t_fldMe (en := (eL iN)) .z (x_castX (unL unAny) (x_listS (Pv.x (p_Bb (e := iN) (.s .z))))) trivial (fun _ => .z) (fun v_self => ?_)
  refine t_wipe (is := [1]) (.cons .nil (.s .z)) ?_
  exact t_nil rfl
def f_p_Group_shown : Nat → D → M Str
  | 0, _ => M.stuck
  | r + 1, v_self => runO none (
 (M.bind (M.bind (M.bind (M.bind (M.bind (methM "word" mt_word resF v_self (M.pure [])) fun t1 => M.opt (uS t1)) fun t2 => M.opt (gCatS t2 ("(" : Str))) fun t9 => M.bind (M.bind (M.pure ("," : Str)) fun t7 => M.bind (M.bind (M.bind (fldM fl "parts" v_self) fun t3 => M.opt ((uL some) t3)) fun t6 => lcO (fun x4 => (M.pure true)) (fun x4 => (M.bind (methM "shown" (mtq_shown (g_p_Group_shown r)) resF x4 (M.pure [])) fun t5 => M.opt (uS t5))) t6 []) fun t8 => M.opt (gJoin t7 t8)) fun t10 => M.opt (gCatS t9 t10)) fun t11 => M.opt (gCatS t11 (")" : Str))) fun t12 => M.pure (.rt t12)))
theorem ty_p_Group_shown : ∀ (r : Nat) (v_self : D), FnT D.str (g_p_Group_shown r 0) [iN v_self] (f_p_Group_shown r v_self)
  | 0, _ => fnT_stuck
  | r + 1, v_self => by
    show FnT D.str (mkFn [true] 1 (c_p_Group_shown (g_p_Group_shown r))) [iN v_self] (f_p_Group_shown (r + 1) v_self)
    unfold f_p_Group_shown
    refine t_fn (Ef := fun _ => [.un, .un]) (Lf := fun _ => []) rfl (.t (.n (.s .z))) (fun _ h => nomatch h) ?_
    unfold c_p_Group_shown
    exact t_ret (eb := D.str) (xp_binO (xx_binO (xp_binO (x_castX unS (p_methP (ea := iN) (p_Bb (e := iN) .z) p_aNil)) (p_C (e := D.str)) (fun _ _ => oo_catS)) (x_joinL (Pv.x (p_C (e := D.str))) (x_Lc' (ei := iN) (eb := D.str) (x_iL' (x_castX (unL unAny) (p_fld (ea := iN) (p_Bb (e := iN) .z)))) (.cons .nil (.s .z)) (fun _ => (tgN (.s .z))) (fun x4 => (Pv.x p_Yes)) (fun x4 => (x_castX unS (p_methP (ea := iN) (p_Bf (e := iN) (.s .z)) p_aNil))))) (fun _ _ _ => oo_catS)) (p_C (e := D.str)) (fun _ _ => oo_catS)) trivial (fun _ => rf_fr _)
def f_p_Not_grows (v_self : D) : M Bool := runO none (
 (M.bind (M.pure false) fun t1 => M.pure (.rt t1)))
theorem ty_p_Not_grows (v_self : D) : FnT D.bl m_p_Not_grows [iN v_self] (f_p_Not_grows v_self) := by
  unfold f_p_Not_grows
  refine t_fn (Ef := fun _ => [.un]) (Lf := fun _ => []) rfl (.t (.n .z)) (fun _ h => nomatch h) ?_
  unfold c_p_Not_grows
  exact t_ret (eb := D.bl) (Pv.x (p_C (e := D.bl))) trivial (fun _ => rf_fr _)
def f_p_Group_grows : Nat → D → M Bool
  | 0, _ => M.stuck
  | r + 1, v_self => runO none (
 (M.bind (M.bind (M.bind (M.bind (fldM fl "parts" v_self) fun t1 => M.opt ((uL some) t1)) fun t4 => lcO (fun x2 => (M.pure true)) (fun x2 => (M.bind (methM "grows" (mtq_grows (g_p_Group_grows r)) resF x2 (M.pure [])) fun t3 => M.opt (uB t3))) t4 []) fun t5 => M.pure (List.all t5 id)) fun t6 => M.pure (.rt t6)))
theorem ty_p_Group_grows : ∀ (r : Nat) (v_self : D), FnT D.bl (g_p_Group_grows r 0) [iN v_self] (f_p_Group_grows r v_self)
  | 0, _ => fnT_stuck
  | r + 1, v_self => by
    show FnT D.bl (mkFn [true] 1 (c_p_Group_grows (g_p_Group_grows r))) [iN v_self] (f_p_Group_grows (r + 1) v_self)
    unfold f_p_Group_grows
    refine t_fn (Ef := fun _ => [.un, .un]) (Lf := fun _ => []) rfl (.t (.n (.s .z))) (fun _ h => nomatch h) ?_
    unfold c_p_Group_grows
    exact t_ret (eb := D.bl) (x_FnT (ez := D.bl) (xa_1 (ea := (eL D.bl)) (x_Lc' (ei := iN) (eb := D.bl) (x_iL' (x_castX (unL unAny) (p_fld (ea := iN) (p_Bb (e := iN) .z)))) (.cons .nil (.s .z)) (fun _ => (tgN (.s .z))) (fun x2 => (Pv.x p_Yes)) (fun x2 => (x_castX unB (p_methP (ea := iN) (p_Bf (e := iN) (.s .z)) p_aNil)))) p_aNil) (fun _ => ot_all)) trivial (fun _ => rf_fr _)
def f_p_Not_init (k : Nat) (v_part : D) : M D := runI (
 M.bind (M.pure (D.obj k [])) fun v_self =>
 (M.bind (baseM (fun c => f_p_Group_init c ((eL iN) [v_part])) v_self) fun v_self =>
 (M.pure (.nx v_self))))
theorem ty_p_Not_init (k : Nat) (v_part : D) : FnI iN (m_p_Not_init k) [iN v_part] (f_p_Not_init k v_part) := by
  unfold f_p_Not_init
  refine t_ini (Ef := fun d => [.me (iN d), .un]) (Lf := fun _ => []) (k := k) rfl (.f (.n .z)) (fun _ => .z) ?_
  refine t_let (ρ2 := fun v_self => [.me (iN v_self), .fr (iN v_part)]) (a := D.obj k []) (fun v_self => ?_)
  unfold c_p_Not_init
  refine t_base .z (p_aCons (ea := iN) (p_up (ea := (eL iN)) (p_Lst (ez := (eL iN)) (p_aCons (ea := iN) (p_V (e := iN) (.s .z)) p_aNil) (Nat.le_of_ble_eq_true rfl) rfl)) p_aNil) (fun c => ty_p_Group_init c _) (fun _ => .z) (fun v_self => ?_)
  refine t_wipe (is := [1]) (.cons .nil (.s .z)) ?_
  exact t_nil rfl
def f_l_cell_at (v_script : (List Int)) (v_k : Int) : M Int := runO none (
 (if (decide (v_k < ((List.length v_script : Nat) : Int))) = true then
 (M.bind (M.opt (gIx v_script v_k)) fun t2 => M.pure (.rt t2))
 else (M.bind (M.pure (((13 : Int) * v_k) + (3 : Int))) fun t3 => M.pure (.rt t3))))
theorem ty_l_cell_at (v_script : (List Int)) (v_k : Int) : FnT D.int m_l_cell_at [D.scr v_script, D.int v_k] (f_l_cell_at v_script v_k) := by
  unfold f_l_cell_at
  refine t_fn (Ef := fun _ => [.un, .un]) (Lf := fun _ => []) rfl (.t (.t (.n .z))) (fun _ h => nomatch h) ?_
  unfold c_l_cell_at
  refine t_ifP (p_TrB (pp_bin (p_Bb (e := D.int) (.s .z)) (p_Fn (ez := D.int) (p_aCons (ea := D.scr) (p_Bb (e := D.scr) .z) p_aNil) ot_lenScr) ot_lt)) ?_ ?_
  · refine t_assoc ?_
    exact t_ret (eb := D.int) (pp_binO (p_Bb (e := D.scr) .z) (p_Bb (e := D.int) (.s .z)) (fun _ => oo_ixScr)) trivial (fun _ => rf_fr _)
  · refine t_nxl ?_
    exact t_ret (eb := D.int) (Pv.x (pp_bin (pp_bin (p_C (e := D.int)) (p_Bb (e := D.int) (.s .z)) ot_mulL) (p_C (e := D.int)) ot_addI)) trivial (fun _ => rf_fr _)
abbrev L2_l_names (v_cell : Int) (v_many : Int) (v_letters : Str) (v_size : Int) (v_at : Int) (v_found : (List Str)) (v_more : Int) : (Int × Str) → Env := fun s => [.bo (D.int v_cell), .bo (D.int v_many), .fr (D.str v_letters), .fr (D.int v_size), .fr (D.int v_at), .ow ((eL D.str) v_found), .fr (D.int s.1), .un, .fr (D.str s.2), .fr (D.int v_more), .un, .un]
def f_b2_l_names (v_letters : Str) (x16 : Int) (v_rest : Int) (v_name : Str) : M (O (Int × Str) (Int × Str) (List Str)) :=
 (M.bind (M.bind (M.bind (M.opt (gIxS v_letters (v_rest % (26 : Int)))) fun t19 => M.pure (S1 t19)) fun t20 => M.opt (gCatS v_name t20)) fun v_name =>
 (M.bind (M.pure (v_rest / (26 : Int))) fun v_rest =>
 (M.pure (.nx (v_rest, v_name)))))
theorem t_b2_l_names (v_cell : Int) (v_many : Int) (v_letters : Str) (v_size : Int) (v_at : Int) (v_found : (List Str)) (v_more : Int) (x16 : Int) (v_rest : Int) (v_name : Str) : Sm (L2_l_names v_cell v_many v_letters v_size v_at v_found v_more) (L2_l_names v_cell v_many v_letters v_size v_at v_found v_more) (RN (eL D.str)) XT b2_l_names [.bo (D.int v_cell), .bo (D.int v_many), .fr (D.str v_letters), .fr (D.int v_size), .fr (D.int v_at), .ow ((eL D.str) v_found), .fr (D.int v_rest), .un, .fr (D.str v_name), .fr (D.int v_more), .fr (D.int x16), .un] (f_b2_l_names v_letters x16 v_rest v_name) := by
  unfold b2_l_names f_b2_l_names
  refine t_set (en := D.str) (px_binO (p_Bf (e := D.str) (.s (.s (.s (.s (.s (.s (.s (.s .z))))))))) (x_as (ea := eCh) (e' := D.str) (pp_binO (p_Bf (e := D.str) (.s (.s .z))) (pp_bin (p_Bf (e := D.int) (.s (.s (.s (.s (.s (.s .z))))))) (p_C (e := D.int)) ot_mod) (fun _ => oo_ixS)) (fun _ => rfl)) (fun _ _ => oo_catS)) trivial (fun _ => (.s (.s (.s (.s (.s (.s (.s (.s .z))))))))) (fun v_name => ?_)
  refine t_set (en := D.int) (Pv.x (pp_bin (p_Bf (e := D.int) (.s (.s (.s (.s (.s (.s .z))))))) (p_C (e := D.int)) ot_div)) trivial (fun _ => (.s (.s (.s (.s (.s (.s .z))))))) (fun v_rest => ?_)
  refine t_wipe (is := [7, 10, 11]) (.cons (.cons (.cons .nil (.s (.s (.s (.s (.s (.s (.s (.s (.s (.s (.s .z)))))))))))) (.s (.s (.s (.s (.s (.s (.s (.s (.s (.s .z))))))))))) (.s (.s (.s (.s (.s (.s (.s .z)))))))) ?_
  exact t_nil rfl
abbrev L1_l_names (v_cell : Int) (v_many : Int) (v_letters : Str) (v_size : Int) (v_at : Int) : ((List Str) × Int) → Env := fun s => [.bo (D.int v_cell), .bo (D.int v_many), .fr (D.str v_letters), .fr (D.int v_size), .fr (D.int v_at), .ow ((eL D.str) s.1), .fr (D.int s.2), .un, .un, .un, .un, .un]
def f_b1_l_names (v_letters : Str) (x4 : Int) (v_found : (List Str)) (v_rest : Int) : M (O ((List Str) × Int) ((List Str) × Int) (List Str)) :=
 (M.bind (M.bind (M.opt (gIxS v_letters ((v_rest / (8 : Int)) % (26 : Int)))) fun t14 => M.pure (S1 t14)) fun v_name =>
 (M.bind (M.pure (v_rest % (8 : Int))) fun v_more =>
 (M.bind (M.pure (v_rest / (208 : Int))) fun v_rest =>
 (M.bind (M.opt (gR1 v_more)) fun t22 => bindO (forO (fun x s15 => f_b2_l_names v_letters x s15.1 s15.2) t22 ((v_rest, v_name) : (Int × Str))) fun s15 =>
 (M.bind (M.pure s15.2) fun t21 => M.bind (M.opt (gApp v_found t21)) fun v_found =>
 (M.pure (.nx (v_found, s15.1))))))))
theorem t_b1_l_names (v_cell : Int) (v_many : Int) (v_letters : Str) (v_size : Int) (v_at : Int) (x4 : Int) (v_found : (List Str)) (v_rest : Int) : Sm (L1_l_names v_cell v_many v_letters v_size v_at) (L1_l_names v_cell v_many v_letters v_size v_at) (RN (eL D.str)) XT b1_l_names [.bo (D.int v_cell), .bo (D.int v_many), .fr (D.str v_letters), .fr (D.int v_size), .fr (D.int v_at), .ow ((eL D.str) v_found), .fr (D.int v_rest), .fr (D.int x4), .un, .un, .un, .un] (f_b1_l_names v_letters x4 v_found v_rest) := by
  unfold b1_l_names f_b1_l_names
  refine t_set (en := D.str) (x_as (ea := eCh) (e' := D.str) (pp_binO (p_Bf (e := D.str) (.s (.s .z))) (pp_bin (pp_bin (p_Bf (e := D.int) (.s (.s (.s (.s (.s (.s .z))))))) (p_C (e := D.int)) ot_div) (p_C (e := D.int)) ot_mod) (fun _ => oo_ixS)) (fun _ => rfl)) trivial (fun _ => (.s (.s (.s (.s (.s (.s (.s (.s .z))))))))) (fun v_name => ?_)
  refine t_set (en := D.int) (Pv.x (pp_bin (p_Bf (e := D.int) (.s (.s (.s (.s (.s (.s .z))))))) (p_C (e := D.int)) ot_mod)) trivial (fun _ => (.s (.s (.s (.s (.s (.s (.s (.s (.s .z)))))))))) (fun v_more => ?_)
  refine t_set (en := D.int) (Pv.x (pp_bin (p_Bf (e := D.int) (.s (.s (.s (.s (.s (.s .z))))))) (p_C (e := D.int)) ot_div)) trivial (fun _ => (.s (.s (.s (.s (.s (.s .z))))))) (fun v_rest => ?_)
  refine t_wipe (is := [7]) (.cons .nil (.s (.s (.s (.s (.s (.s (.s .z)))))))) ?_
  refine t_for (L' := (L2_l_names v_cell v_many v_letters v_size v_at v_found v_more)) (ei := D.int) (p_iFn (ez := D.int) (p_aCons (ea := D.int) (p_Bf (e := D.int) (.s (.s (.s (.s (.s (.s (.s (.s (.s .z)))))))))) p_aNil) (fun _ => oo_R1)) trivial rfl (fun _ _ => (tgN (.s (.s (.s (.s (.s (.s (.s (.s (.s (.s .z)))))))))))) (fun x s => t_b2_l_names v_cell v_many v_letters v_size v_at v_found v_more x s.1 s.2) (fun s15 => ?_)
  show Sm _ _ _ _ _ [.bo (D.int v_cell), .bo (D.int v_many), .fr (D.str v_letters), .fr (D.int v_size), .fr (D.int v_at), .ow ((eL D.str) v_found), .fr (D.int s15.1), .un, .fr (D.str s15.2), .fr (D.int v_more), .un, .un] _
  refine t_app (en := D.str) (.s (.s (.s (.s (.s .z))))) (Pv.x (p_V (e := D.str) (.s (.s (.s (.s (.s (.s (.s (.s .z)))))))))) trivial (fun _ => (.s (.s (.s (.s (.s .z)))))) (fun v_found => ?_)
  refine t_wipe (is := [7, 8, 9, 10, 11]) (.cons (.cons (.cons (.cons (.cons .nil (.s (.s (.s (.s (.s (.s (.s (.s (.s (.s (.s .z)))))))))))) (.s (.s (.s (.s (.s (.s (.s (.s (.s (.s .z))))))))))) (.s (.s (.s (.s (.s (.s (.s (.s (.s .z)))))))))) (.s (.s (.s (.s (.s (.s (.s (.s .z))))))))) (.s (.s (.s (.s (.s (.s (.s .z)))))))) ?_
  exact t_nil rfl
abbrev L4_l_names (v_cell : Int) (v_many : Int) (v_letters : Str) (v_size : Int) (v_at : Int) (v_found : (List Str)) (v_k : Int) : Str → Env := fun s => [.bo (D.int v_cell), .bo (D.int v_many), .fr (D.str v_letters), .fr (D.int v_size), .fr (D.int v_at), .ow ((eL D.str) v_found), .un, .fr (D.int v_k), .fr (D.str s), .un, .un, .un]
def f_b4_l_names (v_cell : Int) (v_letters : Str) (v_at : Int) (v_k : Int) (x37 : Int) (v_name : Str) : M (O Str Str (List Str)) :=
 (M.bind (M.bind (M.opt (gDiv v_cell ((64 : Int) + ((3 : Int) * x37)))) fun t44 => M.bind (M.opt (gMul x37 x37)) fun t45 => M.pure (t44 + t45)) fun v_place =>
 (bindO (σ := Int) (if (decide (x37 = v_at)) = true then
 (M.bind (M.pure (v_place + v_k)) fun v_place =>
 (M.pure (.nx v_place)))
 else (M.pure (.nx v_place))) fun s47 =>
 (M.bind (M.bind (M.bind (M.opt (gIxS v_letters (s47 % (26 : Int)))) fun t48 => M.pure (S1 t48)) fun t49 => M.opt (gCatS v_name t49)) fun v_name =>
 (M.pure (.nx v_name)))))
theorem t_b4_l_names (v_cell : Int) (v_many : Int) (v_letters : Str) (v_size : Int) (v_at : Int) (v_found : (List Str)) (v_k : Int) (x37 : Int) (v_name : Str) : Sm (L4_l_names v_cell v_many v_letters v_size v_at v_found v_k) (L4_l_names v_cell v_many v_letters v_size v_at v_found v_k) (RN (eL D.str)) XT b4_l_names [.bo (D.int v_cell), .bo (D.int v_many), .fr (D.str v_letters), .fr (D.int v_size), .fr (D.int v_at), .ow ((eL D.str) v_found), .un, .fr (D.int v_k), .fr (D.str v_name), .un, .fr (D.int x37), .un] (f_b4_l_names v_cell v_letters v_at v_k x37 v_name) := by
  unfold b4_l_names f_b4_l_names
  refine t_set (en := D.int) (xx_bin (pp_binO (p_Bb (e := D.int) .z) (pp_bin (p_C (e := D.int)) (pp_bin (p_C (e := D.int)) (p_Bf (e := D.int) (.s (.s (.s (.s (.s (.s (.s (.s (.s (.s .z))))))))))) ot_mulL) ot_addI) (fun _ => oo_div)) (pp_binO (p_Bf (e := D.int) (.s (.s (.s (.s (.s (.s (.s (.s (.s (.s .z))))))))))) (p_Bf (e := D.int) (.s (.s (.s (.s (.s (.s (.s (.s (.s (.s .z))))))))))) (fun _ => oo_mul)) (fun _ _ => ot_addI)) trivial (fun _ => (.s (.s (.s (.s (.s (.s (.s (.s (.s (.s (.s .z)))))))))))) (fun v_place => ?_)
  refine t_seq (E' := (fun s47 : Int => ([.bo (D.int v_cell), .bo (D.int v_many), .fr (D.str v_letters), .fr (D.int v_size), .fr (D.int v_at), .ow ((eL D.str) v_found), .un, .fr (D.int v_k), .fr (D.str v_name), .un, .un, .fr (D.int s47)] : Env))) (t_ifP1 (p_TrB (pp_bin (p_Bf (e := D.int) (.s (.s (.s (.s (.s (.s (.s (.s (.s (.s .z))))))))))) (p_Bf (e := D.int) (.s (.s (.s (.s .z))))) (ot_eq eqI))) ?_ ?_) (fun s47 => ?_)
  · refine t_set (en := D.int) (Pv.x (pp_bin (p_Bf (e := D.int) (.s (.s (.s (.s (.s (.s (.s (.s (.s (.s (.s .z)))))))))))) (p_Bf (e := D.int) (.s (.s (.s (.s (.s (.s (.s .z)))))))) ot_addI)) trivial (fun _ => (.s (.s (.s (.s (.s (.s (.s (.s (.s (.s (.s .z)))))))))))) (fun v_place => ?_)
    refine t_wipe (is := [6, 9, 10]) (.cons (.cons (.cons .nil (.s (.s (.s (.s (.s (.s (.s (.s (.s (.s .z))))))))))) (.s (.s (.s (.s (.s (.s (.s (.s (.s .z)))))))))) (.s (.s (.s (.s (.s (.s .z))))))) ?_
    exact t_nil rfl
  · refine t_wipe (is := [6, 9, 10]) (.cons (.cons (.cons .nil (.s (.s (.s (.s (.s (.s (.s (.s (.s (.s .z))))))))))) (.s (.s (.s (.s (.s (.s (.s (.s (.s .z)))))))))) (.s (.s (.s (.s (.s (.s .z))))))) ?_
    exact t_nil rfl
  · refine t_set (en := D.str) (px_binO (p_Bf (e := D.str) (.s (.s (.s (.s (.s (.s (.s (.s .z))))))))) (x_as (ea := eCh) (e' := D.str) (pp_binO (p_Bf (e := D.str) (.s (.s .z))) (pp_bin (p_Bf (e := D.int) (.s (.s (.s (.s (.s (.s (.s (.s (.s (.s (.s .z)))))))))))) (p_C (e := D.int)) ot_mod) (fun _ => oo_ixS)) (fun _ => rfl)) (fun _ _ => oo_catS)) trivial (fun _ => (.s (.s (.s (.s (.s (.s (.s (.s .z))))))))) (fun v_name => ?_)
    refine t_wipe (is := [6, 9, 10, 11]) (.cons (.cons (.cons (.cons .nil (.s (.s (.s (.s (.s (.s (.s (.s (.s (.s (.s .z)))))))))))) (.s (.s (.s (.s (.s (.s (.s (.s (.s (.s .z))))))))))) (.s (.s (.s (.s (.s (.s (.s (.s (.s .z)))))))))) (.s (.s (.s (.s (.s (.s .z))))))) ?_
    exact t_nil rfl
abbrev L3_l_names (v_cell : Int) (v_many : Int) (v_letters : Str) (v_size : Int) (v_at : Int) : (List Str) → Env := fun s => [.bo (D.int v_cell), .bo (D.int v_many), .fr (D.str v_letters), .fr (D.int v_size), .fr (D.int v_at), .ow ((eL D.str) s), .un, .un, .un, .un, .un, .un]
def f_b3_l_names (v_cell : Int) (v_letters : Str) (v_size : Int) (v_at : Int) (x25 : Int) (v_found : (List Str)) : M (O (List Str) (List Str) (List Str)) :=
 (M.bind (M.pure ("" : Str)) fun v_name =>
 (M.bind (M.opt (gR1 v_size)) fun t51 => bindO (forO (fun x s36 => f_b4_l_names v_cell v_letters v_at x25 x s36) t51 (v_name : Str)) fun s36 =>
 (M.bind (M.pure s36) fun t50 => M.bind (M.opt (gApp v_found t50)) fun v_found =>
 (M.pure (.nx v_found)))))
theorem t_b3_l_names (v_cell : Int) (v_many : Int) (v_letters : Str) (v_size : Int) (v_at : Int) (x25 : Int) (v_found : (List Str)) : Sm (L3_l_names v_cell v_many v_letters v_size v_at) (L3_l_names v_cell v_many v_letters v_size v_at) (RN (eL D.str)) XT b3_l_names [.bo (D.int v_cell), .bo (D.int v_many), .fr (D.str v_letters), .fr (D.int v_size), .fr (D.int v_at), .ow ((eL D.str) v_found), .un, .fr (D.int x25), .un, .un, .un, .un] (f_b3_l_names v_cell v_letters v_size v_at x25 v_found) := by
  unfold b3_l_names f_b3_l_names
  refine t_set (en := D.str) (Pv.x (p_C (e := D.str))) trivial (fun _ => (.s (.s (.s (.s (.s (.s (.s (.s .z))))))))) (fun v_name => ?_)
  refine t_wipe (is := []) .nil ?_
  refine t_for (L' := (L4_l_names v_cell v_many v_letters v_size v_at v_found x25)) (ei := D.int) (p_iFn (ez := D.int) (p_aCons (ea := D.int) (p_Bf (e := D.int) (.s (.s (.s .z)))) p_aNil) (fun _ => oo_R1)) trivial rfl (fun _ _ => (tgN (.s (.s (.s (.s (.s (.s (.s (.s (.s (.s .z)))))))))))) (fun x s => t_b4_l_names v_cell v_many v_letters v_size v_at v_found x25 x s) (fun s36 => ?_)
  show Sm _ _ _ _ _ [.bo (D.int v_cell), .bo (D.int v_many), .fr (D.str v_letters), .fr (D.int v_size), .fr (D.int v_at), .ow ((eL D.str) v_found), .un, .fr (D.int x25), .fr (D.str s36), .un, .un, .un] _
  refine t_app (en := D.str) (.s (.s (.s (.s (.s .z))))) (Pv.x (p_V (e := D.str) (.s (.s (.s (.s (.s (.s (.s (.s .z)))))))))) trivial (fun _ => (.s (.s (.s (.s (.s .z)))))) (fun v_found => ?_)
  refine t_wipe (is := [6, 7, 8, 9, 10, 11]) (.cons (.cons (.cons (.cons (.cons (.cons .nil (.s (.s (.s (.s (.s (.s (.s (.s (.s (.s (.s .z)))))))))))) (.s (.s (.s (.s (.s (.s (.s (.s (.s (.s .z))))))))))) (.s (.s (.s (.s (.s (.s (.s (.s (.s .z)))))))))) (.s (.s (.s (.s (.s (.s (.s (.s .z))))))))) (.s (.s (.s (.s (.s (.s (.s .z)))))))) (.s (.s (.s (.s (.s (.s .z))))))) ?_
  exact t_nil rfl
def f_l_names (v_cell : Int) (v_many : Int) : M (List Str) := runO none (
 (M.bind (M.pure ("abcdefghijklmnopqrstuvwxyz" : Str)) fun v_letters =>
 (M.bind (M.pure ((1 : Int) + (v_cell % (8 : Int)))) fun v_size =>
 (M.bind (M.opt (gMod (v_cell / (8 : Int)) v_size)) fun v_at =>
 (M.bind (M.pure ([] : List Str)) fun v_found =>
 (M.bind (M.pure (v_cell / (2 : Int))) fun v_rest =>
 (M.bind (M.bind (M.bind (M.opt (gMul v_many (v_cell % (2 : Int)))) fun t12 => M.opt (gMul t12 (b2I (decide (v_cell > (1000000000 : Int)))))) fun t13 => M.opt (gR1 t13)) fun t53 => bindO (forO (fun x s3 => f_b1_l_names v_letters x s3.1 s3.2) t53 ((v_found, v_rest) : ((List Str) × Int))) fun s3 =>
 (if (!decide (s3.1 = ([] : (List Str)))) = true then
 (M.pure (.rt s3.1))
 else (M.bind (M.opt (gR1 v_many)) fun t52 => bindO (forO (fun x s24 => f_b3_l_names v_cell v_letters v_size v_at x s24) t52 (s3.1 : (List Str))) fun s24 =>
 (M.pure (.rt s24)))))))))))
theorem tyN_l_names (v_cell : Int) (v_many : Int) : FnN (eL D.str) m_l_names [D.int v_cell, D.int v_many] (f_l_names v_cell v_many) := by
  unfold f_l_names
  refine t_fnN (Ef := fun _ => [.un, .un, .un, .un, .un, .un, .un, .un, .un, .un, .un, .un]) (Lf := fun _ => []) rfl (.t (.t (.n (.s (.s (.s (.s (.s (.s (.s (.s (.s (.s .z))))))))))))) ?_
  unfold c_l_names
  refine t_set (en := D.str) (Pv.x (p_C (e := D.str))) trivial (fun _ => (.s (.s .z))) (fun v_letters => ?_)
  refine t_set (en := D.int) (Pv.x (pp_bin (p_C (e := D.int)) (pp_bin (p_Bb (e := D.int) .z) (p_C (e := D.int)) ot_mod) ot_addI)) trivial (fun _ => (.s (.s (.s .z)))) (fun v_size => ?_)
  refine t_set (en := D.int) (pp_binO (pp_bin (p_Bb (e := D.int) .z) (p_C (e := D.int)) ot_div) (p_Bf (e := D.int) (.s (.s (.s .z)))) (fun _ => oo_mod)) trivial (fun _ => (.s (.s (.s (.s .z))))) (fun v_at => ?_)
  refine t_setN (en := (eL D.str)) (Pv.x (p_Lst (ez := (eL D.str)) p_aNil (Nat.le_of_ble_eq_true rfl) rfl)) trivial (fun _ => (.s (.s (.s (.s (.s .z)))))) (fun v_found => ?_)
  refine t_set (en := D.int) (Pv.x (pp_bin (p_Bb (e := D.int) .z) (p_C (e := D.int)) ot_div)) trivial (fun _ => (.s (.s (.s (.s (.s (.s .z))))))) (fun v_rest => ?_)
  refine t_wipe (is := []) .nil ?_
  refine t_for (L' := (L1_l_names v_cell v_many v_letters v_size v_at)) (ei := D.int) (x_iFn' (ez := D.int) (xa_1 (ea := D.int) (xp_binO (pp_binO (p_Bb (e := D.int) (.s .z)) (pp_bin (p_Bb (e := D.int) .z) (p_C (e := D.int)) ot_mod) (fun _ => oo_mul)) (p_Fn (ez := D.int) (p_aCons (ea := D.bl) (pp_bin (p_Bb (e := D.int) .z) (pp_bin (p_C (e := D.int)) (p_C (e := D.int)) (by rfl)) ot_gt) p_aNil) ot_intB) (fun _ _ => oo_mul)) p_aNil) (fun _ _ => oo_R1)) trivial rfl (fun _ _ => (tgN (.s (.s (.s (.s (.s (.s (.s .z))))))))) (fun x s => t_b1_l_names v_cell v_many v_letters v_size v_at x s.1 s.2) (fun s3 => ?_)
  show Sm _ _ _ _ _ [.bo (D.int v_cell), .bo (D.int v_many), .fr (D.str v_letters), .fr (D.int v_size), .fr (D.int v_at), .ow ((eL D.str) s3.1), .fr (D.int s3.2), .un, .un, .un, .un, .un] _
  refine t_ifP (p_TrB (pp_bin (p_Bo (e := (eL D.str)) (.s (.s (.s (.s (.s .z)))))) (p_Lst (ez := (eL D.str)) p_aNil (Nat.le_of_ble_eq_true rfl) rfl) (ot_ne (eqL eqS)))) ?_ ?_
  · refine t_assoc ?_
    exact t_retVo (eb := (eL D.str)) (.s (.s (.s (.s (.s .z))))) (rn_ow _)
  · refine t_nxl ?_
    refine t_wipe (is := [6]) (.cons .nil (.s (.s (.s (.s (.s (.s .z))))))) ?_
    refine t_for (L' := (L3_l_names v_cell v_many v_letters v_size v_at)) (ei := D.int) (p_iFn (ez := D.int) (p_aCons (ea := D.int) (p_Bb (e := D.int) (.s .z)) p_aNil) (fun _ => oo_R1)) trivial rfl (fun _ _ => (tgN (.s (.s (.s (.s (.s (.s (.s .z))))))))) (fun x s => t_b3_l_names v_cell v_many v_letters v_size v_at x s) (fun s24 => ?_)
    show Sm _ _ _ _ _ [.bo (D.int v_cell), .bo (D.int v_many), .fr (D.str v_letters), .fr (D.int v_size), .fr (D.int v_at), .ow ((eL D.str) s24), .un, .un, .un, .un, .un, .un] _
    exact t_retVo (eb := (eL D.str)) (.s (.s (.s (.s (.s .z))))) (rn_ow _)
theorem ty_l_names (v_cell : Int) (v_many : Int) : FnT (eL D.str) m_l_names [D.int v_cell, D.int v_many] (f_l_names v_cell v_many) := (tyN_l_names v_cell v_many).toT
def f_l_leaf (v_cell : Int) (v_names_here : (List Str)) : M D := runO none (
 (M.bind (M.bind (M.opt (gMod (v_cell / (8 : Int)) ((List.length v_names_here : Nat) : Int))) fun t1 => M.opt (gIx v_names_here t1)) fun v_one =>
 (M.bind (M.bind (M.bind (M.opt (gDiv v_cell ((8 : Int) * ((List.length v_names_here : Nat) : Int)))) fun t2 => M.opt (gMod t2 ((List.length v_names_here : Nat) : Int))) fun t3 => M.opt (gIx v_names_here t3)) fun v_other =>
 (M.bind (M.opt (gIx [("has" : Str), ("many" : Str), ("before" : Str), ("under" : Str), ("beside" : Str), ("has" : Str), ("before" : Str), ("under" : Str)] (v_cell % (8 : Int)))) fun v_word =>
 (if (decide (v_word = ("has" : Str))) = true then
 (M.bind (M.pure ((eP2 D.str D.str) (("has" : Str), v_one))) fun t5 => M.pure (.rt t5))
 else (if (decide (v_word = ("many" : Str))) = true then
 (M.bind (M.bind (M.bind (M.bind (M.bind (M.opt (gDiv v_cell ((8 : Int) * ((List.length v_names_here : Nat) : Int)))) fun t7 => M.pure (t7 % (13 : Int))) fun t8 => M.pure ((1 : Int) + t8)) fun t9 => M.pure (("many" : Str), t9, v_one)) fun t10 => M.pure ((eP3 D.str D.int D.str) t10)) fun t11 => M.pure (.rt t11))
 else (M.bind (M.pure ((eP3 D.str D.str D.str) (v_word, v_one, v_other))) fun t12 => M.pure (.rt t12))))))))
theorem ty_l_leaf (v_cell : Int) (v_names_here : (List Str)) : FnT iN m_l_leaf [D.int v_cell, (eL D.str) v_names_here] (f_l_leaf v_cell v_names_here) := by
  unfold f_l_leaf
  refine t_fn (Ef := fun _ => [.un, .un, .un, .un, .un]) (Lf := fun _ => []) rfl (.t (.t (.n (.s (.s (.s .z)))))) (fun _ h => nomatch h) ?_
  unfold c_l_leaf
  refine t_set (en := D.str) (px_binO (p_Bb (e := (eL D.str)) (.s .z)) (pp_binO (pp_bin (p_Bb (e := D.int) .z) (p_C (e := D.int)) ot_div) (p_Fn (ez := D.int) (p_aCons (ea := (eL D.str)) (p_Bb (e := (eL D.str)) (.s .z)) p_aNil) ot_lenL) (fun _ => oo_mod)) (fun _ _ => oo_ixL)) trivial (fun _ => (.s (.s .z))) (fun v_one => ?_)
  refine t_set (en := D.str) (px_binO (p_Bb (e := (eL D.str)) (.s .z)) (xp_binO (pp_binO (p_Bb (e := D.int) .z) (pp_bin (p_C (e := D.int)) (p_Fn (ez := D.int) (p_aCons (ea := (eL D.str)) (p_Bb (e := (eL D.str)) (.s .z)) p_aNil) ot_lenL) ot_mulL) (fun _ => oo_div)) (p_Fn (ez := D.int) (p_aCons (ea := (eL D.str)) (p_Bb (e := (eL D.str)) (.s .z)) p_aNil) ot_lenL) (fun _ _ => oo_mod)) (fun _ _ => oo_ixL)) trivial (fun _ => (.s (.s (.s .z)))) (fun v_other => ?_)
  refine t_set (en := D.str) (pp_binO (p_Lst (ez := (eL D.str)) (p_aCons (ea := D.str) (p_C (e := D.str)) (p_aCons (ea := D.str) (p_C (e := D.str)) (p_aCons (ea := D.str) (p_C (e := D.str)) (p_aCons (ea := D.str) (p_C (e := D.str)) (p_aCons (ea := D.str) (p_C (e := D.str)) (p_aCons (ea := D.str) (p_C (e := D.str)) (p_aCons (ea := D.str) (p_C (e := D.str)) (p_aCons (ea := D.str) (p_C (e := D.str)) p_aNil)))))))) (Nat.le_of_ble_eq_true rfl) rfl) (pp_bin (p_Bb (e := D.int) .z) (p_C (e := D.int)) ot_mod) (fun _ => oo_ixL)) trivial (fun _ => (.s (.s (.s (.s .z))))) (fun v_word => ?_)
  refine t_ifP (p_TrB (pp_bin (p_Bf (e := D.str) (.s (.s (.s (.s .z))))) (p_C (e := D.str)) (ot_eq eqS))) ?_ ?_
  · refine t_assoc ?_
    exact t_ret (eb := iN) (Pv.x (p_up (ea := (eP2 D.str D.str)) (p_Tup (ez := (eP2 D.str D.str)) (p_aCons (ea := D.str) (p_C (e := D.str)) (p_aCons (ea := D.str) (p_V (e := D.str) (.s (.s .z))) p_aNil)) (Nat.le_of_ble_eq_true rfl) rfl))) trivial (fun _ => rf_fr _)
  · refine t_nxl ?_
    refine t_ifP (p_TrB (pp_bin (p_Bf (e := D.str) (.s (.s (.s (.s .z))))) (p_C (e := D.str)) (ot_eq eqS))) ?_ ?_
    · refine t_assoc ?_
      exact t_ret (eb := iN) (x_up (ea := (eP3 D.str D.int D.str)) (x_Tup' (ez := (eP3 D.str D.int D.str)) (xa_P (ea := D.str) (p_C (e := D.str)) (xa_1 (ea := D.int) (px_bin (p_C (e := D.int)) (xp_bin (pp_binO (p_Bb (e := D.int) .z) (pp_bin (p_C (e := D.int)) (p_Fn (ez := D.int) (p_aCons (ea := (eL D.str)) (p_Bb (e := (eL D.str)) (.s .z)) p_aNil) ot_lenL) ot_mulL) (fun _ => oo_div)) (p_C (e := D.int)) (fun _ => ot_mod)) (fun _ => ot_addI)) (p_aCons (ea := D.str) (p_V (e := D.str) (.s (.s .z))) p_aNil))) (fun _ => Nat.le_of_ble_eq_true rfl) (fun _ => rfl))) trivial (fun _ => rf_fr _)
    · refine t_nxl ?_
      exact t_ret (eb := iN) (Pv.x (p_up (ea := (eP3 D.str D.str D.str)) (p_Tup (ez := (eP3 D.str D.str D.str)) (p_aCons (ea := D.str) (p_V (e := D.str) (.s (.s (.s (.s .z))))) (p_aCons (ea := D.str) (p_V (e := D.str) (.s (.s .z))) (p_aCons (ea := D.str) (p_V (e := D.str) (.s (.s (.s .z)))) p_aNil))) (Nat.le_of_ble_eq_true rfl) rfl))) trivial (fun _ => rf_fr _)
abbrev L1_l_term (v_script : (List Int)) (v_begin : Int) (v_many : Int) (v_names_here : (List Str)) : (List D) → Env := fun s => [.bo (D.scr v_script), .bo (D.int v_begin), .bo (D.int v_many), .bo ((eL D.str) v_names_here), .ow ((eL iN) s), .un, .un, .un, .un]
def f_b1_l_term (v_script : (List Int)) (v_begin : Int) (v_names_here : (List Str)) (x4 : Int) (v_stack : (List D)) : M (O (List D) (List D) D) :=
 (M.bind (f_l_cell_at v_script (v_begin + x4)) fun v_cell =>
 (M.bind (M.pure (v_cell % (6 : Int))) fun v_way =>
 (if (decide (v_way = (5 : Int))) = true then
 (M.bind (M.opt (gPopApp "not" v_stack)) fun v_stack =>
 (M.pure (.nx v_stack)))
 else (if ((decide (v_way > (2 : Int))) && (decide (((List.length v_stack : Nat) : Int) > (1 : Int)))) = true then
 (M.bind (M.bind (M.opt (gMod (v_cell / (6 : Int)) ((min2 (6 : Int) ((List.length v_stack : Nat) : Int)) - (1 : Int)))) fun t20 => M.pure ((2 : Int) + t20)) fun v_size =>
 (M.bind (M.bind (M.bind (M.bind (M.bind (M.bind (M.bind (M.opt (gIx [("all" : Str), ("any" : Str)] (v_way - (3 : Int)))) fun t24 => M.pure [t24]) fun t25 => M.pure (List.map D.str t25)) fun t26 => M.opt (gCatL t26 (cutD v_stack (some (-v_size)) none))) fun t27 => M.pure [t27]) fun t28 => M.pure (List.map (eTL iN) t28)) fun t29 => M.opt (gCatL (cutD v_stack none (some (-v_size))) t29)) fun v_stack =>
 (M.pure (.nx v_stack))))
 else (M.bind (f_l_leaf (v_cell / (6 : Int)) v_names_here) fun t30 => M.bind (M.opt (gApp v_stack t30)) fun v_stack =>
 (M.pure (.nx v_stack)))))))
theorem t_b1_l_term (v_script : (List Int)) (v_begin : Int) (v_many : Int) (v_names_here : (List Str)) (x4 : Int) (v_stack : (List D)) : Sm (L1_l_term v_script v_begin v_many v_names_here) (L1_l_term v_script v_begin v_many v_names_here) (RF iN) XT b1_l_term [.bo (D.scr v_script), .bo (D.int v_begin), .bo (D.int v_many), .bo ((eL D.str) v_names_here), .ow ((eL iN) v_stack), .fr (D.int x4), .un, .un, .un] (f_b1_l_term v_script v_begin v_names_here x4 v_stack) := by
  unfold b1_l_term f_b1_l_term
  refine t_set (en := D.int) (x_callP (p_aCons (ea := D.scr) (p_Bb (e := D.scr) .z) (p_aCons (ea := D.int) (pp_bin (p_Bb (e := D.int) (.s .z)) (p_Bf (e := D.int) (.s (.s (.s (.s (.s .z)))))) ot_addI) p_aNil)) (ty_l_cell_at _ _)) trivial (fun _ => (.s (.s (.s (.s (.s (.s .z))))))) (fun v_cell => ?_)
  refine t_set (en := D.int) (Pv.x (pp_bin (p_Bf (e := D.int) (.s (.s (.s (.s (.s (.s .z))))))) (p_C (e := D.int)) ot_mod)) trivial (fun _ => (.s (.s (.s (.s (.s (.s (.s .z)))))))) (fun v_way => ?_)
  refine t_ifP (p_TrB (pp_bin (p_Bf (e := D.int) (.s (.s (.s (.s (.s (.s (.s .z)))))))) (p_C (e := D.int)) (ot_eq eqI))) ?_ ?_
  · refine t_assoc ?_
    refine t_popApp (.s (.s (.s (.s .z)))) (fun _ => (.s (.s (.s (.s .z))))) (fun v_stack => ?_)
    refine t_nxl ?_
    refine t_wipe (is := [5, 6, 7, 8]) (.cons (.cons (.cons (.cons .nil (.s (.s (.s (.s (.s (.s (.s (.s .z))))))))) (.s (.s (.s (.s (.s (.s (.s .z)))))))) (.s (.s (.s (.s (.s (.s .z))))))) (.s (.s (.s (.s (.s .z)))))) ?_
    exact t_nil rfl
  · refine t_assoc ?_
    refine t_ifP (p_tAnd (p_TrB (pp_bin (p_Bf (e := D.int) (.s (.s (.s (.s (.s (.s (.s .z)))))))) (p_C (e := D.int)) ot_gt)) (p_TrB (pp_bin (p_Fn (ez := D.int) (p_aCons (ea := (eL iN)) (p_Bo (e := (eL iN)) (.s (.s (.s (.s .z))))) p_aNil) ot_lenL) (p_C (e := D.int)) ot_gt))) ?_ ?_
    · refine t_assoc ?_
      refine t_set (en := D.int) (px_bin (p_C (e := D.int)) (pp_binO (pp_bin (p_Bf (e := D.int) (.s (.s (.s (.s (.s (.s .z))))))) (p_C (e := D.int)) ot_div) (pp_bin (p_Fn (ez := D.int) (p_aCons (ea := D.int) (p_C (e := D.int)) (p_aCons (ea := D.int) (p_Fn (ez := D.int) (p_aCons (ea := (eL iN)) (p_Bo (e := (eL iN)) (.s (.s (.s (.s .z))))) p_aNil) ot_lenL) p_aNil)) ot_min2) (p_C (e := D.int)) ot_sub) (fun _ => oo_mod)) (fun _ => ot_addI)) trivial (fun _ => (.s (.s (.s (.s (.s (.s (.s (.s .z))))))))) (fun v_size => ?_)
      refine t_assoc ?_
      refine t_setN (en := (eL iN)) (px_binO (p_Cut (p_Bo (e := (eL iN)) (.s (.s (.s (.s .z))))) p_No (p_At (p_un (p_Bf (e := D.int) (.s (.s (.s (.s (.s (.s (.s (.s .z))))))))) ot_neg)) ot_cutL) (x_as (ea := (eL (eTL iN))) (e' := (eL iN)) (x_Lst' (ez := (eL (eTL iN))) (xa_1 (ea := (eTL iN)) (xp_binO (x_as (ea := (eTL D.str)) (e' := (eTL iN)) (x_Tup' (ez := (eTL D.str)) (xa_1 (ea := D.str) (pp_binO (p_Lst (ez := (eL D.str)) (p_aCons (ea := D.str) (p_C (e := D.str)) (p_aCons (ea := D.str) (p_C (e := D.str)) p_aNil)) (Nat.le_of_ble_eq_true rfl) rfl) (pp_bin (p_Bf (e := D.int) (.s (.s (.s (.s (.s (.s (.s .z)))))))) (p_C (e := D.int)) ot_sub) (fun _ => oo_ixL)) p_aNil) (fun _ => Nat.le_of_ble_eq_true rfl) (fun _ => rfl)) (fun _ => up_TL)) (p_Fn (ez := (eTL iN)) (p_aCons (ea := (eL iN)) (p_Cut (p_Bo (e := (eL iN)) (.s (.s (.s (.s .z))))) (p_At (p_un (p_Bf (e := D.int) (.s (.s (.s (.s (.s (.s (.s (.s .z))))))))) ot_neg)) p_No ot_cutL) p_aNil) ot_tupL) (fun _ _ => oo_addT)) p_aNil) (fun _ => Nat.le_of_ble_eq_true rfl) (fun _ => rfl)) (fun _ => up_L)) (fun _ _ => oo_catL)) trivial (fun _ => (.s (.s (.s (.s .z))))) (fun v_stack => ?_)
      refine t_nxl ?_
      refine t_nxl ?_
      refine t_wipe (is := [5, 6, 7, 8]) (.cons (.cons (.cons (.cons .nil (.s (.s (.s (.s (.s (.s (.s (.s .z))))))))) (.s (.s (.s (.s (.s (.s (.s .z)))))))) (.s (.s (.s (.s (.s (.s .z))))))) (.s (.s (.s (.s (.s .z)))))) ?_
      exact t_nil rfl
    · refine t_assoc ?_
      refine t_app (en := iN) (.s (.s (.s (.s .z)))) (x_callP (p_aCons (ea := D.int) (pp_bin (p_Bf (e := D.int) (.s (.s (.s (.s (.s (.s .z))))))) (p_C (e := D.int)) ot_div) (p_aCons (ea := (eL D.str)) (p_Bb (e := (eL D.str)) (.s (.s (.s .z)))) p_aNil)) (ty_l_leaf _ _)) trivial (fun _ => (.s (.s (.s (.s .z))))) (fun v_stack => ?_)
      refine t_nxl ?_
      refine t_nxl ?_
      refine t_wipe (is := [5, 6, 7, 8]) (.cons (.cons (.cons (.cons .nil (.s (.s (.s (.s (.s (.s (.s (.s .z))))))))) (.s (.s (.s (.s (.s (.s (.s .z)))))))) (.s (.s (.s (.s (.s (.s .z))))))) (.s (.s (.s (.s (.s .z)))))) ?_
      exact t_nil rfl
abbrev L2_l_term (v_script : (List Int)) (v_begin : Int) : (List D) → Env := fun s => [.bo (D.scr v_script), .bo (D.int v_begin), .un, .un, .ow ((eL iN) s), .un, .un, .un, .un]
def f_b2_l_term (v_script : (List Int)) (v_begin : Int) (v_stack : (List D)) : M (O (List D) (List D) D) :=
 (M.bind (M.pure (min2 (6 : Int) ((List.length v_stack : Nat) : Int))) fun v_size =>
 (M.bind (M.bind (M.bind (M.bind (M.bind (M.bind (M.bind (M.bind (M.bind (M.bind (f_l_cell_at v_script v_begin) fun t66 => M.pure (t66 / (7 : Int))) fun t67 => M.pure (t67 % (2 : Int))) fun t68 => M.opt (gIx [("any" : Str), ("all" : Str)] t68)) fun t69 => M.pure [t69]) fun t70 => M.pure (List.map D.str t70)) fun t71 => M.opt (gCatL t71 (cutD v_stack (some (-v_size)) none))) fun t72 => M.pure [t72]) fun t73 => M.pure (List.map (eTL iN) t73)) fun t74 => M.opt (gCatL (cutD v_stack none (some (-v_size))) t74)) fun v_stack =>
 (M.pure (.nx v_stack))))
theorem t_b2_l_term (v_script : (List Int)) (v_begin : Int) (v_stack : (List D)) : Sm (L2_l_term v_script v_begin) (L2_l_term v_script v_begin) (RF iN) XT b2_l_term [.bo (D.scr v_script), .bo (D.int v_begin), .un, .un, .ow ((eL iN) v_stack), .un, .un, .un, .un] (f_b2_l_term v_script v_begin  v_stack) := by
  unfold b2_l_term f_b2_l_term
  refine t_set (en := D.int) (Pv.x (p_Fn (ez := D.int) (p_aCons (ea := D.int) (p_C (e := D.int)) (p_aCons (ea := D.int) (p_Fn (ez := D.int) (p_aCons (ea := (eL iN)) (p_Bo (e := (eL iN)) (.s (.s (.s (.s .z))))) p_aNil) ot_lenL) p_aNil)) ot_min2)) trivial (fun _ => (.s (.s (.s (.s (.s (.s (.s (.s .z))))))))) (fun v_size => ?_)
  refine t_setN (en := (eL iN)) (px_binO (p_Cut (p_Bo (e := (eL iN)) (.s (.s (.s (.s .z))))) p_No (p_At (p_un (p_Bf (e := D.int) (.s (.s (.s (.s (.s (.s (.s (.s .z))))))))) ot_neg)) ot_cutL) (x_as (ea := (eL (eTL iN))) (e' := (eL iN)) (x_Lst' (ez := (eL (eTL iN))) (xa_1 (ea := (eTL iN)) (xp_binO (x_as (ea := (eTL D.str)) (e' := (eTL iN)) (x_Tup' (ez := (eTL D.str)) (xa_1 (ea := D.str) (px_binO (p_Lst (ez := (eL D.str)) (p_aCons (ea := D.str) (p_C (e := D.str)) (p_aCons (ea := D.str) (p_C (e := D.str)) p_aNil)) (Nat.le_of_ble_eq_true rfl) rfl) (xp_bin (xp_bin (x_callP (p_aCons (ea := D.scr) (p_Bb (e := D.scr) .z) (p_aCons (ea := D.int) (p_Bb (e := D.int) (.s .z)) p_aNil)) (ty_l_cell_at _ _)) (p_C (e := D.int)) (fun _ => ot_div)) (p_C (e := D.int)) (fun _ => ot_mod)) (fun _ _ => oo_ixL)) p_aNil) (fun _ => Nat.le_of_ble_eq_true rfl) (fun _ => rfl)) (fun _ => up_TL)) (p_Fn (ez := (eTL iN)) (p_aCons (ea := (eL iN)) (p_Cut (p_Bo (e := (eL iN)) (.s (.s (.s (.s .z))))) (p_At (p_un (p_Bf (e := D.int) (.s (.s (.s (.s (.s (.s (.s (.s .z))))))))) ot_neg)) p_No ot_cutL) p_aNil) ot_tupL) (fun _ _ => oo_addT)) p_aNil) (fun _ => Nat.le_of_ble_eq_true rfl) (fun _ => rfl)) (fun _ => up_L)) (fun _ _ => oo_catL)) trivial (fun _ => (.s (.s (.s (.s .z))))) (fun v_stack => ?_)
  refine t_wipe (is := [2, 3, 5, 6, 7, 8]) (.cons (.cons (.cons (.cons (.cons (.cons .nil (.s (.s (.s (.s (.s (.s (.s (.s .z))))))))) (.s (.s (.s (.s (.s (.s (.s .z)))))))) (.s (.s (.s (.s (.s (.s .z))))))) (.s (.s (.s (.s (.s .z)))))) (.s (.s (.s .z)))) (.s (.s .z))) ?_
  exact t_nil rfl
def f_l_term (v_script : (List Int)) (v_begin : Int) (v_many : Int) (v_names_here : (List Str)) : M D := runO none (
 (M.bind (M.bind (M.bind (f_l_cell_at v_script v_begin) fun t1 => f_l_leaf t1 v_names_here) fun t2 => M.pure [t2]) fun v_stack =>
 (M.bind (M.opt (gR2 (1 : Int) v_many)) fun t76 => bindO (forO (fun x s3 => f_b1_l_term v_script v_begin v_names_here x s3) t76 (v_stack : (List D))) fun s3 =>
 (bindO (whileO (fun s31 => (M.pure (decide (((List.length s31 : Nat) : Int) > (1 : Int))))) (fun s31 => f_b2_l_term v_script v_begin s31) FUEL (s3 : (List D))) fun s31 =>
 (M.bind (M.opt (gIx s31 (0 : Int))) fun t75 => M.pure (.rt t75))))))
theorem ty_l_term (v_script : (List Int)) (v_begin : Int) (v_many : Int) (v_names_here : (List Str)) : FnT iN m_l_term [D.scr v_script, D.int v_begin, D.int v_many, (eL D.str) v_names_here] (f_l_term v_script v_begin v_many v_names_here) := by
  unfold f_l_term
  refine t_fn (Ef := fun _ => [.un, .un, .un, .un, .un, .un, .un, .un, .un]) (Lf := fun _ => []) rfl (.t (.t (.t (.t (.n (.s (.s (.s (.s (.s .z)))))))))) (fun _ h => nomatch h) ?_
  unfold c_l_term
  refine t_setN (en := (eL iN)) (x_Lst' (ez := (eL iN)) (xa_1 (ea := iN) (x_callX (xa_1 (ea := D.int) (x_callP (p_aCons (ea := D.scr) (p_Bb (e := D.scr) .z) (p_aCons (ea := D.int) (p_Bb (e := D.int) (.s .z)) p_aNil)) (ty_l_cell_at _ _)) (p_aCons (ea := (eL D.str)) (p_Bb (e := (eL D.str)) (.s (.s (.s .z)))) p_aNil)) (fun _ => ty_l_leaf _ _)) p_aNil) (fun _ => Nat.le_of_ble_eq_true rfl) (fun _ => rfl)) trivial (fun _ => (.s (.s (.s (.s .z))))) (fun v_stack => ?_)
  refine t_wipe (is := []) .nil ?_
  refine t_for (L' := (L1_l_term v_script v_begin v_many v_names_here)) (ei := D.int) (p_iFn (ez := D.int) (p_aCons (ea := D.int) (p_C (e := D.int)) (p_aCons (ea := D.int) (p_Bb (e := D.int) (.s (.s .z))) p_aNil)) (fun _ => oo_R2)) trivial rfl (fun _ _ => (tgN (.s (.s (.s (.s (.s .z))))))) (fun x s => t_b1_l_term v_script v_begin v_many v_names_here x s) (fun s3 => ?_)
  show Sm _ _ _ _ _ [.bo (D.scr v_script), .bo (D.int v_begin), .bo (D.int v_many), .bo ((eL D.str) v_names_here), .ow ((eL iN) s3), .un, .un, .un, .un] _
  refine t_wipe (is := [2, 3]) (.cons (.cons .nil (.s (.s (.s .z)))) (.s (.s .z))) ?_
  refine t_while (L' := (L2_l_term v_script v_begin)) rfl (fun _ => trivial) (fun s31 => (Pv.x (p_TrB (pp_bin (p_Fn (ez := D.int) (p_aCons (ea := (eL iN)) (p_Bo (e := (eL iN)) (.s (.s (.s (.s .z))))) p_aNil) ot_lenL) (p_C (e := D.int)) ot_gt)))) (fun s => t_b2_l_term v_script v_begin s) (fun s31 => ?_)
  show Sm _ _ _ _ _ [.bo (D.scr v_script), .bo (D.int v_begin), .un, .un, .ow ((eL iN) s31), .un, .un, .un, .un] _
  exact t_ret (eb := iN) (pp_binO (p_Bo (e := (eL iN)) (.s (.s (.s (.s .z))))) (p_C (e := D.int)) (fun _ => oo_ixL)) trivial (fun _ => rf_fr _)
def f_l_text : Nat → D → M Str
  | 0, _ => M.stuck
  | r + 1, v_term_here => runO none (
 (M.bind (M.bind (M.opt (oIx v_term_here (D.int (0 : Int)))) fun t1 => M.opt (D.eq? t1 (D.str ("many" : Str)))) fun t2 => if t2 = true then
 (M.bind (M.bind (M.bind (M.bind (M.bind (M.bind (M.bind (M.opt (oIx v_term_here (D.int (1 : Int)))) fun t3 => M.opt (uI t3)) fun t4 => M.opt (gSt (fStr [.int t4]))) fun t5 => M.opt (gCatS ("many(" : Str) t5)) fun t6 => M.opt (gCatS t6 ("," : Str))) fun t8 => M.bind (M.bind (M.opt (oIx v_term_here (D.int (2 : Int)))) fun t7 => M.opt (uS t7)) fun t9 => M.opt (gCatS t8 t9)) fun t10 => M.opt (gCatS t10 (")" : Str))) fun t11 => M.pure (.rt t11))
 else (M.bind (M.bind (M.opt (oIx v_term_here (D.int (0 : Int)))) fun t12 => M.opt (D.in? t12 ((eTL iN) (List.map D.str [("all" : Str), ("any" : Str), ("not" : Str)])))) fun t13 => if t13 = true then
 (M.bind (M.bind (M.bind (M.bind (M.bind (M.opt (oIx v_term_here (D.int (0 : Int)))) fun t14 => M.opt (uS t14)) fun t15 => M.opt (gCatS t15 ("(" : Str))) fun t21 => M.bind (M.bind (M.pure ("," : Str)) fun t19 => M.bind (M.bind (M.bind (M.opt (oCut v_term_here (some (1 : Int)) none)) fun t16 => M.opt ((uTL some) t16)) fun t18 => lcO (fun x17 => (M.pure true)) (fun x17 => (f_l_text r x17)) t18 []) fun t20 => M.opt (gJoin t19 t20)) fun t22 => M.opt (gCatS t21 t22)) fun t23 => M.opt (gCatS t23 (")" : Str))) fun t24 => M.pure (.rt t24))
 else (M.bind (M.bind (M.bind (M.bind (M.bind (M.opt (oIx v_term_here (D.int (0 : Int)))) fun t25 => M.opt (uS t25)) fun t26 => M.opt (gCatS t26 ("(" : Str))) fun t30 => M.bind (M.bind (M.pure ("," : Str)) fun t28 => M.bind (M.bind (M.opt (oCut v_term_here (some (1 : Int)) none)) fun t27 => M.opt ((uTL uS) t27)) fun t29 => M.opt (gJoin t28 t29)) fun t31 => M.opt (gCatS t30 t31)) fun t32 => M.opt (gCatS t32 (")" : Str))) fun t33 => M.pure (.rt t33)))))
theorem ty_l_text : ∀ (r : Nat) (v_term_here : D), FnT D.str (g_l_text r 0) [iN v_term_here] (f_l_text r v_term_here)
  | 0, _ => fnT_stuck
  | r + 1, v_term_here => by
    show FnT D.str (mkFn [true] 1 (c_l_text (g_l_text r))) [iN v_term_here] (f_l_text (r + 1) v_term_here)
    unfold f_l_text
    refine t_fn (Ef := fun _ => [.un, .un]) (Lf := fun _ => []) rfl (.t (.n (.s .z))) (fun _ h => nomatch h) ?_
    unfold c_l_text
    refine t_if (x_TrBm (xp_binO (pp_binO (p_Bb (e := iN) .z) (p_up (ea := D.int) (p_C (e := D.int))) (fun _ => oo_ixD)) (p_up (ea := D.str) (p_C (e := D.str))) (fun _ _ => oo_eqD))) trivial ?_ ?_
    · refine t_assoc ?_
      exact t_ret (eb := D.str) (xp_binO (xx_binO (xp_binO (px_binO (p_C (e := D.str)) (x_FnO (ez := D.str) (xa_1 (ea := D.int) (x_castX unI (pp_binO (p_Bb (e := iN) .z) (p_up (ea := D.int) (p_C (e := D.int))) (fun _ => oo_ixD))) p_aNil) (fun _ _ => oo_strI)) (fun _ _ => oo_catS)) (p_C (e := D.str)) (fun _ _ => oo_catS)) (x_castX unS (pp_binO (p_Bb (e := iN) .z) (p_up (ea := D.int) (p_C (e := D.int))) (fun _ => oo_ixD))) (fun _ _ _ => oo_catS)) (p_C (e := D.str)) (fun _ _ => oo_catS)) trivial (fun _ => rf_fr _)
    · refine t_nxl ?_
      refine t_if (x_TrBm (xp_binO (pp_binO (p_Bb (e := iN) .z) (p_up (ea := D.int) (p_C (e := D.int))) (fun _ => oo_ixD)) (p_up (ea := (eTL iN)) (p_as (ea := (eTL D.str)) (e' := (eTL iN)) (p_Tup (ez := (eTL D.str)) (p_aCons (ea := D.str) (p_C (e := D.str)) (p_aCons (ea := D.str) (p_C (e := D.str)) (p_aCons (ea := D.str) (p_C (e := D.str)) p_aNil))) (Nat.le_of_ble_eq_true rfl) rfl) (up_TL))) (fun _ _ => oo_inD))) trivial ?_ ?_
      · refine t_assoc ?_
        exact t_ret (eb := D.str) (xp_binO (xx_binO (xp_binO (x_castX unS (pp_binO (p_Bb (e := iN) .z) (p_up (ea := D.int) (p_C (e := D.int))) (fun _ => oo_ixD))) (p_C (e := D.str)) (fun _ _ => oo_catS)) (x_joinL (Pv.x (p_C (e := D.str))) (x_Lc' (ei := iN) (eb := D.str) (x_iT' (x_castX (unTL unAny) (p_CutO (p_Bb (e := iN) .z) (p_At (p_C (e := D.int))) p_No (fun _ => oo_cutD)))) (.cons .nil (.s .z)) (fun _ => (tgN (.s .z))) (fun x17 => (Pv.x p_Yes)) (fun x17 => (x_callP (p_aCons (ea := iN) (p_Bf (e := iN) (.s .z)) p_aNil) (ty_l_text r _))))) (fun _ _ _ => oo_catS)) (p_C (e := D.str)) (fun _ _ => oo_catS)) trivial (fun _ => rf_fr _)
      · refine t_nxl ?_
        exact t_ret (eb := D.str) (xp_binO (xx_binO (xp_binO (x_castX unS (pp_binO (p_Bb (e := iN) .z) (p_up (ea := D.int) (p_C (e := D.int))) (fun _ => oo_ixD))) (p_C (e := D.str)) (fun _ _ => oo_catS)) (x_joinTL (Pv.x (p_C (e := D.str))) (x_castX (unTL unS) (p_CutO (p_Bb (e := iN) .z) (p_At (p_C (e := D.int))) p_No (fun _ => oo_cutD)))) (fun _ _ _ => oo_catS)) (p_C (e := D.str)) (fun _ _ => oo_catS)) trivial (fun _ => rf_fr _)
abbrev L1_l_marks (v_term_here : D) : (List Str) → Env := fun s => [.bo (iN v_term_here), .fr ((eL D.str) s), .un]
def f_b1_l_marks (r : Nat) (F_l_marks : D → M (List Str))  (x14 : D) (v_found : (List Str)) : M (O (List Str) (List Str) (List Str)) :=
 (M.bind (M.bind (F_l_marks x14) fun t17 => M.opt (gCatL v_found t17)) fun v_found =>
 (M.pure (.nx v_found)))
theorem t_b1_l_marks (r : Nat) (F_l_marks : D → M (List Str)) (hF_l_marks : ∀ (a0 : D), FnT (eL D.str) (g_l_marks r 0) [iN a0] (F_l_marks a0)) (v_term_here : D) (x14 : D) (v_found : (List Str)) : Sm (L1_l_marks v_term_here) (L1_l_marks v_term_here) (RF (eL D.str)) XT (b1_l_marks (g_l_marks r)) [.bo (iN v_term_here), .fr ((eL D.str) v_found), .fr (iN x14)] (f_b1_l_marks r F_l_marks  x14 v_found) := by
  unfold b1_l_marks f_b1_l_marks
  refine t_set (en := (eL D.str)) (px_binO (p_Bf (e := (eL D.str)) (.s .z)) (x_callP (p_aCons (ea := iN) (p_Bf (e := iN) (.s (.s .z))) p_aNil) (hF_l_marks _)) (fun _ _ => oo_addL)) trivial (fun _ => (.s .z)) (fun v_found => ?_)
  refine t_wipe (is := [2]) (.cons .nil (.s (.s .z))) ?_
  exact t_nil rfl
def s_l_marks (r : Nat) (F_l_marks : D → M (List Str)) (v_term_here : D) : M (List Str) := runO none (
 (M.bind (M.bind (M.opt (oIx v_term_here (D.int (0 : Int)))) fun t1 => M.opt (D.eq? t1 (D.str ("many" : Str)))) fun t2 => if t2 = true then
 (M.bind (M.bind (M.bind (M.opt (oIx v_term_here (D.int (2 : Int)))) fun t3 => M.opt (uS t3)) fun t4 => M.pure [t4]) fun t5 => M.pure (.rt t5))
 else (M.bind (M.bind (M.opt (oIx v_term_here (D.int (0 : Int)))) fun t6 => M.opt (gNinD t6 ((eTL iN) (List.map D.str [("all" : Str), ("any" : Str), ("not" : Str)])))) fun t7 => if t7 = true then
 (M.bind (M.bind (M.bind (M.bind (M.opt (oCut v_term_here (some (1 : Int)) none)) fun t8 => M.opt (gLs (fList [t8]))) fun t9 => M.pure ((eL iN) t9)) fun t10 => M.opt ((uL uS) t10)) fun t11 => M.pure (.rt t11))
 else (M.bind (M.pure ([] : List Str)) fun v_found =>
 (M.bind (M.bind (M.opt (oCut v_term_here (some (1 : Int)) none)) fun t16 => M.opt ((uTL some) t16)) fun t19 => bindO (forO (fun x s13 => f_b1_l_marks r F_l_marks  x s13) t19 (v_found : (List Str))) fun s13 =>
 (M.bind (M.pure s13) fun t18 => M.pure (.rt t18)))))))
theorem tyS_l_marks (r : Nat) (F_l_marks : D → M (List Str)) (hF_l_marks : ∀ (a0 : D), FnT (eL D.str) (g_l_marks r 0) [iN a0] (F_l_marks a0)) (v_term_here : D) : FnT (eL D.str) (mkFn [true] 2 (c_l_marks (g_l_marks r))) [iN v_term_here] (s_l_marks r F_l_marks v_term_here) := by
  unfold s_l_marks
  refine t_fn (Ef := fun _ => [.un, .un, .un]) (Lf := fun _ => []) rfl (.t (.n (.s (.s .z)))) (fun _ h => nomatch h) ?_
  unfold c_l_marks
  refine t_if (x_TrBm (xp_binO (pp_binO (p_Bb (e := iN) .z) (p_up (ea := D.int) (p_C (e := D.int))) (fun _ => oo_ixD)) (p_up (ea := D.str) (p_C (e := D.str))) (fun _ _ => oo_eqD))) trivial ?_ ?_
  · refine t_assoc ?_
    exact t_retN (eb := (eL D.str)) (x_Lst' (ez := (eL D.str)) (xa_1 (ea := D.str) (x_castX unS (pp_binO (p_Bb (e := iN) .z) (p_up (ea := D.int) (p_C (e := D.int))) (fun _ => oo_ixD))) p_aNil) (fun _ => Nat.le_of_ble_eq_true rfl) (fun _ => rfl)) trivial (fun _ => rf_ow _)
  · refine t_nxl ?_
    refine t_if (x_TrBm (xp_binO (pp_binO (p_Bb (e := iN) .z) (p_up (ea := D.int) (p_C (e := D.int))) (fun _ => oo_ixD)) (p_up (ea := (eTL iN)) (p_as (ea := (eTL D.str)) (e' := (eTL iN)) (p_Tup (ez := (eTL D.str)) (p_aCons (ea := D.str) (p_C (e := D.str)) (p_aCons (ea := D.str) (p_C (e := D.str)) (p_aCons (ea := D.str) (p_C (e := D.str)) p_aNil))) (Nat.le_of_ble_eq_true rfl) rfl) (up_TL))) (fun _ _ => oo_ninD))) trivial ?_ ?_
    · refine t_assoc ?_
      exact t_retN (eb := (eL D.str)) (x_castX (unL unS) (x_up (ea := (eL iN)) (x_FnO (ez := (eL iN)) (xa_1 (ea := iN) (p_CutO (p_Bb (e := iN) .z) (p_At (p_C (e := D.int))) p_No (fun _ => oo_cutD)) p_aNil) (fun _ _ => oo_listD)))) trivial (fun _ => rf_ow _)
    · refine t_nxl ?_
      refine t_set (en := (eL D.str)) (Pv.x (p_Lst (ez := (eL D.str)) p_aNil (Nat.le_of_ble_eq_true rfl) rfl)) trivial (fun _ => (.s .z)) (fun v_found => ?_)
      refine t_wipe (is := []) .nil ?_
      refine t_for (L' := (L1_l_marks v_term_here)) (ei := iN) (x_iT' (x_castX (unTL unAny) (p_CutO (p_Bb (e := iN) .z) (p_At (p_C (e := D.int))) p_No (fun _ => oo_cutD)))) trivial rfl (fun _ _ => (tgN (.s (.s .z)))) (fun x s => t_b1_l_marks r F_l_marks hF_l_marks v_term_here x s) (fun s13 => ?_)
      show Sm _ _ _ _ _ [.bo (iN v_term_here), .fr ((eL D.str) s13), .un] _
      exact t_ret (eb := (eL D.str)) (Pv.x (p_V (e := (eL D.str)) (.s .z))) trivial (fun _ => rf_fr _)
def fg_l_marks : Nat → (D → M (List Str))
  | 0 => (fun _ => M.stuck)
  | r + 1 => (s_l_marks r (fg_l_marks r))
def f_l_marks (r : Nat) : D → M (List Str) := (fg_l_marks r)
theorem tyg_l_marks : ∀ r : Nat, (∀ (a0 : D), FnT (eL D.str) (g_l_marks r 0) [iN a0] (f_l_marks r a0))
  | 0 => (fun _ => fnT_stuck)
  | r + 1 => (fun a0 => tyS_l_marks r (fg_l_marks r) (tyg_l_marks r) a0)
theorem ty_l_marks (r : Nat) (a0 : D) : FnT (eL D.str) (g_l_marks r 0) [iN a0] (f_l_marks r a0) := (tyg_l_marks r) a0
def f_l_grows : Nat → D → M Bool
  | 0, _ => M.stuck
  | r + 1, v_term_here => runO none (
 (M.bind (M.bind (M.opt (oIx v_term_here (D.int (0 : Int)))) fun t1 => M.opt (D.in? t1 ((eTL iN) (List.map D.str [("beside" : Str), ("not" : Str)])))) fun t2 => if t2 = true then
 (M.bind (M.pure false) fun t3 => M.pure (.rt t3))
 else (M.bind (M.bind (M.opt (oIx v_term_here (D.int (0 : Int)))) fun t4 => M.opt (gNinD t4 ((eTL iN) (List.map D.str [("all" : Str), ("any" : Str)])))) fun t5 => if t5 = true then
 (M.bind (M.pure true) fun t6 => M.pure (.rt t6))
 else (M.bind (M.bind (M.bind (M.bind (M.opt (oCut v_term_here (some (1 : Int)) none)) fun t7 => M.opt ((uTL some) t7)) fun t9 => lcO (fun x8 => (M.pure true)) (fun x8 => (f_l_grows r x8)) t9 []) fun t10 => M.pure (List.all t10 id)) fun t11 => M.pure (.rt t11)))))
theorem ty_l_grows : ∀ (r : Nat) (v_term_here : D), FnT D.bl (g_l_grows r 0) [iN v_term_here] (f_l_grows r v_term_here)
  | 0, _ => fnT_stuck
  | r + 1, v_term_here => by
    show FnT D.bl (mkFn [true] 1 (c_l_grows (g_l_grows r))) [iN v_term_here] (f_l_grows (r + 1) v_term_here)
    unfold f_l_grows
    refine t_fn (Ef := fun _ => [.un, .un]) (Lf := fun _ => []) rfl (.t (.n (.s .z))) (fun _ h => nomatch h) ?_
    unfold c_l_grows
    refine t_if (x_TrBm (xp_binO (pp_binO (p_Bb (e := iN) .z) (p_up (ea := D.int) (p_C (e := D.int))) (fun _ => oo_ixD)) (p_up (ea := (eTL iN)) (p_as (ea := (eTL D.str)) (e' := (eTL iN)) (p_Tup (ez := (eTL D.str)) (p_aCons (ea := D.str) (p_C (e := D.str)) (p_aCons (ea := D.str) (p_C (e := D.str)) p_aNil)) (Nat.le_of_ble_eq_true rfl) rfl) (up_TL))) (fun _ _ => oo_inD))) trivial ?_ ?_
    · refine t_assoc ?_
      exact t_ret (eb := D.bl) (Pv.x (p_C (e := D.bl))) trivial (fun _ => rf_fr _)
    · refine t_nxl ?_
      refine t_if (x_TrBm (xp_binO (pp_binO (p_Bb (e := iN) .z) (p_up (ea := D.int) (p_C (e := D.int))) (fun _ => oo_ixD)) (p_up (ea := (eTL iN)) (p_as (ea := (eTL D.str)) (e' := (eTL iN)) (p_Tup (ez := (eTL D.str)) (p_aCons (ea := D.str) (p_C (e := D.str)) (p_aCons (ea := D.str) (p_C (e := D.str)) p_aNil)) (Nat.le_of_ble_eq_true rfl) rfl) (up_TL))) (fun _ _ => oo_ninD))) trivial ?_ ?_
      · refine t_assoc ?_
        exact t_ret (eb := D.bl) (Pv.x (p_C (e := D.bl))) trivial (fun _ => rf_fr _)
      · refine t_nxl ?_
        exact t_ret (eb := D.bl) (x_FnT (ez := D.bl) (xa_1 (ea := (eL D.bl)) (x_Lc' (ei := iN) (eb := D.bl) (x_iT' (x_castX (unTL unAny) (p_CutO (p_Bb (e := iN) .z) (p_At (p_C (e := D.int))) p_No (fun _ => oo_cutD)))) (.cons .nil (.s .z)) (fun _ => (tgN (.s .z))) (fun x8 => (Pv.x p_Yes)) (fun x8 => (x_callP (p_aCons (ea := iN) (p_Bf (e := iN) (.s .z)) p_aNil) (ty_l_grows r _)))) p_aNil) (fun _ => ot_all)) trivial (fun _ => rf_fr _)
def f_l_fault : Nat → D → D → M D
  | 0, _, _ => M.stuck
  | r + 1, v_term_here, v_lists => runO none (
 (M.bind (M.bind (M.opt (oIx v_term_here (D.int (0 : Int)))) fun t1 => M.opt (D.eq? t1 (D.str ("has" : Str)))) fun t2 => if t2 = true then
 (M.bind (M.bind (M.bind (M.opt (oIx v_term_here (D.int (1 : Int)))) fun t3 => M.opt (uS t3)) fun t4 => f_p_Has_init 14 t4) fun t5 => M.pure (.rt t5))
 else (M.bind (M.bind (M.opt (oIx v_term_here (D.int (0 : Int)))) fun t6 => M.opt (D.eq? t6 (D.str ("many" : Str)))) fun t7 => if t7 = true then
 (M.bind (M.bind (M.bind (M.bind (M.opt (oIx v_term_here (D.int (1 : Int)))) fun t8 => M.opt (uI t8)) fun t10 => M.bind (M.bind (M.opt (oIx v_term_here (D.int (2 : Int)))) fun t9 => M.opt (uS t9)) fun t11 => M.pure (t10, t11)) fun t12 => f_p_Many_init 15 t12.1 t12.2) fun t13 => M.pure (.rt t13))
 else (M.bind (M.bind (M.opt (oIx v_term_here (D.int (0 : Int)))) fun t14 => M.opt (D.eq? t14 (D.str ("before" : Str)))) fun t15 => if t15 = true then
 (M.bind (M.bind (M.bind (M.bind (M.opt (oIx v_term_here (D.int (1 : Int)))) fun t16 => M.opt (uS t16)) fun t18 => M.bind (M.bind (M.opt (oIx v_term_here (D.int (2 : Int)))) fun t17 => M.opt (uS t17)) fun t19 => M.pure (t18, t19)) fun t20 => f_p_Pair_init 17 t20.1 t20.2) fun t21 => M.pure (.rt t21))
 else (M.bind (M.bind (M.opt (oIx v_term_here (D.int (0 : Int)))) fun t22 => M.opt (D.eq? t22 (D.str ("under" : Str)))) fun t23 => if t23 = true then
 (M.bind (M.bind (M.bind (M.bind (M.opt (oIx v_term_here (D.int (1 : Int)))) fun t24 => M.opt (uS t24)) fun t26 => M.bind (M.bind (M.opt (oIx v_term_here (D.int (2 : Int)))) fun t25 => M.opt (uS t25)) fun t27 => M.pure (t26, t27)) fun t28 => f_p_Pair_init 18 t28.1 t28.2) fun t29 => M.pure (.rt t29))
 else (M.bind (M.bind (M.opt (oIx v_term_here (D.int (0 : Int)))) fun t30 => M.opt (D.eq? t30 (D.str ("beside" : Str)))) fun t31 => if t31 = true then
 (M.bind (M.bind (M.bind (M.bind (M.opt (oIx v_term_here (D.int (1 : Int)))) fun t32 => M.opt (uS t32)) fun t34 => M.bind (M.bind (M.opt (oIx v_term_here (D.int (2 : Int)))) fun t33 => M.opt (uS t33)) fun t35 => M.pure (t34, t35)) fun t36 => f_p_Pair_init 19 t36.1 t36.2) fun t37 => M.pure (.rt t37))
 else (M.bind (M.bind (M.opt (oIx v_term_here (D.int (0 : Int)))) fun t38 => M.opt (D.eq? t38 (D.str ("not" : Str)))) fun t39 => if t39 = true then
 (M.bind (M.bind (M.bind (M.opt (oIx v_term_here (D.int (1 : Int)))) fun t40 => f_l_fault r t40 v_lists) fun t41 => f_p_Not_init 23 t41) fun t42 => M.pure (.rt t42))
 else (M.bind (M.bind (M.bind (M.bind (M.opt (oCut v_term_here (some (1 : Int)) none)) fun t43 => M.opt ((uTL some) t43)) fun t45 => lcO (fun x44 => (M.pure true)) (fun x44 => (f_l_fault r x44 v_lists)) t45 []) fun t46 => newB ((eL iN) t46)) fun v_parts =>
 (M.bind (M.pure v_lists) fun t47 => M.bind (isBL t47) fun _ => M.bind (lmB lAppend t47 [iN v_parts]) fun _ =>
 (M.bind (M.bind (M.opt (oIx v_term_here (D.int (0 : Int)))) fun t49 => M.opt (D.eq? t49 (D.str ("all" : Str)))) fun t50 => if t50 = true then
 (M.bind (f_p_Group_init 21 v_parts) fun t51 => M.pure (.rt t51))
 else (M.bind (f_p_Group_init 22 v_parts) fun t52 => M.pure (.rt t52))))))))))))
theorem tyN_l_fault : ∀ (r : Nat) (v_term_here : D) (v_lists : D), FnN iN (g_l_fault r 0) [iN v_term_here, iN v_lists] (f_l_fault r v_term_here v_lists)
  | 0, _, _ => fnN_stuck
  | r + 1, v_term_here, v_lists => by
    show FnN iN (mkFn [true, true] 2 (c_l_fault (g_l_fault r))) [iN v_term_here, iN v_lists] (f_l_fault (r + 1) v_term_here v_lists)
    unfold f_l_fault
    refine t_fnN (Ef := fun _ => [.un, .un, .un, .un]) (Lf := fun _ => []) rfl (.t (.t (.n (.s (.s .z))))) ?_
    unfold c_l_fault
    refine t_if (x_TrBm (xp_binO (pp_binO (p_Bb (e := iN) .z) (p_up (ea := D.int) (p_C (e := D.int))) (fun _ => oo_ixD)) (p_up (ea := D.str) (p_C (e := D.str))) (fun _ _ => oo_eqD))) trivial ?_ ?_
    · refine t_assoc ?_
      exact t_retN (eb := iN) (x_makeX (xa_1 (ea := D.str) (x_castX unS (pp_binO (p_Bb (e := iN) .z) (p_up (ea := D.int) (p_C (e := D.int))) (fun _ => oo_ixD))) p_aNil) (fun _ => ty_p_Has_init _ _)) trivial (fun _ => rn_ow _)
    · refine t_nxl ?_
      refine t_if (x_TrBm (xp_binO (pp_binO (p_Bb (e := iN) .z) (p_up (ea := D.int) (p_C (e := D.int))) (fun _ => oo_ixD)) (p_up (ea := D.str) (p_C (e := D.str))) (fun _ _ => oo_eqD))) trivial ?_ ?_
      · refine t_assoc ?_
        exact t_retN (eb := iN) (x_makeX (xa_X (ea := D.int) (x_castX unI (pp_binO (p_Bb (e := iN) .z) (p_up (ea := D.int) (p_C (e := D.int))) (fun _ => oo_ixD))) (xa_1 (ea := D.str) (x_castX unS (pp_binO (p_Bb (e := iN) .z) (p_up (ea := D.int) (p_C (e := D.int))) (fun _ => oo_ixD))) p_aNil)) (fun _ => ty_p_Many_init _ _ _)) trivial (fun _ => rn_ow _)
      · refine t_nxl ?_
        refine t_if (x_TrBm (xp_binO (pp_binO (p_Bb (e := iN) .z) (p_up (ea := D.int) (p_C (e := D.int))) (fun _ => oo_ixD)) (p_up (ea := D.str) (p_C (e := D.str))) (fun _ _ => oo_eqD))) trivial ?_ ?_
        · refine t_assoc ?_
          exact t_retN (eb := iN) (x_makeX (xa_X (ea := D.str) (x_castX unS (pp_binO (p_Bb (e := iN) .z) (p_up (ea := D.int) (p_C (e := D.int))) (fun _ => oo_ixD))) (xa_1 (ea := D.str) (x_castX unS (pp_binO (p_Bb (e := iN) .z) (p_up (ea := D.int) (p_C (e := D.int))) (fun _ => oo_ixD))) p_aNil)) (fun _ => ty_p_Pair_init _ _ _)) trivial (fun _ => rn_ow _)
        · refine t_nxl ?_
          refine t_if (x_TrBm (xp_binO (pp_binO (p_Bb (e := iN) .z) (p_up (ea := D.int) (p_C (e := D.int))) (fun _ => oo_ixD)) (p_up (ea := D.str) (p_C (e := D.str))) (fun _ _ => oo_eqD))) trivial ?_ ?_
          · refine t_assoc ?_
            exact t_retN (eb := iN) (x_makeX (xa_X (ea := D.str) (x_castX unS (pp_binO (p_Bb (e := iN) .z) (p_up (ea := D.int) (p_C (e := D.int))) (fun _ => oo_ixD))) (xa_1 (ea := D.str) (x_castX unS (pp_binO (p_Bb (e := iN) .z) (p_up (ea := D.int) (p_C (e := D.int))) (fun _ => oo_ixD))) p_aNil)) (fun _ => ty_p_Pair_init _ _ _)) trivial (fun _ => rn_ow _)
          · refine t_nxl ?_
            refine t_if (x_TrBm (xp_binO (pp_binO (p_Bb (e := iN) .z) (p_up (ea := D.int) (p_C (e := D.int))) (fun _ => oo_ixD)) (p_up (ea := D.str) (p_C (e := D.str))) (fun _ _ => oo_eqD))) trivial ?_ ?_
            · refine t_assoc ?_
              exact t_retN (eb := iN) (x_makeX (xa_X (ea := D.str) (x_castX unS (pp_binO (p_Bb (e := iN) .z) (p_up (ea := D.int) (p_C (e := D.int))) (fun _ => oo_ixD))) (xa_1 (ea := D.str) (x_castX unS (pp_binO (p_Bb (e := iN) .z) (p_up (ea := D.int) (p_C (e := D.int))) (fun _ => oo_ixD))) p_aNil)) (fun _ => ty_p_Pair_init _ _ _)) trivial (fun _ => rn_ow _)
            · refine t_nxl ?_
              refine t_if (x_TrBm (xp_binO (pp_binO (p_Bb (e := iN) .z) (p_up (ea := D.int) (p_C (e := D.int))) (fun _ => oo_ixD)) (p_up (ea := D.str) (p_C (e := D.str))) (fun _ _ => oo_eqD))) trivial ?_ ?_
              · refine t_assoc ?_
                exact t_retN (eb := iN) (x_makeX (xa_1 (ea := iN) (x_callX (xa_1 (ea := iN) (pp_binO (p_Bb (e := iN) .z) (p_up (ea := D.int) (p_C (e := D.int))) (fun _ => oo_ixD)) (p_aCons (ea := iN) (p_Bb (e := iN) (.s .z)) p_aNil)) (fun _ => (fun a0 a1 => (tyN_l_fault r a0 a1).toT) _ _)) p_aNil) (fun _ => ty_p_Not_init _ _)) trivial (fun _ => rn_ow _)
              · refine t_nxl ?_
                refine t_set (en := iN) (x_box (e := (eL iN)) (x_Lc' (ei := iN) (eb := iN) (x_iT' (x_castX (unTL unAny) (p_CutO (p_Bb (e := iN) .z) (p_At (p_C (e := D.int))) p_No (fun _ => oo_cutD)))) (.cons .nil (.s (.s (.s .z)))) (fun _ => (tgN (.s (.s (.s .z))))) (fun x44 => (Pv.x p_Yes)) (fun x44 => (x_callP (p_aCons (ea := iN) (p_Bf (e := iN) (.s (.s (.s .z)))) (p_aCons (ea := iN) (p_Bb (e := iN) (.s .z)) p_aNil)) ((fun a0 a1 => (tyN_l_fault r a0 a1).toT) _ _))))) trivial (fun _ => (.s (.s .z))) (fun v_parts => ?_)
                refine t_lmSP (ds := [iN v_parts]) (Pv.x (p_Bb (e := iN) (.s .z))) (p_aCons (ea := iN) (p_V (e := iN) (.s (.s .z))) p_aNil) trivial ?_
                refine t_if (x_TrBm (xp_binO (pp_binO (p_Bb (e := iN) .z) (p_up (ea := D.int) (p_C (e := D.int))) (fun _ => oo_ixD)) (p_up (ea := D.str) (p_C (e := D.str))) (fun _ _ => oo_eqD))) trivial ?_ ?_
                · refine t_assoc ?_
                  exact t_retN (eb := iN) (x_makeP (p_aCons (ea := iN) (p_Bf (e := iN) (.s (.s .z))) p_aNil) (ty_p_Group_init _ _)) trivial (fun _ => rn_ow _)
                · refine t_nxl ?_
                  exact t_retN (eb := iN) (x_makeP (p_aCons (ea := iN) (p_Bf (e := iN) (.s (.s .z))) p_aNil) (ty_p_Group_init _ _)) trivial (fun _ => rn_ow _)
theorem ty_l_fault (r : Nat) (v_term_here : D) (v_lists : D) : FnT iN (g_l_fault r 0) [iN v_term_here, iN v_lists] (f_l_fault r v_term_here v_lists) := (tyN_l_fault r v_term_here v_lists).toT
abbrev L1_p_law (v_script : (List Int)) (v_names_here : (List Str)) (v_term_here : D) (v_lists : D) (v_fault_here : D) : Unit → Env := fun s => [.bo (D.scr v_script), .fr ((eL D.str) v_names_here), .fr (iN v_term_here), .fr (iN v_lists), .fr (iN v_fault_here), .un, .un, .un, .un, .un, .un]
def f_b1_p_law  (x7 : D)  : M (O Unit Unit Bool) :=
 (M.bind (M.pure x7) fun t12 => M.bind (isBL t12) fun _ => M.bind (lmB lReverse t12 []) fun _ =>
 (M.bind (M.pure x7) fun t14 => M.bind (isBL t14) fun _ => M.bind (lmB lPop t14 []) fun _ =>
 (M.pure (.nx ()))))
theorem t_b1_p_law (v_script : (List Int)) (v_names_here : (List Str)) (v_term_here : D) (v_lists : D) (v_fault_here : D) (x7 : D)  : Sm (L1_p_law v_script v_names_here v_term_here v_lists v_fault_here) (L1_p_law v_script v_names_here v_term_here v_lists v_fault_here) (RF D.bl) XT b1_p_law [.bo (D.scr v_script), .fr ((eL D.str) v_names_here), .fr (iN v_term_here), .fr (iN v_lists), .fr (iN v_fault_here), .fr (iN x7), .un, .un, .un, .un, .un] (f_b1_p_law  x7 ) := by
  unfold b1_p_law f_b1_p_law
  refine t_lmSP (ds := []) (Pv.x (p_Bf (e := iN) (.s (.s (.s (.s (.s .z))))))) p_aNil trivial ?_
  refine t_lmSP (ds := []) (Pv.x (p_Bf (e := iN) (.s (.s (.s (.s (.s .z))))))) p_aNil trivial ?_
  refine t_wipe (is := [5, 6, 7, 8, 9, 10]) (.cons (.cons (.cons (.cons (.cons (.cons .nil (.s (.s (.s (.s (.s (.s (.s (.s (.s (.s .z))))))))))) (.s (.s (.s (.s (.s (.s (.s (.s (.s .z)))))))))) (.s (.s (.s (.s (.s (.s (.s (.s .z))))))))) (.s (.s (.s (.s (.s (.s (.s .z)))))))) (.s (.s (.s (.s (.s (.s .z))))))) (.s (.s (.s (.s (.s .z)))))) ?_
  exact t_nil rfl
abbrev L2_p_law (v_script : (List Int)) (v_names_here : (List Str)) (v_term_here : D) (v_fault_here : D) (v_due : (List Str)) : Unit → Env := fun s => [.bo (D.scr v_script), .fr ((eL D.str) v_names_here), .fr (iN v_term_here), .un, .fr (iN v_fault_here), .un, .fr ((eL D.str) v_due), .un, .un, .un, .un]
def f_b2_p_law (v_fault_here : D) (v_due : (List Str)) (x18 : Int)  : M (O Unit Unit Bool) :=
 (M.bind (M.bind (methM "marks" mt_marks resN v_fault_here (M.pure [])) fun t23 => M.opt ((uL uS) t23)) fun v_found =>
 (if ((!true) || (!decide (v_found = v_due))) = true then
 (M.bind (M.pure false) fun t25 => M.pure (.rt t25))
 else (M.bind (M.pure ("a" : Str)) fun t26 => M.bind (M.opt (gApp v_found t26)) fun v_found =>
 (M.pure (.nx ())))))
theorem t_b2_p_law (v_script : (List Int)) (v_names_here : (List Str)) (v_term_here : D) (v_fault_here : D) (v_due : (List Str)) (x18 : Int)  : Sm (L2_p_law v_script v_names_here v_term_here v_fault_here v_due) (L2_p_law v_script v_names_here v_term_here v_fault_here v_due) (RF D.bl) XT b2_p_law [.bo (D.scr v_script), .fr ((eL D.str) v_names_here), .fr (iN v_term_here), .un, .fr (iN v_fault_here), .un, .fr ((eL D.str) v_due), .fr (D.int x18), .un, .un, .un] (f_b2_p_law v_fault_here v_due x18 ) := by
  unfold b2_p_law f_b2_p_law
  refine t_setN (en := (eL D.str)) (x_castX (unL unS) (p_methP (ea := iN) (p_Bf (e := iN) (.s (.s (.s (.s .z))))) p_aNil)) trivial (fun _ => (.s (.s (.s (.s (.s (.s (.s (.s (.s (.s .z))))))))))) (fun v_found => ?_)
  refine t_ifP (p_tOr (p_tNot (p_TrB (p_isT (p_Bo (e := (eL D.str)) (.s (.s (.s (.s (.s (.s (.s (.s (.s (.s .z))))))))))) (by rfl)))) (p_TrB (pp_bin (p_Bo (e := (eL D.str)) (.s (.s (.s (.s (.s (.s (.s (.s (.s (.s .z))))))))))) (p_Bf (e := (eL D.str)) (.s (.s (.s (.s (.s (.s .z))))))) (ot_ne (eqL eqS))))) ?_ ?_
  · refine t_assoc ?_
    exact t_ret (eb := D.bl) (Pv.x (p_C (e := D.bl))) trivial (fun _ => rf_fr _)
  · refine t_nxl ?_
    refine t_app (en := D.str) (.s (.s (.s (.s (.s (.s (.s (.s (.s (.s .z)))))))))) (Pv.x (p_C (e := D.str))) trivial (fun _ => (.s (.s (.s (.s (.s (.s (.s (.s (.s (.s .z))))))))))) (fun v_found => ?_)
    refine t_wipe (is := [3, 5, 7, 8, 9, 10]) (.cons (.cons (.cons (.cons (.cons (.cons .nil (.s (.s (.s (.s (.s (.s (.s (.s (.s (.s .z))))))))))) (.s (.s (.s (.s (.s (.s (.s (.s (.s .z)))))))))) (.s (.s (.s (.s (.s (.s (.s (.s .z))))))))) (.s (.s (.s (.s (.s (.s (.s .z)))))))) (.s (.s (.s (.s (.s .z)))))) (.s (.s (.s .z)))) ?_
    exact t_nil rfl
def f_p_law (v_script : (List Int)) : M Bool := runO none (
 (M.bind (M.bind (f_l_cell_at v_script (0 : Int)) fun t1 => f_l_names t1 (6 : Int)) fun v_names_here =>
 (M.bind (M.bind (M.bind (M.bind (f_l_cell_at v_script (1 : Int)) fun t2 => M.pure (t2 % (6 : Int))) fun t3 => M.pure ((1 : Int) + t3)) fun t4 => f_l_term v_script (2 : Int) t4 v_names_here) fun v_term_here =>
 (M.bind (M.bind (M.pure ([] : List D)) fun t5 => newB ((eL iN) t5)) fun v_lists =>
 (M.bind (f_l_fault 24 v_term_here v_lists) fun v_fault_here =>
 (M.bind (M.pure v_lists) fun t50 => bindO (forGM some (fun x s6 => f_b1_p_law  x ) t50 (() : Unit)) fun s6 =>
 (M.bind (M.bind (f_l_marks 24 v_term_here) fun t16 => M.opt (gSortSet t16)) fun v_due =>
 (M.bind (M.opt (gR1 (2 : Int))) fun t49 => bindO (forO (fun x s17 => f_b2_p_law v_fault_here v_due x ) t49 (() : Unit)) fun s17 =>
 (M.bind (M.bind (M.bind (f_l_cell_at v_script (8 : Int)) fun t27 => M.pure (t27 % (100000000000000000000000000000000000000000000000000 : Int))) fun t28 => M.pure ((1000000000 : Int) + t28)) fun v_great =>
 (M.bind (M.bind (M.bind (M.bind (M.bind (M.opt (gIx v_names_here (0 : Int))) fun t29 => f_p_Many_init 15 v_great t29) fun t30 => methM "shown" mt_shown resF t30 (M.pure [])) fun t31 => M.opt (uS t31)) fun t37 => M.bind (M.bind (M.bind (M.bind (M.bind (M.opt (gSt (fStr [.int v_great]))) fun t32 => M.opt (gCatS ("many(" : Str) t32)) fun t33 => M.opt (gCatS t33 ("," : Str))) fun t34 => M.bind (M.opt (gIx v_names_here (0 : Int))) fun t35 => M.opt (gCatS t34 t35)) fun t36 => M.opt (gCatS t36 (")" : Str))) fun t38 => M.pure (!decide (t37 = t38))) fun t39 => if t39 = true then
 (M.bind (M.pure false) fun t40 => M.pure (.rt t40))
 else (M.bind (M.bind (methM "grows" mt_grows resF v_fault_here (M.pure [])) fun t41 => M.opt (uB t41)) fun v_told =>
 (M.bind (if (!true) = true then M.pure true else (M.bind (f_l_grows 24 v_term_here) fun t42 => M.pure (!decide (v_told = t42)))) fun t43 => if t43 = true then
 (M.bind (M.pure false) fun t44 => M.pure (.rt t44))
 else (M.bind (M.bind (M.bind (methM "shown" mt_shown resF v_fault_here (M.pure [])) fun t45 => M.opt (uS t45)) fun t46 => M.bind (f_l_text 24 v_term_here) fun t47 => M.pure (decide (t46 = t47))) fun t48 => M.pure (.rt t48))))))))))))))
theorem ty_p_law (v_script : (List Int)) : FnT D.bl m_p_law [D.scr v_script] (f_p_law v_script) := by
  unfold f_p_law
  refine t_fn (Ef := fun _ => [.un, .un, .un, .un, .un, .un, .un, .un, .un, .un, .un]) (Lf := fun _ => []) rfl (.t (.n (.s (.s (.s (.s (.s (.s (.s (.s (.s (.s .z)))))))))))) (fun _ h => nomatch h) ?_
  unfold c_p_law
  refine t_set (en := (eL D.str)) (x_callX (xa_1 (ea := D.int) (x_callP (p_aCons (ea := D.scr) (p_Bb (e := D.scr) .z) (p_aCons (ea := D.int) (p_C (e := D.int)) p_aNil)) (ty_l_cell_at _ _)) (p_aCons (ea := D.int) (p_C (e := D.int)) p_aNil)) (fun _ => ty_l_names _ _)) trivial (fun _ => (.s .z)) (fun v_names_here => ?_)
  refine t_set (en := iN) (x_callX (xa_P (ea := D.scr) (p_Bb (e := D.scr) .z) (xa_P (ea := D.int) (p_C (e := D.int)) (xa_1 (ea := D.int) (px_bin (p_C (e := D.int)) (xp_bin (x_callP (p_aCons (ea := D.scr) (p_Bb (e := D.scr) .z) (p_aCons (ea := D.int) (p_C (e := D.int)) p_aNil)) (ty_l_cell_at _ _)) (p_C (e := D.int)) (fun _ => ot_mod)) (fun _ => ot_addI)) (p_aCons (ea := (eL D.str)) (p_Bf (e := (eL D.str)) (.s .z)) p_aNil)))) (fun _ => ty_l_term _ _ _ _)) trivial (fun _ => (.s (.s .z))) (fun v_term_here => ?_)
  refine t_set (en := iN) (x_box (e := (eL iN)) (Pv.x (p_Lst (ez := (eL iN)) p_aNil (Nat.le_of_ble_eq_true rfl) rfl))) trivial (fun _ => (.s (.s (.s .z)))) (fun v_lists => ?_)
  refine t_set (en := iN) (x_callP (p_aCons (ea := iN) (p_Bf (e := iN) (.s (.s .z))) (p_aCons (ea := iN) (p_Bf (e := iN) (.s (.s (.s .z)))) p_aNil)) (ty_l_fault 24 _ _)) trivial (fun _ => (.s (.s (.s (.s .z))))) (fun v_fault_here => ?_)
  refine t_wipe (is := []) .nil ?_
  refine t_forG (L' := (L1_p_law v_script v_names_here v_term_here v_lists v_fault_here)) (ei := iN) unAny (Pv.x (p_Bf (e := iN) (.s (.s (.s .z))))) trivial rfl (fun _ _ => (tgN (.s (.s (.s (.s (.s .z))))))) (fun x s => t_b1_p_law v_script v_names_here v_term_here v_lists v_fault_here x ) (fun s6 => ?_)
  show Sm _ _ _ _ _ [.bo (D.scr v_script), .fr ((eL D.str) v_names_here), .fr (iN v_term_here), .fr (iN v_lists), .fr (iN v_fault_here), .un, .un, .un, .un, .un, .un] _
  refine t_set (en := (eL D.str)) (x_sortSet (x_callP (p_aCons (ea := iN) (p_Bf (e := iN) (.s (.s .z))) p_aNil) (ty_l_marks 24 _))) trivial (fun _ => (.s (.s (.s (.s (.s (.s .z))))))) (fun v_due => ?_)
  refine t_wipe (is := [3]) (.cons .nil (.s (.s (.s .z)))) ?_
  refine t_for (L' := (L2_p_law v_script v_names_here v_term_here v_fault_here v_due)) (ei := D.int) (p_iFn (ez := D.int) (p_aCons (ea := D.int) (p_C (e := D.int)) p_aNil) (fun _ => oo_R1)) trivial rfl (fun _ _ => (tgN (.s (.s (.s (.s (.s (.s (.s .z))))))))) (fun x s => t_b2_p_law v_script v_names_here v_term_here v_fault_here v_due x ) (fun s17 => ?_)
  show Sm _ _ _ _ _ [.bo (D.scr v_script), .fr ((eL D.str) v_names_here), .fr (iN v_term_here), .un, .fr (iN v_fault_here), .un, .fr ((eL D.str) v_due), .un, .un, .un, .un] _
  refine t_set (en := D.int) (px_bin (pp_bin (p_C (e := D.int)) (p_C (e := D.int)) (by rfl)) (xp_bin (x_callP (p_aCons (ea := D.scr) (p_Bb (e := D.scr) .z) (p_aCons (ea := D.int) (p_C (e := D.int)) p_aNil)) (ty_l_cell_at _ _)) (pp_bin (p_C (e := D.int)) (p_C (e := D.int)) (by rfl)) (fun _ => ot_mod)) (fun _ => ot_addI)) trivial (fun _ => (.s (.s (.s (.s (.s (.s (.s (.s .z))))))))) (fun v_great => ?_)
  refine t_if (x_TrBm (xx_bin (x_castX unS (x_methP (ea := iN) (x_makeX (xa_P (ea := D.int) (p_V (e := D.int) (.s (.s (.s (.s (.s (.s (.s (.s .z))))))))) (xa_1 (ea := D.str) (pp_binO (p_Bf (e := (eL D.str)) (.s .z)) (p_C (e := D.int)) (fun _ => oo_ixL)) p_aNil)) (fun _ => ty_p_Many_init _ _ _)) p_aNil)) (xp_binO (xx_binO (xp_binO (px_binO (p_C (e := D.str)) (p_FnO (ez := D.str) (p_aCons (ea := D.int) (p_Bf (e := D.int) (.s (.s (.s (.s (.s (.s (.s (.s .z))))))))) p_aNil) (fun _ => oo_strI)) (fun _ _ => oo_catS)) (p_C (e := D.str)) (fun _ _ => oo_catS)) (pp_binO (p_Bf (e := (eL D.str)) (.s .z)) (p_C (e := D.int)) (fun _ => oo_ixL)) (fun _ _ _ => oo_catS)) (p_C (e := D.str)) (fun _ _ => oo_catS)) (fun _ _ => (ot_ne eqS)))) trivial ?_ ?_
  · refine t_assoc ?_
    exact t_ret (eb := D.bl) (Pv.x (p_C (e := D.bl))) trivial (fun _ => rf_fr _)
  · refine t_nxl ?_
    refine t_set (en := D.bl) (x_castX unB (p_methP (ea := iN) (p_Bf (e := iN) (.s (.s (.s (.s .z))))) p_aNil)) trivial (fun _ => (.s (.s (.s (.s (.s (.s (.s (.s (.s .z)))))))))) (fun v_told => ?_)
    refine t_if (px_tOr (p_tNot (p_TrB (p_isT (p_Bf (e := D.bl) (.s (.s (.s (.s (.s (.s (.s (.s (.s .z)))))))))) (by rfl)))) (x_TrBm (px_bin (p_Bf (e := D.bl) (.s (.s (.s (.s (.s (.s (.s (.s (.s .z)))))))))) (x_callP (p_aCons (ea := iN) (p_Bf (e := iN) (.s (.s .z))) p_aNil) (ty_l_grows 24 _)) (fun _ => (ot_ne eqB))))) trivial ?_ ?_
    · refine t_assoc ?_
      exact t_ret (eb := D.bl) (Pv.x (p_C (e := D.bl))) trivial (fun _ => rf_fr _)
    · refine t_nxl ?_
      exact t_ret (eb := D.bl) (xx_bin (x_castX unS (p_methP (ea := iN) (p_Bf (e := iN) (.s (.s (.s (.s .z))))) p_aNil)) (x_callP (p_aCons (ea := iN) (p_Bf (e := iN) (.s (.s .z))) p_aNil) (ty_l_text 24 _)) (fun _ _ => (ot_eq eqS))) trivial (fun _ => rf_fr _)
end
end PM
set_option maxHeartbeats 1000000
namespace PM
open PySem PySem.Spec PyProof.Rows L2
def lett : List Nat := Sl (Str.ofString "abcdefghijklmnopqrstuvwxyz")
def isMkS (x : Str) : Bool := decide (x ≠ Str.ofString "") && decide (x.length ≤ 8) && (Sl x).all (fun c => decide (c ∈ lett))
theorem isMk_len {x : Str} (h : isMkS x = true) : x.length ≤ 8 := by
  unfold isMkS at h
  simp only [Bool.and_eq_true, decide_eq_true_eq] at h
  exact h.1.2
end PM
set_option maxHeartbeats 1000000
namespace PM
open PySem PySem.Spec PyProof.Rows L2
theorem meth_F {ζ : Type} {mn : Str} {mt : MTab} {c : Nat} {fs : List (Str × D)} {fn : Fn} {ds : List D} {e : ζ → D} {g : M ζ} {v : ζ} (hl : fs.lookup mn = none) (hm : mt c = some fn) (hf : FnT e fn (.obj c fs :: ds) g) (hg : g = M.pure v) : methM mn mt resF (.obj c fs) (M.pure ds) = M.pure (e v) := by
  funext S
  have h := hf S
  rw [hg] at h
  simp only [methM, hl, hm, M.pure_bind]
  exact h
theorem meth_N {ζ : Type} {mn : Str} {mt : MTab} {c : Nat} {fs : List (Str × D)} {fn : Fn} {ds : List D} {e : ζ → D} {g : M ζ} {v : ζ} (hl : fs.lookup mn = none) (hm : mt c = some fn) (hf : FnN e fn (.obj c fs :: ds) g) (hg : g = M.pure v) : methM mn mt resN (.obj c fs) (M.pure ds) = M.pure (e v) := by
  funext S
  have h := hf S
  rw [hg] at h
  simp only [methM, hl, hm, M.pure_bind]
  exact h
def MksOk (ms : List Str) : Prop := ∀ m ∈ ms, isMkS m = true
abbrev dRow (ms : List Str) : D := .obj 10 [("row", eL .str ms)]
def rowLeft (ms : List Str) (ps : List Nat) : List Str := ps.map fun p => ms.getD p E0
end PM
set_option maxHeartbeats 1000000
namespace PM
open PySem PySem.Spec PyProof.Rows L2
abbrev dNode (n : Str × Nat) : D := .tup [.str n.1, .int (n.2 : Int)]
abbrev dForest (ns : List (Str × Nat)) : D := .obj 11 [("nodes", .lst (ns.map dNode))]
def NdOk : Nat → List (Str × Nat) → Prop
  | _, [] => True
  | b, n :: r => isMkS n.1 = true ∧ n.2 ≤ b ∧ NdOk (min (n.2 + 1) 12) r
theorem NdOk.le : ∀ {ns : List (Str × Nat)} {b : Nat}, b ≤ 12 → NdOk b ns → ∀ n ∈ ns, isMkS n.1 = true ∧ n.2 ≤ 12
  | [], _, _, _, n, hn => by cases hn
  | x :: r, b, hb, h, n, hn => by
    obtain ⟨h1, h2, h3⟩ := h
    cases hn with
    | head => exact ⟨h1, by omega⟩
    | tail _ hn => exact NdOk.le (by omega) h3 n hn
def goF : List Nat → List ((Str × Nat) × Bool) → List (Str × Nat)
  | _, [] => []
  | A, (n, k) :: r => (if k = true then [(n.1, A.getD n.2 0)] else []) ++ goF (A.set (n.2 + 1) (A.getD n.2 0 + if k = true then 1 else 0)) r
def flg (ps : List Nat) (ns : List (Str × Nat)) : List ((Str × Nat) × Bool) := ns.zipIdx.map fun x => (x.1, decide (x.2 ∈ ps))
def leftF (ns : List (Str × Nat)) (ps : List Nat) : List (Str × Nat) := goF (List.replicate 14 0) (flg ps ns)
end PM
set_option maxHeartbeats 1000000
namespace PM
open PySem PySem.Spec PyProof.Rows L2
abbrev dLine (l : List Str) : D := .lst (l.map .str)
abbrev dTable (ls : List (List Str)) (w : Nat) : D := .obj 12 [("lines", .lst (ls.map dLine)), ("wide", .int (w : Int))]
structure TbOk (ls : List (List Str)) (w : Nat) : Prop where
  len : ls.length ≤ 12
  wd : w ≤ 12
  li : ∀ l ∈ ls, l.length = w ∧ MksOk l
def tbCols (n : Nat) (ps : List Nat) : List Nat := (ps.filter fun p => decide (n ≤ p)).map (· - n)
def tbLn (ls : List (List Str)) (cs : List Nat) (ps : List Nat) : List (List Str) := (ps.filter fun p => decide (p < ls.length)).map fun p => cs.map fun c => (ls.getD p []).getD c E0
abbrev tbLeft (ls : List (List Str)) (ps : List Nat) : List (List Str) := tbLn ls (tbCols ls.length ps) ps
theorem getD_mem {α : Type} {l : List α} {i : Nat} {d : α} (h : i < l.length) : l.getD i d ∈ l := by
  rw [List.getD_eq_getElem?_getD, List.getElem?_eq_getElem h]; exact List.getElem_mem h
end PM
set_option maxHeartbeats 1000000
namespace PM
open PySem PySem.Spec PyProof.Rows L2
inductive Th where
  | row (ms : List Str) | forest (ns : List (Str × Nat)) | table (ls : List (List Str)) (w : Nat)
def Th.d : Th → D
  | .row ms => dRow ms
  | .forest ns => dForest ns
  | .table ls w => dTable ls w
def Th.Ok : Th → Prop
  | .row ms => MksOk ms ∧ ms.length ≤ 40
  | .forest ns => NdOk 0 ns ∧ ns.length ≤ 40
  | .table ls w => TbOk ls w
def Th.n : Th → Nat
  | .row ms => ms.length
  | .forest ns => ns.length
  | .table ls w => ls.length + w
def Th.left (t : Th) (ps : List Nat) : Th := match t with
  | .row ms => .row (rowLeft ms ps)
  | .forest ns => .forest (leftF ns ps)
  | .table ls w => .table (tbLeft ls ps) (tbCols ls.length ps).length
def Sub : List Bool → List Bool → Prop
  | p :: P, r :: R => (r = true → p = true) ∧ Sub P R
  | [], [] => True
  | _, _ => False
theorem Sub.len : ∀ {P R : List Bool}, Sub P R → P.length = R.length
  | [], [], _ => rfl
  | _ :: _, _ :: _, h => congrArg (· + 1) (Sub.len h.2)
theorem Sub.take : ∀ {P R : List Bool} (d : Nat), Sub P R → Sub (P.take d) (R.take d)
  | _, _, 0, _ => trivial
  | [], [], _ + 1, _ => trivial
  | _ :: _, _ :: _, d + 1, h => ⟨h.1, Sub.take d h.2⟩
theorem Sub.snoc {k k' : Bool} (hk : k' = true → k = true) : ∀ {P R : List Bool}, Sub P R → Sub (P ++ [k]) (R ++ [k'])
  | [], [], _ => ⟨hk, trivial⟩
  | _ :: _, _ :: _, h => ⟨h.1, Sub.snoc hk h.2⟩
end PM
set_option maxHeartbeats 1000000
namespace PM
open PySem PySem.Spec PyProof.Rows L2
theorem sIx_in {n : Nat} {d : Nat} {i : Int} (h : 0 ≤ i ∧ i ≤ n) : HT.sIx n d (some i) = i.toNat := by
  unfold HT.sIx; simp only []; rw [if_neg (by omega)]; omega
theorem isMkS_of {x : Str} (h1 : 0 < x.length) (h2 : x.length ≤ 8) (h3 : ∀ c ∈ Sl x, c ∈ lett) : isMkS x = true := by
  have h0 : x ≠ Str.ofString "" := by rintro rfl; simp [lit_len] at h1
  simp only [isMkS, h0, h2, decide_true, Bool.and_true, Bool.true_and, List.all_eq_true, decide_eq_true_eq, not_false_eq_true, ne_eq]
  exact h3
theorem emod_in (a : Int) {n : Nat} (h : 0 < n) : 0 ≤ a % (n : Int) ∧ a % (n : Int) < n := ⟨Int.emod_nonneg _ (by omega), Int.emod_lt_of_pos _ (by omega)⟩
theorem NdOk.snoc : ∀ {ns : List (Str × Nat)} {b : Nat} {m : Str} {d : Nat}, NdOk b ns → isMkS m = true → d ≤ (match ns.getLast? with | some n => min (n.2 + 1) 12 | none => b) → NdOk b (ns ++ [(m, d)])
  | [], b, m, d, _, h2, h3 => ⟨h2, h3, trivial⟩
  | n :: ns, b, m, d, h1, h2, h3 => by
    refine ⟨h1.1, h1.2.1, NdOk.snoc h1.2.2 h2 ?_⟩
    cases ns with
    | nil => simpa using h3
    | cons x xs =>
      simp only [List.getLast?_cons_cons] at h3
      simp only [List.getLast?_cons] at h3 ⊢
      exact h3
end PM
set_option maxHeartbeats 1000000
namespace PM
open PySem PySem.Spec PyProof.Rows L2
def n0 : Str × Nat := (E0, 0)
def Th.spots : Th → List Str
  | .row ms => ms
  | .forest ns => ns.map (·.1)
  | .table ls _ => ls.flatten
def Th.count (t : Th) (m : Str) : Nat := (t.spots.filter fun x => decide (x = m)).length
end PM
set_option maxHeartbeats 1000000
namespace PM
open PySem PySem.Spec PyProof.Rows L2
theorem eqSS (a b : Str) : D.eq? (.str a) (.str b) = some (decide (a = b)) := eq?_dec eqS (by decide) a b
end PM
set_option maxHeartbeats 1000000
namespace PM
open PySem PySem.Spec PyProof.Rows L2
section
variable {α τ τ' : Type}
end
def Th.N : Th → Nat
  | .row ms => ms.length
  | .forest ns => ns.length
  | .table ls w => ls.length * w
def Th.F : Th → Nat → Str × Int × Int
  | .row ms, i => (ms.getD i E0, 0, (i : Int))
  | .forest ns, i => ((ns.getD i n0).1, ((ns.getD i n0).2 : Int), (i : Int))
  | .table ls w, i => ((ls.getD (i / w) []).getD (i % w) E0, ((i / w : Nat) : Int), ((i % w : Nat) : Int))
def Th.mk (t : Th) (i : Nat) : Str := (t.F i).1
def Th.sp (t : Th) : List (Str × Int × Int) := (List.range t.N).map t.F
def Th.un : Th → Nat → Nat → Prop
  | .row _, _, _ => False
  | .forest ns, i, j => ∀ k, i < k → k ≤ j → (ns.getD i n0).2 < (ns.getD k n0).2
  | .table _ w, i, j => i % w = j % w
def Th.be : Th → Nat → Nat → Prop
  | .row _, i, j => j = i + 1
  | .forest ns, i, j => (ns.getD i n0).2 = (ns.getD j n0).2 ∧ ∀ k, i < k → k < j → (ns.getD i n0).2 < (ns.getD k n0).2
  | .table _ w, i, j => i / w = j / w ∧ j % w = i % w + 1
def Th.Pr (t : Th) (k : Nat) (a o : Str) (R : Nat → Nat → Prop) : Prop := ∃ i j, i < j ∧ j < k ∧ t.mk i = a ∧ t.mk j = o ∧ R i j
abbrev rT : Nat → Nat → Prop := fun _ _ => True
end PM
set_option maxHeartbeats 1000000
namespace PM
open PySem PySem.Spec PyProof.Rows L2
end PM
set_option maxHeartbeats 1000000
namespace PM
open PySem PySem.Spec PyProof.Rows L2
theorem wd_has_has : D.eq? (.str ("has" : Str)) (.str ("has" : Str)) = some true := by rw [eqSS]; exact congrArg some (by decide +kernel)
theorem wd_has_many : D.eq? (.str ("has" : Str)) (.str ("many" : Str)) = some false := by rw [eqSS]; exact congrArg some (by decide +kernel)
theorem wd_many_has : D.eq? (.str ("many" : Str)) (.str ("has" : Str)) = some false := by rw [eqSS]; exact congrArg some (by decide +kernel)
theorem wd_many_many : D.eq? (.str ("many" : Str)) (.str ("many" : Str)) = some true := by rw [eqSS]; exact congrArg some (by decide +kernel)
theorem wd_not_has : D.eq? (.str ("not" : Str)) (.str ("has" : Str)) = some false := by rw [eqSS]; exact congrArg some (by decide +kernel)
theorem wd_not_many : D.eq? (.str ("not" : Str)) (.str ("many" : Str)) = some false := by rw [eqSS]; exact congrArg some (by decide +kernel)
theorem wd_not_not : D.eq? (.str ("not" : Str)) (.str ("not" : Str)) = some true := by rw [eqSS]; exact congrArg some (by decide +kernel)
theorem wd_not_before : D.eq? (.str ("not" : Str)) (.str ("before" : Str)) = some false := by rw [eqSS]; exact congrArg some (by decide +kernel)
theorem wd_not_under : D.eq? (.str ("not" : Str)) (.str ("under" : Str)) = some false := by rw [eqSS]; exact congrArg some (by decide +kernel)
theorem wd_not_beside : D.eq? (.str ("not" : Str)) (.str ("beside" : Str)) = some false := by rw [eqSS]; exact congrArg some (by decide +kernel)
theorem wd_all_has : D.eq? (.str ("all" : Str)) (.str ("has" : Str)) = some false := by rw [eqSS]; exact congrArg some (by decide +kernel)
theorem wd_all_many : D.eq? (.str ("all" : Str)) (.str ("many" : Str)) = some false := by rw [eqSS]; exact congrArg some (by decide +kernel)
theorem wd_all_not : D.eq? (.str ("all" : Str)) (.str ("not" : Str)) = some false := by rw [eqSS]; exact congrArg some (by decide +kernel)
theorem wd_all_all : D.eq? (.str ("all" : Str)) (.str ("all" : Str)) = some true := by rw [eqSS]; exact congrArg some (by decide +kernel)
theorem wd_all_before : D.eq? (.str ("all" : Str)) (.str ("before" : Str)) = some false := by rw [eqSS]; exact congrArg some (by decide +kernel)
theorem wd_all_under : D.eq? (.str ("all" : Str)) (.str ("under" : Str)) = some false := by rw [eqSS]; exact congrArg some (by decide +kernel)
theorem wd_all_beside : D.eq? (.str ("all" : Str)) (.str ("beside" : Str)) = some false := by rw [eqSS]; exact congrArg some (by decide +kernel)
theorem wd_any_has : D.eq? (.str ("any" : Str)) (.str ("has" : Str)) = some false := by rw [eqSS]; exact congrArg some (by decide +kernel)
theorem wd_any_many : D.eq? (.str ("any" : Str)) (.str ("many" : Str)) = some false := by rw [eqSS]; exact congrArg some (by decide +kernel)
theorem wd_any_not : D.eq? (.str ("any" : Str)) (.str ("not" : Str)) = some false := by rw [eqSS]; exact congrArg some (by decide +kernel)
theorem wd_any_all : D.eq? (.str ("any" : Str)) (.str ("all" : Str)) = some false := by rw [eqSS]; exact congrArg some (by decide +kernel)
theorem wd_any_before : D.eq? (.str ("any" : Str)) (.str ("before" : Str)) = some false := by rw [eqSS]; exact congrArg some (by decide +kernel)
theorem wd_any_under : D.eq? (.str ("any" : Str)) (.str ("under" : Str)) = some false := by rw [eqSS]; exact congrArg some (by decide +kernel)
theorem wd_any_beside : D.eq? (.str ("any" : Str)) (.str ("beside" : Str)) = some false := by rw [eqSS]; exact congrArg some (by decide +kernel)
theorem wd_before_has : D.eq? (.str ("before" : Str)) (.str ("has" : Str)) = some false := by rw [eqSS]; exact congrArg some (by decide +kernel)
theorem wd_before_many : D.eq? (.str ("before" : Str)) (.str ("many" : Str)) = some false := by rw [eqSS]; exact congrArg some (by decide +kernel)
theorem wd_before_before : D.eq? (.str ("before" : Str)) (.str ("before" : Str)) = some true := by rw [eqSS]; exact congrArg some (by decide +kernel)
theorem wd_under_has : D.eq? (.str ("under" : Str)) (.str ("has" : Str)) = some false := by rw [eqSS]; exact congrArg some (by decide +kernel)
theorem wd_under_many : D.eq? (.str ("under" : Str)) (.str ("many" : Str)) = some false := by rw [eqSS]; exact congrArg some (by decide +kernel)
theorem wd_under_before : D.eq? (.str ("under" : Str)) (.str ("before" : Str)) = some false := by rw [eqSS]; exact congrArg some (by decide +kernel)
theorem wd_under_under : D.eq? (.str ("under" : Str)) (.str ("under" : Str)) = some true := by rw [eqSS]; exact congrArg some (by decide +kernel)
theorem wd_beside_has : D.eq? (.str ("beside" : Str)) (.str ("has" : Str)) = some false := by rw [eqSS]; exact congrArg some (by decide +kernel)
theorem wd_beside_many : D.eq? (.str ("beside" : Str)) (.str ("many" : Str)) = some false := by rw [eqSS]; exact congrArg some (by decide +kernel)
theorem wd_beside_before : D.eq? (.str ("beside" : Str)) (.str ("before" : Str)) = some false := by rw [eqSS]; exact congrArg some (by decide +kernel)
theorem wd_beside_under : D.eq? (.str ("beside" : Str)) (.str ("under" : Str)) = some false := by rw [eqSS]; exact congrArg some (by decide +kernel)
theorem wd_beside_beside : D.eq? (.str ("beside" : Str)) (.str ("beside" : Str)) = some true := by rw [eqSS]; exact congrArg some (by decide +kernel)
inductive Ft where
  | has (m : Str) | many (n : Int) (m : Str) | bef (a o : Str) | und (a o : Str) | bes (a o : Str)
  | all (ps : List Ft) | any (ps : List Ft) | no (p : Ft)
mutual
def Ft.d : Ft → D
  | .has m => .tup [.str "has", .str m]
  | .many n m => .tup [.str "many", .int n, .str m]
  | .bef a o => .tup [.str "before", .str a, .str o]
  | .und a o => .tup [.str "under", .str a, .str o]
  | .bes a o => .tup [.str "beside", .str a, .str o]
  | .all ps => .tup [.str "all", .lst (Ft.ds ps)]
  | .any ps => .tup [.str "any", .lst (Ft.ds ps)]
  | .no p => .tup [.str "not", p.d]
def Ft.ds : List Ft → List D
  | [] => []
  | p :: ps => p.d :: Ft.ds ps
end
mutual
def Ft.o : Ft → D
  | .has m => .obj 14 [("mark", .str m)]
  | .many n m => .obj 15 [("number", .int n), ("mark", .str m)]
  | .bef a o => .obj 17 [("one", .str a), ("other", .str o)]
  | .und a o => .obj 18 [("one", .str a), ("other", .str o)]
  | .bes a o => .obj 19 [("one", .str a), ("other", .str o)]
  | .all ps => .obj 21 [("parts", .lst (Ft.os ps))]
  | .any ps => .obj 22 [("parts", .lst (Ft.os ps))]
  | .no p => .obj 23 [("parts", .lst [p.o])]
def Ft.os : List Ft → List D
  | [] => []
  | p :: ps => p.o :: Ft.os ps
end
theorem Ft.os_map : ∀ ps : List Ft, Ft.os ps = ps.map Ft.o
  | [] => by unfold Ft.os; rfl
  | p :: ps => by unfold Ft.os; rw [Ft.os_map ps]; rfl
mutual
def Ft.hold (t : Th) : Ft → Prop
  | .has m => 0 < t.count m
  | .many n m => n ≤ (t.count m : Int)
  | .bef a o => t.Pr t.N a o rT
  | .und a o => t.Pr t.N a o t.un
  | .bes a o => t.Pr t.N a o t.be
  | .all ps => Ft.holdA t ps
  | .any ps => Ft.holdE t ps
  | .no p => ¬ Ft.hold t p
def Ft.holdA (t : Th) : List Ft → Prop
  | [] => True
  | p :: ps => Ft.hold t p ∧ Ft.holdA t ps
def Ft.holdE (t : Th) : List Ft → Prop
  | [] => False
  | p :: ps => Ft.hold t p ∨ Ft.holdE t ps
end
def Ft.ok : Nat → Ft → Prop
  | 0, _ => False
  | r + 1, f => match f with
    | .all ps => ps.length ≤ 1000 ∧ ∀ p ∈ ps, Ft.ok r p
    | .any ps => ps.length ≤ 1000 ∧ ∀ p ∈ ps, Ft.ok r p
    | .no p => Ft.ok r p
    | _ => True
open Classical in
noncomputable def Ft.H (f : Ft) (t : Th) : Bool := decide (f.hold t)
theorem ix0 (a : D) (r : List D) : oIx (.tup (a :: r)) (.int 0) = some a := by simp [oIx, atI, ixN]
theorem ix1 (a b : D) (r : List D) : oIx (.tup (a :: b :: r)) (.int 1) = some b := by simp [oIx, atI, ixN]; rw [if_pos (by omega)]; rfl
theorem ix2 (a b c : D) (r : List D) : oIx (.tup (a :: b :: c :: r)) (.int 2) = some c := by simp [oIx, atI, ixN]; rw [if_pos (by omega)]; rfl
theorem gl_14m (x : D) : gFld fl "mark" (.obj 14 []) x = some (.obj 14 [("mark", x)]) := by simp only [gFld, fl_14_mark, List.length_nil, true_and, show 0 < 1000 by omega, if_true, pD]
theorem gl_15n (x : D) : gFld fl "number" (.obj 15 []) x = some (.obj 15 [("number", x)]) := by simp only [gFld, fl_15_number, List.length_nil, true_and, show 0 < 1000 by omega, if_true, pD]
theorem gl_15m (x y : D) : gFld fl "mark" (.obj 15 [("number", x)]) y = some (.obj 15 [("number", x), ("mark", y)]) := by
  have : ¬ (("number" : Str) = "mark") := by decide +kernel
  simp only [gFld, fl_15_mark, List.length_cons, List.length_nil, true_and, show 0 + 1 < 1000 by omega, if_true, pD, this, if_false]
theorem one_other : ¬ (("one" : Str) = "other") := by decide +kernel

theorem gl_171 (x : D) : gFld fl "one" (.obj 17 []) x = some (.obj 17 [("one", x)]) := by simp only [gFld, fl_17_one, List.length_nil, true_and, show 0 < 1000 by omega, if_true, pD]
theorem gl_172 (x y : D) : gFld fl "other" (.obj 17 [("one", x)]) y = some (.obj 17 [("one", x), ("other", y)]) := by simp only [gFld, fl_17_other, List.length_cons, List.length_nil, true_and, show 0 + 1 < 1000 by omega, if_true, pD, one_other, if_false]
theorem fo_171 (x y : D) : fldM fl "one" (.obj 17 [("one", x), ("other", y)]) = M.pure x := by
  funext S
  simp only [fldM, fl_17_one, if_true, lk0]
  rfl
theorem fo_172 (x y : D) : fldM fl "other" (.obj 17 [("one", x), ("other", y)]) = M.pure y := by
  funext S
  simp only [fldM, fl_17_other, if_true, lk1 (show (("other" : Str) == "one") = false by decide +kernel) lk0]
  rfl
theorem gl_181 (x : D) : gFld fl "one" (.obj 18 []) x = some (.obj 18 [("one", x)]) := by simp only [gFld, fl_18_one, List.length_nil, true_and, show 0 < 1000 by omega, if_true, pD]
theorem gl_182 (x y : D) : gFld fl "other" (.obj 18 [("one", x)]) y = some (.obj 18 [("one", x), ("other", y)]) := by simp only [gFld, fl_18_other, List.length_cons, List.length_nil, true_and, show 0 + 1 < 1000 by omega, if_true, pD, one_other, if_false]
theorem fo_181 (x y : D) : fldM fl "one" (.obj 18 [("one", x), ("other", y)]) = M.pure x := by
  funext S
  simp only [fldM, fl_18_one, if_true, lk0]
  rfl
theorem fo_182 (x y : D) : fldM fl "other" (.obj 18 [("one", x), ("other", y)]) = M.pure y := by
  funext S
  simp only [fldM, fl_18_other, if_true, lk1 (show (("other" : Str) == "one") = false by decide +kernel) lk0]
  rfl
theorem gl_191 (x : D) : gFld fl "one" (.obj 19 []) x = some (.obj 19 [("one", x)]) := by simp only [gFld, fl_19_one, List.length_nil, true_and, show 0 < 1000 by omega, if_true, pD]
theorem gl_192 (x y : D) : gFld fl "other" (.obj 19 [("one", x)]) y = some (.obj 19 [("one", x), ("other", y)]) := by simp only [gFld, fl_19_other, List.length_cons, List.length_nil, true_and, show 0 + 1 < 1000 by omega, if_true, pD, one_other, if_false]
theorem fo_191 (x y : D) : fldM fl "one" (.obj 19 [("one", x), ("other", y)]) = M.pure x := by
  funext S
  simp only [fldM, fl_19_one, if_true, lk0]
  rfl
theorem fo_192 (x y : D) : fldM fl "other" (.obj 19 [("one", x), ("other", y)]) = M.pure y := by
  funext S
  simp only [fldM, fl_19_other, if_true, lk1 (show (("other" : Str) == "one") = false by decide +kernel) lk0]
  rfl
theorem gl_21p (x : D) : gFld fl "parts" (.obj 21 []) x = some (.obj 21 [("parts", x)]) := by simp only [gFld, fl_21_parts, List.length_nil, true_and, show 0 < 1000 by omega, if_true, pD]
theorem fo_21p (x : D) : fldM fl "parts" (.obj 21 [("parts", x)]) = M.pure x := by
  funext S
  simp only [fldM, fl_21_parts, if_true, lk0]
  rfl
theorem gl_22p (x : D) : gFld fl "parts" (.obj 22 []) x = some (.obj 22 [("parts", x)]) := by simp only [gFld, fl_22_parts, List.length_nil, true_and, show 0 < 1000 by omega, if_true, pD]
theorem fo_22p (x : D) : fldM fl "parts" (.obj 22 [("parts", x)]) = M.pure x := by
  funext S
  simp only [fldM, fl_22_parts, if_true, lk0]
  rfl
theorem gl_23p (x : D) : gFld fl "parts" (.obj 23 []) x = some (.obj 23 [("parts", x)]) := by simp only [gFld, fl_23_parts, List.length_nil, true_and, show 0 < 1000 by omega, if_true, pD]
theorem fo_23p (x : D) : fldM fl "parts" (.obj 23 [("parts", x)]) = M.pure x := by
  funext S
  simp only [fldM, fl_23_parts, if_true, lk0]
  rfl
theorem fo_14m (x : D) : fldM fl "mark" (.obj 14 [("mark", x)]) = M.pure x := by
  funext S
  simp only [fldM, fl_14_mark, if_true, lk0]
  rfl
theorem fo_15n (x y : D) : fldM fl "number" (.obj 15 [("number", x), ("mark", y)]) = M.pure x := by
  funext S
  simp only [fldM, fl_15_number, if_true, lk0]
  rfl
theorem fo_15m (x y : D) : fldM fl "mark" (.obj 15 [("number", x), ("mark", y)]) = M.pure y := by
  funext S
  simp only [fldM, fl_15_mark, if_true, lk1 (show (("mark" : Str) == "number") = false by decide +kernel) lk0]
  rfl

end PM
set_option maxHeartbeats 1000000
namespace PM
open PySem PySem.Spec PyProof.Rows L2
theorem lcO_map {α β γ : Type} (f : γ → α) (t : α → M Bool) (e : α → M β) : ∀ (xs : List γ) (acc : List β), lcO t e (xs.map f) acc = lcO (fun x => t (f x)) (fun x => e (f x)) xs acc
  | [], acc => rfl
  | x :: xs, acc => by
    rw [List.map_cons]
    unfold lcO
    simp only [lcO_map f t e xs]
theorem lc_mapf {α β γ : Type} (f : γ → α) {e : α → M β} (g : γ → β) {xs : List γ} (h : ∀ x ∈ xs, e (f x) = M.pure (g x)) (hl : xs.length ≤ 1000000) : lcO (fun _ => M.pure true) e (xs.map f) [] = M.pure (xs.map g) := by
  rw [lcO_map]
  exact lc_map' g h hl
theorem gIx_one {α : Type} (x : α) : gIx [x] (0 : Int) = some x := by simp [gIx, atI, ixN]
theorem eLiN (xs : List D) : eL iN xs = .lst xs := by simp [eL, iN]
theorem all_id {α : Type} (f : α → Bool) (xs : List α) : (xs.map f).all id = xs.all f := by simp [List.all_map, Function.comp_def]
end PM
set_option maxHeartbeats 1000000
namespace PM
open PySem PySem.Spec PyProof.Rows L2
def cell (ns : List Int) (k : Int) : Int := if k < ns.length then ns.getD k.toNat 0 else 13 * k + 3
theorem cell_at_ok {ns : List Int} {k : Int} (hk : 0 ≤ k) : f_l_cell_at ns k = M.pure (cell ns k) := by
  unfold f_l_cell_at cell
  by_cases h : k < ns.length
  · simp only [NFL, h, decide_true, if_true, gIx_getD 0 (show 0 ≤ k ∧ k < ns.length from ⟨hk, h⟩)]
  · simp only [NFL, h, decide_false, Bool.false_eq_true, if_false]
theorem lett_at {i : Int} (h : 0 ≤ i ∧ i < 26) : ∃ z, gIxS ("abcdefghijklmnopqrstuvwxyz" : Str) i = some z ∧ z ∈ lett := by
  have hlt : ("abcdefghijklmnopqrstuvwxyz" : Str).length = 26 := by simp [lit_len]
  have h26 : (Sl ("abcdefghijklmnopqrstuvwxyz" : Str)).length = 26 := by rw [Sl_len, hlt]
  refine ⟨_, gIxS_ok (by rw [hlt]; omega), ?_⟩
  exact getD_mem (l := lett) (by have h27 : lett.length = 26 := h26; rw [h27]; omega)
theorem b2I_01 (b : Bool) : b2I b = 0 ∨ b2I b = 1 := by cases b <;> simp [b2I]
theorem names_ok (c : Int) {m : Int} (hm : 0 ≤ m ∧ m ≤ 20) : Ret (f_l_names c m) fun ms => MksOk ms ∧ (ms.length : Int) = m := by
  unfold f_l_names
  have hsz : 1 ≤ 1 + c % 8 ∧ 1 + c % 8 ≤ 8 := by omega
  simp only [M.pure_bind]
  generalize 1 + c % 8 = size at hsz
  have hat : 0 ≤ c / 8 % size ∧ c / 8 % size < size := ⟨Int.emod_nonneg _ (by omega), Int.emod_lt_of_pos _ (by omega)⟩
  simp only [NFL, gMod_ok (i := c / 8) (show 0 < size by omega)]
  generalize c / 8 % size = a at hat
  have hb := b2I_01 (decide (c > 1000000000))
  obtain ⟨q, hq, eq⟩ : ∃ q : Int, (q = 0 ∨ q = m) ∧ (M.bind (M.bind (M.opt (gMul m (c % (2 : Int)))) fun t12 => M.opt (gMul t12 (b2I (decide (c > (1000000000 : Int)))))) fun t13 => M.opt (gR1 t13)) = M.pure (rngI 0 q.toNat) := by
    have h2 : c % 2 = 0 ∨ c % 2 = 1 := by omega
    rcases h2 with h2 | h2 <;> rcases hb with hb | hb <;> rw [h2, hb]
    · exact ⟨0, .inl rfl, by simp only [NFL, gMul_okR (i := m) (j := 0) (by omega), Int.mul_zero, gMul_okR (i := 0) (j := 0) (by omega), gR1_ok (j := 0) (by omega)]⟩
    · exact ⟨0, .inl rfl, by simp only [NFL, gMul_okR (i := m) (j := 0) (by omega), Int.mul_zero, gMul_okR (i := 0) (j := 1) (by omega), Int.zero_mul, gR1_ok (j := 0) (by omega)]⟩
    · exact ⟨0, .inl rfl, by simp only [NFL, gMul_okR (i := m) (j := 1) (by omega), Int.mul_one, gMul_okR (i := m) (j := 0) (by omega), Int.mul_zero, gR1_ok (j := 0) (by omega)]⟩
    · exact ⟨m, .inr rfl, by simp only [NFL, gMul_okR (i := m) (j := 1) (by omega), Int.mul_one, gR1_ok (j := m) (by omega)]⟩
  have eq' : ∀ {γ : Type} (k : List Int → M γ), (M.bind (M.opt (gMul m (c % (2 : Int)))) fun t12 => M.bind (M.opt (gMul t12 (b2I (decide (c > (1000000000 : Int)))))) fun t13 => M.bind (M.opt (gR1 t13)) k) = k (rngI 0 q.toNat) := fun k => by
    have := congrArg (fun x => M.bind x k) eq
    simp only [M.bind_assoc, M.pure_bind] at this
    exact this
  simp only [NFL, eq']
  have hq20 : 0 ≤ q ∧ q ≤ 20 := by omega
  refine Ret.runO (Ret.bindO (P := fun s => s.1.length = q.toNat ∧ MksOk s.1) ?_ ?_)
  · refine Ret.forR (fun k s => s.1.length = k ∧ MksOk s.1) ⟨rfl, by intro m hm; cases hm⟩ ?_ (fun s hs => hs)
    rintro k ⟨fd, r⟩ hk ⟨h1, h2⟩
    simp only at h1 h2
    unfold f_b1_l_names
    obtain ⟨z, e, hz⟩ := lett_at (i := r / 8 % 26) (by omega)
    simp only [NFL, e, gR1_ok (j := r % 8) (by omega)]
    refine Ret.bindO (P := fun s => 1 ≤ s.2.length ∧ s.2.length ≤ 8 ∧ ∀ z ∈ Sl s.2, z ∈ lett) ?_ ?_
    · refine Ret.forR (fun k s => s.2.length = k + 1 ∧ ∀ z ∈ Sl s.2, z ∈ lett) ⟨by simp, fun q hq => by simp only [Sl_one, List.mem_singleton] at hq; rw [hq]; exact hz⟩ ?_ (fun s hs => ⟨by omega, by omega, hs.2⟩)
      rintro k ⟨r2, x⟩ hk ⟨h1, h2⟩
      simp only at h1 h2
      obtain ⟨z2, e2, hz2⟩ := lett_at (i := r2 % 26) (by omega)
      unfold f_b2_l_names
      simp only [NFL, e2, gCatS_ok (x := x) (y := S1 z2) (by simp; omega)]
      refine ⟨_, rfl, _, rfl, by simp; omega, ?_⟩
      intro q hq
      simp only [Sl_add, Sl_one, List.mem_append, List.mem_singleton] at hq
      rcases hq with hq | rfl
      · exact h2 q hq
      · exact hz2
    · rintro ⟨r2, x⟩ ⟨h3, h4, h5⟩
      simp only at h3 h4 h5
      simp only [NFL, gApp_ok (xs := fd) (x := x) (by omega)]
      refine ⟨_, rfl, _, rfl, by simp; omega, ?_⟩
      intro y hy
      rcases List.mem_append.mp hy with hy | hy
      · exact h2 y hy
      · rw [List.mem_singleton.mp hy]; exact isMkS_of (by omega) h4 h5
  · rintro ⟨fd, r⟩ ⟨h1, h2⟩
    simp only at h1 h2
    by_cases hf : fd = []
    · simp only [NFL, hf, decide_true, Bool.not_true, Bool.false_eq_true, if_false, gR1_ok (j := m) (by omega)]
      refine Ret.bindO (P := fun s => (s.length : Int) = m ∧ MksOk s) ?_ ?_
      · refine Ret.forR (fun k s => s.length = k ∧ MksOk s) ⟨rfl, by intro m hm; cases hm⟩ ?_ (fun s hs => ⟨by omega, hs.2⟩)
        rintro k fd hk ⟨h1, h2⟩
        unfold f_b3_l_names
        simp only [NFL, gR1_ok (j := size) (by omega)]
        refine Ret.bindO (P := fun s => 1 ≤ s.length ∧ s.length ≤ 8 ∧ ∀ z ∈ Sl s, z ∈ lett) ?_ ?_
        · refine Ret.forR (fun k s => s.length = k ∧ ∀ z ∈ Sl s, z ∈ lett) ⟨by simp [lit_len], fun z hz => by
            have e : Sl (Str.ofString "") = [] := by decide +kernel
            rw [e] at hz
            cases hz⟩ ?_ (fun s hs => ⟨by omega, by omega, hs.2⟩)
          rintro j x hj ⟨h3, h4⟩
          have hj8 : (j : Int) < 8 := by omega
          unfold f_b4_l_names
          simp only [NFL, gDiv_ok (i := c) (j := 64 + 3 * (0 + (j : Int))) (by omega), gMul_okR (i := 0 + (j : Int)) (j := 0 + (j : Int)) (by omega)]
          have fin : ∀ p : Int, Ret (M.bind (M.opt (gIxS ("abcdefghijklmnopqrstuvwxyz" : Str) (p % (26 : Int)))) fun z => M.bind (M.opt (gCatS x (S1 z))) fun y => (M.pure (.nx y) : M (O Str Str (List Str)))) fun o => ∃ s', o = .nx s' ∧ s'.length = j + 1 ∧ ∀ z ∈ Sl s', z ∈ lett := fun p => by
            obtain ⟨z2, e2, hz2⟩ := lett_at (i := p % 26) (by omega)
            simp only [NFL, e2, gCatS_ok (x := x) (y := S1 z2) (by simp; omega)]
            refine ⟨_, rfl, _, rfl, by simp; omega, ?_⟩
            intro q hq
            simp only [Sl_add, Sl_one, List.mem_append, List.mem_singleton] at hq
            rcases hq with hq | rfl
            · exact h4 q hq
            · exact hz2
          by_cases ha : 0 + (j : Int) = a
          · simp only [NFL, ha, decide_true, if_true]
            exact fin _
          · simp only [NFL, ha, decide_false, Bool.false_eq_true, if_false]
            exact fin _
        · rintro x ⟨h3, h4, h5⟩
          simp only [NFL, gApp_ok (xs := fd) (x := x) (by omega)]
          refine ⟨_, rfl, _, rfl, by simp; omega, ?_⟩
          intro y hy
          rcases List.mem_append.mp hy with hy | hy
          · exact h2 y hy
          · rw [List.mem_singleton.mp hy]; exact isMkS_of (by omega) h4 h5
      · rintro fd ⟨h3, h4⟩
        exact ⟨_, rfl, _, rfl, h4, h3⟩
    · simp only [NFL, hf, decide_false, Bool.not_false, if_true]
      refine ⟨_, rfl, _, rfl, h2, ?_⟩
      have : 0 < fd.length := List.length_pos_iff.mpr hf
      omega

end PM
set_option maxHeartbeats 1000000
namespace PM
open PySem PySem.Spec PyProof.Rows L2
def Th.kd : Th → Int
  | .row _ => 0
  | .forest _ => 1
  | .table _ _ => 2
def Th.dat : Th → D
  | .row ms => .lst (ms.map .str)
  | .forest ns => .lst (ns.map dNode)
  | .table ls _ => .lst (ls.map dLine)
def Th.W0 : Th → Prop
  | .table ls w => ls = [] → w = 0
  | _ => True
theorem name_at {ms : List Str} (hl : 0 < ms.length) (c : Int) : (M.bind (M.opt (gMod c ((List.length ms : Nat) : Int))) fun t => M.opt (gIx ms t)) = M.pure (ms.getD (c % (ms.length : Int)).toNat E0) := by
  have hi := emod_in c hl
  simp only [NFL, gMod_ok (i := c) (show (0 : Int) < (ms.length : Int) by omega), gIx_getD E0 hi]
theorem name_mem {ms : List Str} (hl : 0 < ms.length) (c : Int) : ms.getD (c % (ms.length : Int)).toNat E0 ∈ ms := getD_mem (by have := emod_in c hl; omega)
theorem nm {ms : List Str} (hl : 0 < ms.length) (c : Int) {γ : Type} (k : Str → M γ) : (M.bind (M.opt (gMod c ((List.length ms : Nat) : Int))) fun t => M.bind (M.opt (gIx ms t)) k) = k (ms.getD (c % (ms.length : Int)).toNat E0) := by
  have := congrArg (fun m => M.bind m k) (name_at hl c)
  simp only [M.bind_assoc, M.pure_bind] at this
  exact this
structure DatOk (ms : List Str) (kd many : Int) (t : Th) : Prop where
  ok : t.Ok
  kd : t.kd = kd
  w0 : t.W0
  n : (t.N : Int) ≤ many
  mks : ∀ m ∈ t.spots, m ∈ ms
end PM
set_option maxHeartbeats 1000000
namespace PM
open PySem PySem.Spec PyProof.Rows L2
structure NextD (ns : List (Str × Nat)) (i j : Nat) : Prop where
  gt : i < j
  le : j ≤ ns.length
  deep : ∀ k, i < k → k < j → (ns.getD i n0).2 < (ns.getD k n0).2
  stop : j < ns.length → ¬ (ns.getD i n0).2 < (ns.getD j n0).2
end PM
set_option maxHeartbeats 1000000
namespace PM
open PySem PySem.Spec PyProof.Rows L2
mutual
def Ft.t : Ft → D
  | .has m => .tup [.str "has", .str m]
  | .many n m => .tup [.str "many", .int n, .str m]
  | .bef a o => .tup [.str "before", .str a, .str o]
  | .und a o => .tup [.str "under", .str a, .str o]
  | .bes a o => .tup [.str "beside", .str a, .str o]
  | .all ps => .tup (.str "all" :: Ft.tts ps)
  | .any ps => .tup (.str "any" :: Ft.tts ps)
  | .no p => .tup [.str "not", p.t]
def Ft.tts : List Ft → List D
  | [] => []
  | p :: ps => p.t :: Ft.tts ps
end
theorem Ft.tts_map : ∀ ps : List Ft, Ft.tts ps = ps.map Ft.t
  | [] => by unfold Ft.tts; rfl
  | p :: ps => by unfold Ft.tts; rw [Ft.tts_map ps]; rfl
mutual
def Ft.dp : Ft → Nat
  | .all ps => Ft.dps ps + 1
  | .any ps => Ft.dps ps + 1
  | .no p => p.dp + 1
  | .has _ => 1
  | .many _ _ => 1
  | .bef _ _ => 1
  | .und _ _ => 1
  | .bes _ _ => 1
def Ft.dps : List Ft → Nat
  | [] => 0
  | p :: ps => max p.dp (Ft.dps ps)
end
mutual
def Ft.am : Ft → Nat
  | .all ps => Ft.ams ps + 1
  | .any ps => Ft.ams ps + 1
  | .no p => p.am + 1
  | .has _ => 1
  | .many _ _ => 1
  | .bef _ _ => 1
  | .und _ _ => 1
  | .bes _ _ => 1
def Ft.ams : List Ft → Nat
  | [] => 0
  | p :: ps => p.am + Ft.ams ps
end
mutual
def Ft.wf (P : Str → Prop) (B : Int) : Ft → Prop
  | .has m => P m
  | .many n m => (1 ≤ n ∧ n ≤ B) ∧ P m
  | .bef a o => P a ∧ P o
  | .und a o => P a ∧ P o
  | .bes a o => P a ∧ P o
  | .all ps => (2 ≤ ps.length ∧ ps.length ≤ 6) ∧ Ft.wfs P B ps
  | .any ps => (2 ≤ ps.length ∧ ps.length ≤ 6) ∧ Ft.wfs P B ps
  | .no p => p.wf P B
def Ft.wfs (P : Str → Prop) (B : Int) : List Ft → Prop
  | [] => True
  | p :: ps => p.wf P B ∧ Ft.wfs P B ps
end
theorem Ft.wfs_iff {P : Str → Prop} {B : Int} : ∀ ps : List Ft, Ft.wfs P B ps ↔ ∀ p ∈ ps, p.wf P B
  | [] => by unfold Ft.wfs; simp
  | p :: ps => by unfold Ft.wfs; rw [Ft.wfs_iff ps]; simp
theorem Ft.dps_le : ∀ {ps : List Ft} {p : Ft}, p ∈ ps → p.dp ≤ Ft.dps ps
  | q :: ps, p, h => by
    unfold Ft.dps
    rcases List.mem_cons.mp h with rfl | h
    · omega
    · have := Ft.dps_le h
      omega
theorem Ft.dp_pos (f : Ft) : 1 ≤ f.dp := by cases f <;> simp [Ft.dp]
theorem Ft.am_pos (f : Ft) : 1 ≤ f.am := by cases f <;> simp [Ft.am]
theorem Ft.ok_dp {P : Str → Prop} {B : Int} : ∀ {r : Nat} {f : Ft}, f.wf P B → f.dp ≤ r → f.ok r
  | 0, f, _, h => by have := Ft.dp_pos f; omega
  | r + 1, f, hw, h => by
    cases f with
    | all ps =>
      simp only [Ft.wf, Ft.wfs_iff] at hw
      simp only [Ft.dp] at h
      exact ⟨by omega, fun p hp => Ft.ok_dp (hw.2 p hp) (by have := Ft.dps_le hp; omega)⟩
    | any ps =>
      simp only [Ft.wf, Ft.wfs_iff] at hw
      simp only [Ft.dp] at h
      exact ⟨by omega, fun p hp => Ft.ok_dp (hw.2 p hp) (by have := Ft.dps_le hp; omega)⟩
    | no p =>
      simp only [Ft.wf] at hw
      simp only [Ft.dp] at h
      exact Ft.ok_dp (r := r) hw (by omega)
    | _ => trivial
def Ft.dsum (fs : List Ft) : Nat := (fs.map Ft.dp).sum
def Ft.asum (fs : List Ft) : Nat := (fs.map fun f => f.am + 1).sum
theorem Ft.dps_dsum : ∀ {ps : List Ft}, Ft.dps ps ≤ Ft.dsum ps
  | [] => by simp [Ft.dps, Ft.dsum]
  | p :: ps => by
    have := Ft.dps_dsum (ps := ps)
    unfold Ft.dsum at this ⊢
    simp only [Ft.dps, List.map_cons, List.sum_cons]
    omega
theorem Ft.dps_lt : ∀ {ps : List Ft}, 2 ≤ ps.length → Ft.dps ps + 1 ≤ Ft.dsum ps
  | [], h => by simp at h
  | [p], h => by simp at h
  | p :: q :: ps, _ => by
    have h1 := Ft.dps_dsum (ps := q :: ps)
    have h2 := Ft.dp_pos p
    have h3 : 1 ≤ Ft.dps (q :: ps) := by have := Ft.dp_pos q; simp only [Ft.dps]; omega
    unfold Ft.dsum at h1 ⊢
    simp only [Ft.dps, List.map_cons, List.sum_cons] at h1 h3 ⊢
    omega
theorem Ft.ams_asum : ∀ {ps : List Ft}, Ft.asum ps = Ft.ams ps + ps.length
  | [] => by simp [Ft.ams, Ft.asum]
  | p :: ps => by
    have := Ft.ams_asum (ps := ps)
    unfold Ft.asum at this ⊢
    simp only [Ft.ams, List.map_cons, List.sum_cons, this, List.length_cons]
    omega
theorem eTLiN (xs : List D) : eTL iN xs = .tup xs := by simp [eTL, iN]
theorem sIx_neg {n d k : Nat} (h : k ≤ n) (h0 : 0 < k) : HT.sIx n d (some (-(k : Int))) = n - k := by
  unfold HT.sIx
  simp only
  rw [if_pos (by omega)]
  omega
theorem cut1 (a : D) (r : List D) : oCut (.tup (a :: r)) (some (1 : Int)) none = some (.tup r) := by
  have e : cutD (a :: r) (some (1 : Int)) none = r := by
    unfold cutD
    rw [sIx_in (by rw [List.length_cons]; omega), show HT.sIx (a :: r).length (a :: r).length none = (a :: r).length from rfl]
    simp
  unfold oCut
  simp only [e]
theorem cut_last {α : Type} {xs : List α} {n : Nat} (h : n ≤ xs.length) (h0 : 0 < n) : cutD xs (some (-(n : Int))) none = xs.drop (xs.length - n) := by
  unfold cutD
  rw [sIx_neg h h0, show HT.sIx xs.length xs.length none = xs.length from rfl]
  exact List.take_of_length_le (by simp)
theorem cut_init {α : Type} {xs : List α} {n : Nat} (h : n ≤ xs.length) (h0 : 0 < n) : cutD xs none (some (-(n : Int))) = xs.take (xs.length - n) := by
  unfold cutD
  rw [sIx_neg h h0, show HT.sIx xs.length 0 none = 0 from rfl]
  simp
theorem leaf_ok {c : Int} {ms : List Str} (hl : 0 < ms.length ∧ ms.length ≤ 20) : Ret (f_l_leaf c ms) fun d => ∃ f : Ft, d = f.t ∧ f.wf (· ∈ ms) 13 ∧ f.dp = 1 ∧ f.am = 1 := by
  have hg : 0 < (8 : Int) * (ms.length : Int) ∧ (8 : Int) * (ms.length : Int) < 1073741824 := by omega
  have m1 := name_mem hl.1 (c / 8)
  have m2 := name_mem hl.1 (c / (8 * (ms.length : Int)))
  unfold f_l_leaf
  simp only [NFL, nm hl.1, gDiv_ok (i := c) hg]
  generalize ms.getD (c / 8 % (ms.length : Int)).toNat E0 = a at m1
  generalize ms.getD (c / (8 * (ms.length : Int)) % (ms.length : Int)).toNat E0 = o at m2
  have hh : ¬ (("many" : Str) = "has") := by decide +kernel
  have hb : ¬ (("before" : Str) = "has") ∧ ¬ (("before" : Str) = "many") := by decide +kernel
  have hu : ¬ (("under" : Str) = "has") ∧ ¬ (("under" : Str) = "many") := by decide +kernel
  have he : ¬ (("beside" : Str) = "has") ∧ ¬ (("beside" : Str) = "many") := by decide +kernel
  have c8 : c % 8 = 0 ∨ c % 8 = 1 ∨ c % 8 = 2 ∨ c % 8 = 3 ∨ c % 8 = 4 ∨ c % 8 = 5 ∨ c % 8 = 6 ∨ c % 8 = 7 := by omega
  have g : ∀ (k : Nat) (i : Int) (w : Str), i = (k : Int) → [("has" : Str), "many", "before", "under", "beside", "has", "before", "under"][k]? = some w → gIx [("has" : Str), "many", "before", "under", "beside", "has", "before", "under"] i = some w := fun k i w hi h => gIx_some hi h
  rcases c8 with h | h | h | h | h | h | h | h <;> rw [h]
  · rw [g 0 0 "has" rfl rfl]; simp only [NFL, decide_true, if_true]; exact ⟨_, rfl, .has a, rfl, m1, rfl, rfl⟩
  · rw [g 1 1 "many" rfl rfl]; simp only [NFL, hh, decide_false, decide_true, Bool.false_eq_true, if_false, if_true]; exact ⟨_, rfl, .many (1 + c / (8 * (ms.length : Int)) % 13) a, rfl, ⟨by omega, m1⟩, rfl, rfl⟩
  · rw [g 2 2 "before" rfl rfl]; simp only [NFL, hb.1, hb.2, decide_false, Bool.false_eq_true, if_false]; exact ⟨_, rfl, .bef a o, rfl, ⟨m1, m2⟩, rfl, rfl⟩
  · rw [g 3 3 "under" rfl rfl]; simp only [NFL, hu.1, hu.2, decide_false, Bool.false_eq_true, if_false]; exact ⟨_, rfl, .und a o, rfl, ⟨m1, m2⟩, rfl, rfl⟩
  · rw [g 4 4 "beside" rfl rfl]; simp only [NFL, he.1, he.2, decide_false, Bool.false_eq_true, if_false]; exact ⟨_, rfl, .bes a o, rfl, ⟨m1, m2⟩, rfl, rfl⟩
  · rw [g 5 5 "has" rfl rfl]; simp only [NFL, decide_true, if_true]; exact ⟨_, rfl, .has a, rfl, m1, rfl, rfl⟩
  · rw [g 6 6 "before" rfl rfl]; simp only [NFL, hb.1, hb.2, decide_false, Bool.false_eq_true, if_false]; exact ⟨_, rfl, .bef a o, rfl, ⟨m1, m2⟩, rfl, rfl⟩
  · rw [g 7 7 "under" rfl rfl]; simp only [NFL, hu.1, hu.2, decide_false, Bool.false_eq_true, if_false]; exact ⟨_, rfl, .und a o, rfl, ⟨m1, m2⟩, rfl, rfl⟩
structure StkOk (P : Str → Prop) (fs : List Ft) (k : Nat) : Prop where
  wf : ∀ f ∈ fs, f.wf P 13
  dp : Ft.dsum fs ≤ k
  am : Ft.asum fs ≤ 2 * k
  ne : fs ≠ []
theorem dsum_app (a b : List Ft) : Ft.dsum (a ++ b) = Ft.dsum a + Ft.dsum b := by simp [Ft.dsum]
theorem asum_app (a b : List Ft) : Ft.asum (a ++ b) = Ft.asum a + Ft.asum b := by simp [Ft.asum]
theorem asum_len : ∀ fs : List Ft, 2 * fs.length ≤ Ft.asum fs
  | [] => by simp
  | f :: fs => by
    have := asum_len fs
    have := Ft.am_pos f
    unfold Ft.asum at *
    simp only [List.map_cons, List.sum_cons, List.length_cons]
    omega
theorem grp_ok {P : Str → Prop} {w : Str} (hw : w = "all" ∨ w = "any") {qs : List Ft} (hq : 2 ≤ qs.length ∧ qs.length ≤ 6) (hwf : ∀ f ∈ qs, f.wf P 13) : ∃ f : Ft, D.tup (.str w :: qs.map Ft.t) = f.t ∧ f.wf P 13 ∧ f.dp ≤ Ft.dsum qs ∧ f.am + 1 ≤ Ft.asum qs := by
  have h1 := Ft.dps_lt hq.1
  have h2 := Ft.ams_asum (ps := qs)
  rcases hw with rfl | rfl
  · exact ⟨.all qs, by rw [Ft.t, Ft.tts_map], ⟨hq, (Ft.wfs_iff qs).mpr hwf⟩, by simp only [Ft.dp]; exact h1, by simp only [Ft.am]; omega⟩
  · exact ⟨.any qs, by rw [Ft.t, Ft.tts_map], ⟨hq, (Ft.wfs_iff qs).mpr hwf⟩, by simp only [Ft.dp]; exact h1, by simp only [Ft.am]; omega⟩
theorem stk_grp {P : Str → Prop} {w : Str} (hw : w = "all" ∨ w = "any") {fs : List Ft} {k n : Nat} (h : StkOk P fs k) (hk : k ≤ 1000) (hn : 2 ≤ n ∧ n ≤ 6 ∧ n ≤ fs.length) {γ : Type} :
    ∃ gs : List Ft, StkOk P gs k ∧ gs.length + n = fs.length + 1 ∧ ∀ (K : List D → M γ), (M.bind (M.opt (gCatL (List.map D.str [w]) (cutD (fs.map Ft.t) (some (-(n : Int))) none))) fun t27 => M.bind (M.opt (gCatL (cutD (fs.map Ft.t) none (some (-(n : Int)))) (List.map (eTL iN) [t27]))) K) = K (gs.map Ft.t) := by
  have hal := asum_len fs
  have hfl : fs.length ≤ 1000 := by have := h.am; omega
  have hsp : fs = fs.take (fs.length - n) ++ fs.drop (fs.length - n) := (List.take_append_drop _ _).symm
  have hdl : (fs.drop (fs.length - n)).length = n := by rw [List.length_drop]; omega
  obtain ⟨f, e, h1, h2, h3⟩ := grp_ok hw (qs := fs.drop (fs.length - n)) (by omega) (fun f hf => h.wf f (List.mem_of_mem_drop hf))
  have hd : Ft.dsum fs = Ft.dsum (fs.take (fs.length - n)) + Ft.dsum (fs.drop (fs.length - n)) := by rw [← dsum_app, ← hsp]
  have ha : Ft.asum fs = Ft.asum (fs.take (fs.length - n)) + Ft.asum (fs.drop (fs.length - n)) := by rw [← asum_app, ← hsp]
  have d1 : Ft.dsum [f] = f.dp := by simp [Ft.dsum]
  have a1 : Ft.asum [f] = f.am + 1 := by simp [Ft.asum]
  refine ⟨fs.take (fs.length - n) ++ [f], ⟨fun g hg => ?_, ?_, ?_, by simp⟩, ?_, fun K => ?_⟩
  · rcases List.mem_append.mp hg with hg | hg
    · exact h.wf g (List.mem_of_mem_take hg)
    · rw [List.mem_singleton.mp hg]; exact h1
  · rw [dsum_app, d1]; have := h.dp; omega
  · rw [asum_app, a1]; have := h.am; omega
  · rw [List.length_append, List.length_take, List.length_singleton]; omega
  · rw [cut_last (by rw [List.length_map]; omega) (by omega), cut_init (by rw [List.length_map]; omega) (by omega)]
    rw [gCatL_ok (by simp; omega), M.opt_some, M.pure_bind, gCatL_ok (by simp; omega), M.opt_some, M.pure_bind]
    congr 1
    simp only [List.length_map, List.map_cons, List.map_nil, List.map_append, ← List.map_drop, ← List.map_take, List.singleton_append, eTLiN, e]
theorem term_ok {ns : List Int} {b many : Int} {ms : List Str} (hb : 0 ≤ b) (hm : 1 ≤ many ∧ many ≤ 20) (hl : 0 < ms.length ∧ ms.length ≤ 20) :
    Ret (f_l_term ns b many ms) fun d => ∃ f : Ft, d = f.t ∧ f.wf (· ∈ ms) 13 ∧ (f.dp : Int) ≤ many ∧ (f.am : Int) + 1 ≤ 2 * many := by
  unfold f_l_term
  simp only [NFL, cell_at_ok (ns := ns) hb]
  refine Ret.bind (leaf_ok (c := cell ns b) hl) ?_
  rintro _ ⟨f0, rfl, hw0, hd0, ha0⟩
  simp only [NFL, gR2_ok (i := 1) (j := many) (by omega)]
  refine Ret.runO ?_
  refine Ret.bindO (P := fun s => ∃ fs : List Ft, s = fs.map Ft.t ∧ StkOk (· ∈ ms) fs many.toNat) ?_ ?_
  · refine Ret.forR (fun k s => ∃ fs : List Ft, s = fs.map Ft.t ∧ StkOk (· ∈ ms) fs (k + 1)) ⟨[f0], rfl, ⟨fun f hf => by rw [List.mem_singleton.mp hf]; exact hw0, by simp [Ft.dsum, hd0], by simp [Ft.asum, ha0], by simp⟩⟩ ?_ (fun s ⟨fs, e, h⟩ => ⟨fs, e, by rw [show many.toNat = (many - 1).toNat + 1 by omega]; exact h⟩)
    rintro k s hk ⟨fs, rfl, h⟩
    have hal := asum_len fs
    have ham := h.am
    unfold f_b1_l_term
    simp only [NFL, cell_at_ok (ns := ns) (show 0 ≤ b + (1 + (k : Int)) by omega)]
    generalize cell ns (b + (1 + (k : Int))) = c
    by_cases h5 : c % 6 = 5
    · simp only [NFL, h5, decide_true, if_true]
      obtain ⟨init, last, rfl⟩ : ∃ i l, fs = i ++ [l] := ⟨_, _, (List.dropLast_concat_getLast h.ne).symm⟩
      have ep : gPopApp "not" ((init ++ [last]).map Ft.t) = some ((init ++ [Ft.no last]).map Ft.t) := by
        unfold gPopApp
        have hlen : ((init ++ [last]).map Ft.t).length < 1000000 := by rw [List.length_map]; omega
        simp only [List.map_append, List.map_cons, List.map_nil, List.getLast?_append, List.getLast?_singleton, Option.some_or, Option.bind_some, List.dropLast_concat] at hlen ⊢
        rw [if_pos hlen]
        simp [Ft.t]
      simp only [NFL, ep]
      have dl : ∀ f : Ft, Ft.dsum [f] = f.dp := fun f => by simp [Ft.dsum]
      have al : ∀ f : Ft, Ft.asum [f] = f.am + 1 := fun f => by simp [Ft.asum]
      have hdp := h.dp
      rw [dsum_app, dl] at hdp
      rw [asum_app, al] at ham
      refine ⟨_, rfl, _, rfl, init ++ [Ft.no last], rfl, ⟨fun g hg => ?_, ?_, ?_, by simp⟩⟩
      · rcases List.mem_append.mp hg with hg | hg
        · exact h.wf g (by simp [hg])
        · rw [List.mem_singleton.mp hg]
          exact h.wf last (by simp)
      · rw [dsum_app, dl, show (Ft.no last).dp = last.dp + 1 from by simp [Ft.dp]]; omega
      · rw [asum_app, al, show (Ft.no last).am = last.am + 1 from by simp [Ft.am]]; omega
    · by_cases hg : c % 6 > 2 ∧ (fs.length : Int) > 1
      · have e1 : (decide (c % 6 > 2) && decide ((fs.length : Int) > 1)) = true := by rw [decide_eq_true hg.1, decide_eq_true hg.2]; rfl
        have hmin : min2 6 (fs.length : Int) = (min 6 fs.length : Nat) := by unfold min2; split <;> omega
        have hpos : (0 : Int) < ((min 6 fs.length : Nat) : Int) - 1 := by omega
        have hr : 0 ≤ c / 6 % (((min 6 fs.length : Nat) : Int) - 1) ∧ c / 6 % (((min 6 fs.length : Nat) : Int) - 1) < ((min 6 fs.length : Nat) : Int) - 1 := ⟨Int.emod_nonneg _ (by omega), Int.emod_lt_of_pos _ hpos⟩
        simp only [NFL, h5, decide_false, Bool.false_eq_true, if_false, e1, if_true, List.length_map, hmin, gMod_ok (i := c / 6) hpos]
        obtain ⟨n, hn, hn2⟩ : ∃ n : Nat, 2 + c / 6 % (((min 6 fs.length : Nat) : Int) - 1) = (n : Int) ∧ (2 ≤ n ∧ n ≤ 6 ∧ n ≤ fs.length) := ⟨(2 + c / 6 % (((min 6 fs.length : Nat) : Int) - 1)).toNat, by omega, by omega⟩
        rw [hn]
        obtain ⟨w, ew, hw⟩ : ∃ w : Str, gIx [("all" : Str), "any"] (c % 6 - 3) = some w ∧ (w = "all" ∨ w = "any") := by
          rcases (by omega : c % 6 = 3 ∨ c % 6 = 4) with q | q <;> rw [q]
          · exact ⟨"all", gIx_some (n := 0) rfl rfl, .inl rfl⟩
          · exact ⟨"any", gIx_some (n := 1) rfl rfl, .inr rfl⟩
        obtain ⟨gs, h1, h2, h3⟩ := stk_grp hw h (by omega) hn2 (γ := O (List D) (List D) D)
        simp only [NFL, ew]
        rw [h3]
        exact ⟨_, rfl, _, rfl, gs, rfl, ⟨h1.wf, by have := h1.dp; omega, by have := h1.am; omega, h1.ne⟩⟩
      · have e1 : (decide (c % 6 > 2) && decide ((fs.length : Int) > 1)) = false := by
          rw [← Bool.decide_and]
          exact decide_eq_false hg
        simp only [NFL, h5, decide_false, Bool.false_eq_true, if_false, List.length_map, e1]
        refine Ret.bind (leaf_ok (c := c / 6) hl) ?_
        rintro _ ⟨f1, rfl, hw1, hd1, ha1⟩
        simp only [NFL, gApp_ok (xs := fs.map Ft.t) (x := f1.t) (by rw [List.length_map]; omega)]
        refine ⟨_, rfl, _, rfl, fs ++ [f1], by simp, ⟨fun g hg => ?_, ?_, ?_, by simp⟩⟩
        · rcases List.mem_append.mp hg with hg | hg
          · exact h.wf g hg
          · rw [List.mem_singleton.mp hg]; exact hw1
        · rw [dsum_app, show Ft.dsum [f1] = f1.dp by simp [Ft.dsum]]; have := h.dp; omega
        · rw [asum_app, show Ft.asum [f1] = f1.am + 1 by simp [Ft.asum]]; omega
  · rintro _ ⟨fs, rfl, h⟩
    refine Ret.bindO (P := fun s => ∃ f : Ft, s = [f.t] ∧ f.wf (· ∈ ms) 13 ∧ (f.dp : Int) ≤ many ∧ (f.am : Int) + 1 ≤ 2 * many) ?_ ?_
    · have hal := asum_len fs
      have ham := h.am
      refine Ret.while (fun m s => ∃ fs : List Ft, s = fs.map Ft.t ∧ StkOk (· ∈ ms) fs many.toNat ∧ m = fs.length) (m := fs.length) (by unfold FUEL; omega) ⟨fs, rfl, h, rfl⟩ ?_
      rintro m s ⟨fs, rfl, h, rfl⟩
      have hal := asum_len fs
      have ham := h.am
      refine ⟨decide ((fs.length : Int) > 1), by rw [List.length_map], fun hf => ?_, fun ht => ?_⟩
      · have hf := of_decide_eq_false hf
        have hpos := List.length_pos_iff.mpr h.ne
        match fs, h, hf, hpos with
        | [f], h, _, _ =>
          have h1 := h.dp
          have h2 := h.am
          simp only [Ft.dsum, Ft.asum, List.map_cons, List.map_nil, List.sum_cons, List.sum_nil] at h1 h2
          exact ⟨_, rfl, f, rfl, h.wf f (by simp), by omega, by omega⟩
        | f :: g :: r, _, hf, _ => simp at hf; omega
      · have ht := of_decide_eq_true ht
        unfold f_b2_l_term
        have hmin : min2 6 (fs.length : Int) = (min 6 fs.length : Nat) := by unfold min2; split <;> omega
        obtain ⟨w, ew, hw⟩ : ∃ w : Str, gIx [("any" : Str), "all"] (cell ns b / 7 % 2) = some w ∧ (w = "all" ∨ w = "any") := by
          rcases (by omega : cell ns b / 7 % 2 = 0 ∨ cell ns b / 7 % 2 = 1) with q | q <;> rw [q]
          · exact ⟨"any", gIx_some (n := 0) rfl rfl, .inr rfl⟩
          · exact ⟨"all", gIx_some (n := 1) rfl rfl, .inl rfl⟩
        obtain ⟨gs, h1, h2, h3⟩ := stk_grp hw h (n := min 6 fs.length) (by omega) (by omega) (γ := O (List D) (List D) D)
        simp only [NFL, List.length_map, hmin, cell_at_ok (ns := ns) hb, ew]
        rw [h3]
        exact ⟨_, rfl, .inl ⟨_, gs.length, .inl rfl, by omega, gs, rfl, h1, rfl⟩⟩
    · rintro _ ⟨f, rfl, h1, h2, h3⟩
      simp only [NFL, gIx_one]
      exact ⟨_, rfl, _, rfl, f, rfl, h1, h2, h3⟩

end PM
set_option maxHeartbeats 1000000
namespace PM
open PySem PySem.Spec PyProof.Rows L2
mutual
def Ft.grow : Ft → Prop
  | .bes _ _ => False
  | .no _ => False
  | .all ps => Ft.growA ps
  | .any ps => Ft.growA ps
  | _ => True
def Ft.growA : List Ft → Prop
  | [] => True
  | p :: ps => p.grow ∧ Ft.growA ps
end
theorem Ft.growA_iff : ∀ ps : List Ft, Ft.growA ps ↔ ∀ p ∈ ps, p.grow
  | [] => by unfold Ft.growA; simp
  | p :: ps => by unfold Ft.growA; rw [Ft.growA_iff ps]; simp
open Classical in
noncomputable def Ft.gr (f : Ft) : Bool := decide f.grow
theorem Ft.gr_iff {f : Ft} : f.gr = true ↔ f.grow := by unfold Ft.gr; simp
theorem Ft.gr_of {f : Ft} {b : Bool} (h : b = true ↔ f.grow) : b = f.gr := by
  cases b
  · cases q : f.gr
    · rfl
    · exact absurd (h.mpr (Ft.gr_iff.mp q)) (by simp)
  · exact (Ft.gr_iff.mpr (h.mp rfl)).symm
theorem grows_obj : ∀ (r : Nat) (f : Ft), f.ok r → methM "grows" (mtq_grows (g_p_Group_grows r)) resF f.o (M.pure []) = M.pure (.bl f.gr)
  | 0, f, h => h.elim
  | r + 1, f, h => by
    cases f with
    | has m =>
      unfold Ft.o
      refine meth_F (e := D.bl) (v := (Ft.has m).gr) (lkn (by decide +kernel) lkn0) mtq_grows_14 (ty_p_Fault_grows _) ?_
      unfold f_p_Fault_grows
      simp only [NFL]
      exact congrArg M.pure (Ft.gr_of (by simp [Ft.grow]))
    | many n m =>
      unfold Ft.o
      refine meth_F (e := D.bl) (v := (Ft.many n m).gr) (lkn (by decide +kernel) (lkn (by decide +kernel) lkn0)) mtq_grows_15 (ty_p_Fault_grows _) ?_
      unfold f_p_Fault_grows
      simp only [NFL]
      exact congrArg M.pure (Ft.gr_of (by simp [Ft.grow]))
    | bef a o =>
      unfold Ft.o
      refine meth_F (e := D.bl) (v := (Ft.bef a o).gr) (lkn (by decide +kernel) (lkn (by decide +kernel) lkn0)) mtq_grows_17 (ty_p_Fault_grows _) ?_
      unfold f_p_Fault_grows
      simp only [NFL]
      exact congrArg M.pure (Ft.gr_of (by simp [Ft.grow]))
    | und a o =>
      unfold Ft.o
      refine meth_F (e := D.bl) (v := (Ft.und a o).gr) (lkn (by decide +kernel) (lkn (by decide +kernel) lkn0)) mtq_grows_18 (ty_p_Fault_grows _) ?_
      unfold f_p_Fault_grows
      simp only [NFL]
      exact congrArg M.pure (Ft.gr_of (by simp [Ft.grow]))
    | bes a o =>
      unfold Ft.o
      refine meth_F (e := D.bl) (v := (Ft.bes a o).gr) (lkn (by decide +kernel) (lkn (by decide +kernel) lkn0)) mtq_grows_19 (ty_p_Beside_grows _) ?_
      unfold f_p_Beside_grows
      simp only [NFL]
      exact congrArg M.pure (Ft.gr_of (by simp [Ft.grow]))
    | no p =>
      unfold Ft.o
      refine meth_F (e := D.bl) (v := (Ft.no p).gr) (lkn (by decide +kernel) lkn0) mtq_grows_23 (ty_p_Not_grows _) ?_
      unfold f_p_Not_grows
      simp only [NFL]
      exact congrArg M.pure (Ft.gr_of (by simp [Ft.grow]))
    | all ps =>
      unfold Ft.o
      refine meth_F (e := D.bl) (v := (Ft.all ps).gr) (lkn (by decide +kernel) lkn0) mtq_grows_21 (ty_p_Group_grows (r + 1) _) ?_
      unfold f_p_Group_grows
      have e0 : (uL some (.lst (Ft.os ps))) = some (ps.map Ft.o) := by rw [Ft.os_map, ← eLiN]; exact (unL unAny).told _
      simp only [NFL, fo_21p, e0]
      rw [lc_mapf Ft.o (fun p => p.gr) (fun p hp => by simp only [NFL, grows_obj r p (h.2 p hp), uB_told]) (by have := h.1; omega)]
      simp only [NFL]
      refine congrArg M.pure (Ft.gr_of ?_)
      rw [Ft.grow, Ft.growA_iff, all_id, List.all_eq_true]
      exact ⟨fun q p hp => Ft.gr_iff.mp (q p hp), fun q p hp => Ft.gr_iff.mpr (q p hp)⟩
    | any ps =>
      unfold Ft.o
      refine meth_F (e := D.bl) (v := (Ft.any ps).gr) (lkn (by decide +kernel) lkn0) mtq_grows_22 (ty_p_Group_grows (r + 1) _) ?_
      unfold f_p_Group_grows
      have e0 : (uL some (.lst (Ft.os ps))) = some (ps.map Ft.o) := by rw [Ft.os_map, ← eLiN]; exact (unL unAny).told _
      simp only [NFL, fo_22p, e0]
      rw [lc_mapf Ft.o (fun p => p.gr) (fun p hp => by simp only [NFL, grows_obj r p (h.2 p hp), uB_told]) (by have := h.1; omega)]
      simp only [NFL]
      refine congrArg M.pure (Ft.gr_of ?_)
      rw [Ft.grow, Ft.growA_iff, all_id, List.all_eq_true]
      exact ⟨fun q p hp => Ft.gr_iff.mp (q p hp), fun q p hp => Ft.gr_iff.mpr (q p hp)⟩

end PM
set_option maxHeartbeats 1000000
namespace PM
open PySem PySem.Spec PyProof.Rows L2
theorem s40 : ("(" : Str) = S1 40 := by decide +kernel
theorem s41 : (")" : Str) = S1 41 := by decide +kernel
theorem s44 : ("," : Str) = S1 44 := by decide +kernel
def Cj : List (List Nat) → List Nat
  | [] => []
  | [a] => a
  | a :: b :: r => a ++ 44 :: Cj (b :: r)
theorem Cj_join : ∀ ws : List Str, Sl (Txt.join ("," : Str) ws) = Cj (ws.map Sl)
  | [] => by rw [TL.join_eq]; rfl
  | [a] => by rw [TL.join_eq]; rfl
  | a :: b :: r => by
    have ih := Cj_join (b :: r)
    rw [TL.join_eq] at ih ⊢
    show Sl (a ++ ("," : Str) ++ Str.join ("," : Str) (b :: r)) = _
    rw [Sl_add, Sl_add, ih, s44, Sl_one]
    simp [Cj]
mutual
def Ft.cs : Ft → List Nat
  | .has m => Sl ("has" : Str) ++ 40 :: (Sl m ++ [41])
  | .many n m => Sl ("many" : Str) ++ 40 :: (TL.numL n.toNat ++ 44 :: Sl m ++ [41])
  | .bef a o => Sl ("before" : Str) ++ 40 :: (Sl a ++ 44 :: Sl o ++ [41])
  | .und a o => Sl ("under" : Str) ++ 40 :: (Sl a ++ 44 :: Sl o ++ [41])
  | .bes a o => Sl ("beside" : Str) ++ 40 :: (Sl a ++ 44 :: Sl o ++ [41])
  | .all ps => Sl ("all" : Str) ++ 40 :: (Cj (Ft.css ps) ++ [41])
  | .any ps => Sl ("any" : Str) ++ 40 :: (Cj (Ft.css ps) ++ [41])
  | .no p => Sl ("not" : Str) ++ 40 :: (p.cs ++ [41])
def Ft.css : List Ft → List (List Nat)
  | [] => []
  | p :: ps => p.cs :: Ft.css ps
end
theorem Ft.css_map : ∀ ps : List Ft, Ft.css ps = ps.map Ft.cs
  | [] => by unfold Ft.css; rfl
  | p :: ps => by unfold Ft.css; rw [Ft.css_map ps]; rfl
def Ft.x (f : Ft) : Str := mkS f.cs
theorem Ft.Sl_x (f : Ft) : Sl f.x = f.cs := Sl_mk _
abbrev MkP (m : Str) : Prop := isMkS m = true
abbrev B9 : Int := 999999999
theorem mk_ls {m : Str} (h : isMkS m = true) : (Sl m).length ≤ 8 := by rw [Sl_len]; exact isMk_len h
theorem Cj_len {B : Nat} : ∀ (ls : List (List Nat)), (Cj ls).length ≤ (ls.map (·.length)).sum + ls.length
  | [] => by simp [Cj]
  | [a] => by simp [Cj]
  | a :: b :: r => by
    have ih := Cj_len (B := B) (b :: r)
    simp only [Cj, List.length_append, List.length_cons, List.map_cons, List.sum_cons] at ih ⊢
    omega
mutual
theorem Ft.cs_len {f : Ft} (h : f.wf MkP B9) : f.cs.length ≤ 26 * f.am := by
  cases f with
  | has m => simp only [Ft.wf] at h; have := mk_ls h; simp only [Ft.cs, Ft.am, List.length_append, List.length_cons, List.length_nil]; rw [show (Sl ("has" : Str)).length = 3 by decide +kernel]; omega
  | many n m =>
    simp only [Ft.wf] at h
    have := mk_ls h.2
    have hn := TL.numL_len (n := n.toNat) (k := 9) (by omega) (by have := h.1.2; unfold B9 at this; omega)
    simp only [Ft.cs, Ft.am, List.length_append, List.length_cons, List.length_nil]; rw [show (Sl ("many" : Str)).length = 4 by decide +kernel]; omega
  | bef a o => simp only [Ft.wf] at h; have := mk_ls h.1; have := mk_ls h.2; simp only [Ft.cs, Ft.am, List.length_append, List.length_cons, List.length_nil]; rw [show (Sl ("before" : Str)).length = 6 by decide +kernel]; omega
  | und a o => simp only [Ft.wf] at h; have := mk_ls h.1; have := mk_ls h.2; simp only [Ft.cs, Ft.am, List.length_append, List.length_cons, List.length_nil]; rw [show (Sl ("under" : Str)).length = 5 by decide +kernel]; omega
  | bes a o => simp only [Ft.wf] at h; have := mk_ls h.1; have := mk_ls h.2; simp only [Ft.cs, Ft.am, List.length_append, List.length_cons, List.length_nil]; rw [show (Sl ("beside" : Str)).length = 6 by decide +kernel]; omega
  | all ps =>
    simp only [Ft.wf] at h
    have h1 := Ft.css_len h.2
    have h2 := Cj_len (B := 0) (Ft.css ps)
    have h3 : (Ft.css ps).length = ps.length := by rw [Ft.css_map, List.length_map]
    simp only [Ft.cs, Ft.am, List.length_append, List.length_cons, List.length_nil]; rw [show (Sl ("all" : Str)).length = 3 by decide +kernel]; omega
  | any ps =>
    simp only [Ft.wf] at h
    have h1 := Ft.css_len h.2
    have h2 := Cj_len (B := 0) (Ft.css ps)
    have h3 : (Ft.css ps).length = ps.length := by rw [Ft.css_map, List.length_map]
    simp only [Ft.cs, Ft.am, List.length_append, List.length_cons, List.length_nil]; rw [show (Sl ("any" : Str)).length = 3 by decide +kernel]; omega
  | no p =>
    simp only [Ft.wf] at h
    have h1 := Ft.cs_len h
    simp only [Ft.cs, Ft.am, List.length_append, List.length_cons, List.length_nil]; rw [show (Sl ("not" : Str)).length = 3 by decide +kernel]; omega
theorem Ft.css_len {ps : List Ft} (h : Ft.wfs MkP B9 ps) : ((Ft.css ps).map (·.length)).sum ≤ 26 * Ft.ams ps := by
  cases ps with
  | nil => simp [Ft.css]
  | cons p ps =>
    simp only [Ft.wfs] at h
    have h1 := Ft.cs_len h.1
    have h2 := Ft.css_len h.2
    simp only [Ft.css, Ft.ams, List.map_cons, List.sum_cons]
    omega
end
theorem Ft.x_len {f : Ft} (h : f.wf MkP B9) : f.x.length ≤ 26 * f.am := by rw [← Sl_len, Ft.Sl_x]; exact Ft.cs_len h

end PM
set_option maxHeartbeats 1000000
namespace PM
open PySem PySem.Spec PyProof.Rows L2
theorem forO_nx {α τ τ' β : Type} {f : α → τ → M (O τ τ β)} {x : α} {xs : List α} {s s' : τ} (h : f x s = M.pure (.nx s') ∨ f x s = M.pure (.ct s')) : forO (τ' := τ') f (x :: xs) s = forO f xs s' := by
  rcases h with h | h <;> (conv => lhs; unfold forO) <;> rw [h] <;> rfl
theorem for_unit {α β : Type} {f : α → Unit → M (O Unit Unit β)} : ∀ {xs : List α}, (∀ x ∈ xs, f x () = M.pure (.nx ())) → forO (τ' := Unit) f xs () = M.pure (.nx ())
  | [], _ => rfl
  | x :: xs, h => by
    rw [forO_nx (s' := ()) (.inl (h x (by simp)))]
    exact for_unit fun y hy => h y (List.mem_cons_of_mem _ hy)
theorem num_str (n : Nat) : mkS (TL.numL n) = Str.ofString (toString ((n : Nat) : Int)) := Sl_inj (by rw [Sl_mk]; exact (TL.tl_num n).symm)
def G3 : List Str := [("all" : Str), ("any" : Str), ("not" : Str)]
theorem inG3 (w : Str) : D.in? (D.str w) ((eTL iN) (List.map D.str [("all" : Str), ("any" : Str), ("not" : Str)])) = some (decide (w ∈ G3)) := by
  have := in?_decT eqS (by decide) w [("all" : Str), "any", "not"]
  rw [eTLiN, this]
  rfl
end PM
set_option maxHeartbeats 1000000
namespace PM
open PySem PySem.Spec PyProof.Rows L2
end PM
set_option maxHeartbeats 1000000
namespace PM
open PySem PySem.Spec PyProof.Rows L2
theorem Ft.ams_le : ∀ {ps : List Ft} {p : Ft}, p ∈ ps → p.am ≤ Ft.ams ps
  | q :: ps, p, h => by
    unfold Ft.ams
    rcases List.mem_cons.mp h with rfl | h
    · omega
    · have := Ft.ams_le h
      omega
theorem w_has : Sl ("has(" : Str) = Sl ("has" : Str) ++ [40] := by decide +kernel
theorem w_many : Sl ("many(" : Str) = Sl ("many" : Str) ++ [40] := by decide +kernel
theorem sum_x {ps : List Ft} (hw : ∀ p ∈ ps, p.wf MkP B9) : ((ps.map Ft.x).map (·.length)).sum ≤ 26 * Ft.ams ps := by
  have := Ft.css_len ((Ft.wfs_iff ps).mpr hw)
  rw [Ft.css_map, List.map_map] at this
  rw [List.map_map]
  refine Nat.le_trans (Nat.le_of_eq ?_) this
  exact congrArg List.sum (List.map_congr_left fun p _ => by
    simp only [Function.comp_apply]
    rw [← Sl_len, Ft.Sl_x])
theorem gJoin_x {ps : List Ft} (hw : ∀ p ∈ ps, p.wf MkP B9) (h6 : ps.length ≤ 900) (ha : Ft.ams ps ≤ 1000) : gJoin ("," : Str) (ps.map Ft.x) = some (mkS (Cj (ps.map Ft.cs))) := by
  have h1 := sum_x hw
  unfold gJoin
  rw [if_pos (by rw [List.length_map, show ("," : Str).length = 1 by decide +kernel]; omega)]
  refine congrArg some (Sl_inj ?_)
  rw [Cj_join, Sl_mk, List.map_map]
  exact congrArg Cj (List.map_congr_left fun p _ => Ft.Sl_x p)
theorem Cj_x {ps : List Ft} (hw : ∀ p ∈ ps, p.wf MkP B9) (h6 : ps.length ≤ 900) (ha : Ft.ams ps ≤ 1000) : (mkS (Cj (ps.map Ft.cs))).length ≤ 27000 := by
  have h1 := Ft.css_len ((Ft.wfs_iff ps).mpr hw)
  have h2 := Cj_len (B := 0) (Ft.css ps)
  rw [← Sl_len, Sl_mk, ← Ft.css_map]
  have : (Ft.css ps).length = ps.length := by rw [Ft.css_map, List.length_map]
  omega
theorem num_st {n : Int} (h : 1 ≤ n ∧ n ≤ B9) : gSt (fStr [.int n]) = some (mkS (TL.numL n.toNat)) ∧ (mkS (TL.numL n.toNat)).length ≤ 9 := by
  have h2 := h.2
  unfold B9 at h2
  refine ⟨?_, by rw [← Sl_len, Sl_mk]; exact TL.numL_len (by omega) (by omega)⟩
  have hb : n.natAbs < 2 ^ 1900 := Nat.lt_of_lt_of_le (show n.natAbs < 2 ^ 30 by omega) (Nat.pow_le_pow_right (by omega) (by omega))
  have e : fStr [.int n] = if n.natAbs < 2 ^ 1900 then some (D.str (toString n)) else none := rfl
  rw [e, if_pos hb, num_str, show ((n.toNat : Nat) : Int) = n by omega]
  rfl
theorem mk_l8 {m : Str} (h : isMkS m = true) : m.length ≤ 8 := isMk_len h
theorem pair_x (w : Str) (hw : w.length ≤ 6) {a o : Str} (h : MkP a ∧ MkP o) {γ : Type} (k : Str → M γ) : (M.bind (M.opt (gCatS w ("(" : Str))) fun t4 => M.bind (M.opt (gCatS t4 a)) fun t6 => M.bind (M.opt (gCatS t6 ("," : Str))) fun t8 => M.bind (M.opt (gCatS t8 o)) fun t10 => M.bind (M.opt (gCatS t10 (")" : Str))) k) = k (mkS (Sl w ++ 40 :: (Sl a ++ 44 :: Sl o ++ [41]))) := by
  have h1 := mk_l8 h.1
  have h2 := mk_l8 h.2
  rw [gCatS_ok (by simp [lit_len]; omega)]; simp only [NFL]
  rw [gCatS_ok (by simp [lit_len]; omega)]; simp only [NFL]
  rw [gCatS_ok (by simp [lit_len]; omega)]; simp only [NFL]
  rw [gCatS_ok (by simp [lit_len]; omega)]; simp only [NFL]
  rw [gCatS_ok (by simp [lit_len]; omega)]; simp only [NFL]
  refine congrArg k (Sl_inj ?_)
  rw [Sl_mk]
  simp only [Sl_add, s40, s41, s44, Sl_one]
  simp
theorem grp_x (w : Str) (hw : w.length ≤ 6) {j : Str} (hj : j.length ≤ 27000) {γ : Type} (k : Str → M γ) : (M.bind (M.opt (gCatS w ("(" : Str))) fun t9 => M.bind (M.opt (gCatS t9 j)) fun t11 => M.bind (M.opt (gCatS t11 (")" : Str))) k) = k (mkS (Sl w ++ 40 :: (Sl j ++ [41]))) := by
  rw [gCatS_ok (by simp [lit_len]; omega)]; simp only [NFL]
  rw [gCatS_ok (by simp [lit_len]; omega)]; simp only [NFL]
  rw [gCatS_ok (by simp [lit_len]; omega)]; simp only [NFL]
  refine congrArg k (Sl_inj ?_)
  rw [Sl_mk]
  simp only [Sl_add, s40, s41, Sl_one]
  simp
theorem has_x {m : Str} (h : MkP m) {γ : Type} (k : Str → M γ) : (M.bind (M.opt (gCatS ("has(" : Str) m)) fun t3 => M.bind (M.opt (gCatS t3 (")" : Str))) k) = k (Ft.has m).x := by
  have h1 := mk_l8 h
  rw [gCatS_ok (by simp [lit_len]; omega)]; simp only [NFL]
  rw [gCatS_ok (by simp [lit_len]; omega)]; simp only [NFL]
  refine congrArg k (Sl_inj ?_)
  rw [Ft.Sl_x, Ft.cs]
  simp only [Sl_add, w_has, s41, Sl_one]
  simp
theorem many_x {n : Int} {m : Str} (h : MkP m) (hn : 1 ≤ n ∧ n ≤ B9) {γ : Type} (k : Str → M γ) : (M.bind (M.opt (gCatS ("many(" : Str) (mkS (TL.numL n.toNat)))) fun t4 => M.bind (M.opt (gCatS t4 ("," : Str))) fun t6 => M.bind (M.opt (gCatS t6 m)) fun t8 => M.bind (M.opt (gCatS t8 (")" : Str))) k) = k (Ft.many n m).x := by
  have h1 := mk_l8 h
  have h2 := (num_st hn).2
  have h3 : (TL.numL n.toNat).length ≤ 9 := by rw [← Sl_len, Sl_mk] at h2; exact h2
  rw [gCatS_ok (by simp [lit_len]; omega)]; simp only [NFL]
  rw [gCatS_ok (by simp [lit_len]; omega)]; simp only [NFL]
  rw [gCatS_ok (by simp [lit_len]; omega)]; simp only [NFL]
  rw [gCatS_ok (by simp [lit_len]; omega)]; simp only [NFL]
  refine congrArg k (Sl_inj ?_)
  rw [Ft.Sl_x, Ft.cs]
  simp only [Sl_add, w_many, s41, s44, Sl_one, Sl_mk]
  simp
theorem shown_obj : ∀ (r : Nat) (f : Ft), f.ok r → f.wf MkP B9 → f.am ≤ 1000 → methM "shown" (mtq_shown (g_p_Group_shown r)) resF f.o (M.pure []) = M.pure (.str f.x)
  | 0, f, h, _, _ => h.elim
  | r + 1, f, h, hw, ha => by
    cases f with
    | has m =>
      simp only [Ft.wf] at hw
      rw [Ft.o]
      refine meth_F (e := D.str) (v := (Ft.has m).x) (lkn (by decide +kernel) lkn0) mtq_shown_14 (ty_p_Has_shown _) ?_
      unfold f_p_Has_shown
      simp only [NFL, fo_14m, uS_told, has_x hw]
    | many n m =>
      simp only [Ft.wf] at hw
      rw [Ft.o]
      refine meth_F (e := D.str) (v := (Ft.many n m).x) (lkn (by decide +kernel) (lkn (by decide +kernel) lkn0)) mtq_shown_15 (ty_p_Many_shown _) ?_
      unfold f_p_Many_shown
      simp only [NFL, fo_15m, fo_15n, uS_told, uI_told, (num_st hw.1).1, many_x hw.2 hw.1]
    | bef a o =>
      simp only [Ft.wf] at hw
      rw [Ft.o]
      refine meth_F (e := D.str) (v := (Ft.bef a o).x) (lkn (by decide +kernel) (lkn (by decide +kernel) lkn0)) mtq_shown_17 (ty_p_Pair_shown _) ?_
      have e : methM "word" mt_word resF (.obj 17 [("one", .str a), ("other", .str o)]) (M.pure []) = M.pure (.str "before") := meth_F (e := D.str) (v := "before") (lkn (by decide +kernel) (lkn (by decide +kernel) lkn0)) mt_word_17 (ty_p_Before_word _) (by unfold f_p_Before_word; simp only [NFL])
      unfold f_p_Pair_shown
      simp only [NFL, e, fo_171, fo_172, uS_told, pair_x ("before" : Str) (by decide +kernel) hw]
      rw [Ft.x, Ft.cs]
    | und a o =>
      simp only [Ft.wf] at hw
      rw [Ft.o]
      refine meth_F (e := D.str) (v := (Ft.und a o).x) (lkn (by decide +kernel) (lkn (by decide +kernel) lkn0)) mtq_shown_18 (ty_p_Pair_shown _) ?_
      have e : methM "word" mt_word resF (.obj 18 [("one", .str a), ("other", .str o)]) (M.pure []) = M.pure (.str "under") := meth_F (e := D.str) (v := "under") (lkn (by decide +kernel) (lkn (by decide +kernel) lkn0)) mt_word_18 (ty_p_Under_word _) (by unfold f_p_Under_word; simp only [NFL])
      unfold f_p_Pair_shown
      simp only [NFL, e, fo_181, fo_182, uS_told, pair_x ("under" : Str) (by decide +kernel) hw]
      rw [Ft.x, Ft.cs]
    | bes a o =>
      simp only [Ft.wf] at hw
      rw [Ft.o]
      refine meth_F (e := D.str) (v := (Ft.bes a o).x) (lkn (by decide +kernel) (lkn (by decide +kernel) lkn0)) mtq_shown_19 (ty_p_Pair_shown _) ?_
      have e : methM "word" mt_word resF (.obj 19 [("one", .str a), ("other", .str o)]) (M.pure []) = M.pure (.str "beside") := meth_F (e := D.str) (v := "beside") (lkn (by decide +kernel) (lkn (by decide +kernel) lkn0)) mt_word_19 (ty_p_Beside_word _) (by unfold f_p_Beside_word; simp only [NFL])
      unfold f_p_Pair_shown
      simp only [NFL, e, fo_191, fo_192, uS_told, pair_x ("beside" : Str) (by decide +kernel) hw]
      rw [Ft.x, Ft.cs]
    | no p =>
      simp only [Ft.wf] at hw
      simp only [Ft.am] at ha
      have hx := Ft.x_len hw
      rw [show (Ft.no p).o = .obj 23 [("parts", .lst ([p].map Ft.o))] by rw [Ft.o]; rfl]
      refine meth_F (e := D.str) (v := (Ft.no p).x) (lkn (by decide +kernel) lkn0) mtq_shown_23 (ty_p_Group_shown (r + 1) _) ?_
      have e : methM "word" mt_word resF (.obj 23 [("parts", .lst ([p].map Ft.o))]) (M.pure []) = M.pure (.str "not") := meth_F (e := D.str) (v := "not") (lkn (by decide +kernel) lkn0) mt_word_23 (ty_p_Not_word _) (by unfold f_p_Not_word; simp only [NFL])
      have e0 : (uL some (.lst ([p].map Ft.o))) = some ([p].map Ft.o) := by rw [← eLiN]; exact (unL unAny).told _
      have hj := gJoin_x (ps := [p]) (by simpa using hw) (by simp) (by simp only [Ft.ams]; omega)
      have hc := Cj_x (ps := [p]) (by simpa using hw) (by simp) (by simp only [Ft.ams]; omega)
      unfold f_p_Group_shown
      simp only [NFL, e, uS_told, fo_23p, e0]
      rw [lc_mapf Ft.o Ft.x (fun q hq => by rw [List.mem_singleton.mp hq]; simp only [NFL, shown_obj r p h hw (by omega), uS_told]) (by simp)]
      simp only [NFL, hj, grp_x ("not" : Str) (by decide +kernel) hc]
      rw [Ft.x, Ft.cs, Sl_mk]
      rfl
    | all ps =>
      simp only [Ft.wf, Ft.wfs_iff] at hw
      simp only [Ft.am] at ha
      rw [show (Ft.all ps).o = .obj 21 [("parts", .lst (ps.map Ft.o))] by rw [Ft.o, Ft.os_map]]
      refine meth_F (e := D.str) (v := (Ft.all ps).x) (lkn (by decide +kernel) lkn0) mtq_shown_21 (ty_p_Group_shown (r + 1) _) ?_
      have e : methM "word" mt_word resF (.obj 21 [("parts", .lst (ps.map Ft.o))]) (M.pure []) = M.pure (.str "all") := meth_F (e := D.str) (v := "all") (lkn (by decide +kernel) lkn0) mt_word_21 (ty_p_All_word _) (by unfold f_p_All_word; simp only [NFL])
      have e0 : (uL some (.lst (ps.map Ft.o))) = some (ps.map Ft.o) := by rw [← eLiN]; exact (unL unAny).told _
      have hj := gJoin_x (ps := ps) hw.2 (by have := hw.1.2; omega) (by omega)
      have hc := Cj_x (ps := ps) hw.2 (by have := hw.1.2; omega) (by omega)
      unfold f_p_Group_shown
      simp only [NFL, e, uS_told, fo_21p, e0]
      rw [lc_mapf Ft.o Ft.x (fun q hq => by simp only [NFL, shown_obj r q (h.2 q hq) (hw.2 q hq) (by have := Ft.ams_le hq; omega), uS_told]) (by omega)]
      simp only [NFL, hj, grp_x ("all" : Str) (by decide +kernel) hc]
      rw [Ft.x, Ft.cs, Sl_mk, Ft.css_map]
    | any ps =>
      simp only [Ft.wf, Ft.wfs_iff] at hw
      simp only [Ft.am] at ha
      rw [show (Ft.any ps).o = .obj 22 [("parts", .lst (ps.map Ft.o))] by rw [Ft.o, Ft.os_map]]
      refine meth_F (e := D.str) (v := (Ft.any ps).x) (lkn (by decide +kernel) lkn0) mtq_shown_22 (ty_p_Group_shown (r + 1) _) ?_
      have e : methM "word" mt_word resF (.obj 22 [("parts", .lst (ps.map Ft.o))]) (M.pure []) = M.pure (.str "any") := meth_F (e := D.str) (v := "any") (lkn (by decide +kernel) lkn0) mt_word_22 (ty_p_Any_word _) (by unfold f_p_Any_word; simp only [NFL])
      have e0 : (uL some (.lst (ps.map Ft.o))) = some (ps.map Ft.o) := by rw [← eLiN]; exact (unL unAny).told _
      have hj := gJoin_x (ps := ps) hw.2 (by have := hw.1.2; omega) (by omega)
      have hc := Cj_x (ps := ps) hw.2 (by have := hw.1.2; omega) (by omega)
      unfold f_p_Group_shown
      simp only [NFL, e, uS_told, fo_22p, e0]
      rw [lc_mapf Ft.o Ft.x (fun q hq => by simp only [NFL, shown_obj r q (h.2 q hq) (hw.2 q hq) (by have := Ft.ams_le hq; omega), uS_told]) (by omega)]
      simp only [NFL, hj, grp_x ("any" : Str) (by decide +kernel) hc]
      rw [Ft.x, Ft.cs, Sl_mk, Ft.css_map]

end PM
set_option maxHeartbeats 1000000
namespace PM
open PySem PySem.Spec PyProof.Rows L2
theorem gJoin_w {ws : List Str} (h : ∀ w ∈ ws, w.length ≤ 9) (hl : ws.length ≤ 6) : gJoin ("," : Str) ws = some (mkS (Cj (ws.map Sl))) := by
  have hs : ∀ {ws : List Str}, (∀ w ∈ ws, w.length ≤ 9) → (ws.map (·.length)).sum ≤ 9 * ws.length := fun {ws} => by
    induction ws with
    | nil => intro _; simp
    | cons a r ih =>
      intro h
      have h1 := ih fun w hw => h w (List.mem_cons_of_mem _ hw)
      have h2 := h a (by simp)
      rw [List.map_cons, List.sum_cons, List.length_cons]
      omega
  have h1 := hs h
  unfold gJoin
  rw [if_pos (by rw [show ("," : Str).length = 1 by decide +kernel]; omega)]
  exact congrArg some (Sl_inj (by rw [Cj_join, Sl_mk]))
theorem text_ok : ∀ (r : Nat) (f : Ft), f.ok r → f.wf MkP B9 → f.am ≤ 1000 → f_l_text r f.t = M.pure f.x
  | 0, f, h, _, _ => h.elim
  | r + 1, f, h, hw, ha => by
    unfold f_l_text
    cases f with
    | has m =>
      simp only [Ft.wf] at hw
      have h1 := mk_l8 hw
      unfold Ft.t
      simp only [NFL, ix0, wd_has_many, Bool.false_eq_true, if_false, inG3, show decide (("has" : Str) ∈ G3) = false by decide +kernel, uS_told, cut1]
      have e0 : (uTL uS) (.tup [.str m]) = some [m] := (unTL unS).told [m]
      have ej : gJoin ("," : Str) [m] = some (mkS (Cj [Sl m])) := gJoin_w (ws := [m]) (by simpa using by omega) (by simp)
      simp only [NFL, e0, ej, grp_x ("has" : Str) (by decide +kernel) (j := mkS (Cj [Sl m])) (by rw [← Sl_len, Sl_mk]; simp [Cj]; rw [Sl_len]; omega)]
      rw [Ft.x, Ft.cs, Sl_mk]
      rfl
    | many n m =>
      simp only [Ft.wf] at hw
      unfold Ft.t
      simp only [NFL, ix0, ix1, ix2, wd_many_many, if_true, uS_told, uI_told, (num_st hw.1).1, many_x hw.2 hw.1]
    | bef a o =>
      simp only [Ft.wf] at hw
      have h1 := mk_l8 hw.1
      have h2 := mk_l8 hw.2
      unfold Ft.t
      simp only [NFL, ix0, wd_before_many, Bool.false_eq_true, if_false, inG3, show decide (("before" : Str) ∈ G3) = false by decide +kernel, uS_told, cut1]
      have e0 : (uTL uS) (.tup [.str a, .str o]) = some [a, o] := (unTL unS).told [a, o]
      have ej : gJoin ("," : Str) [a, o] = some (mkS (Cj [Sl a, Sl o])) := gJoin_w (ws := [a, o]) (by simpa using ⟨by omega, by omega⟩) (by simp)
      simp only [NFL, e0, ej, grp_x ("before" : Str) (by decide +kernel) (j := mkS (Cj [Sl a, Sl o])) (by rw [← Sl_len, Sl_mk]; simp [Cj]; rw [Sl_len, Sl_len]; omega)]
      rw [Ft.x, Ft.cs, Sl_mk]
      rfl
    | und a o =>
      simp only [Ft.wf] at hw
      have h1 := mk_l8 hw.1
      have h2 := mk_l8 hw.2
      unfold Ft.t
      simp only [NFL, ix0, wd_under_many, Bool.false_eq_true, if_false, inG3, show decide (("under" : Str) ∈ G3) = false by decide +kernel, uS_told, cut1]
      have e0 : (uTL uS) (.tup [.str a, .str o]) = some [a, o] := (unTL unS).told [a, o]
      have ej : gJoin ("," : Str) [a, o] = some (mkS (Cj [Sl a, Sl o])) := gJoin_w (ws := [a, o]) (by simpa using ⟨by omega, by omega⟩) (by simp)
      simp only [NFL, e0, ej, grp_x ("under" : Str) (by decide +kernel) (j := mkS (Cj [Sl a, Sl o])) (by rw [← Sl_len, Sl_mk]; simp [Cj]; rw [Sl_len, Sl_len]; omega)]
      rw [Ft.x, Ft.cs, Sl_mk]
      rfl
    | bes a o =>
      simp only [Ft.wf] at hw
      have h1 := mk_l8 hw.1
      have h2 := mk_l8 hw.2
      unfold Ft.t
      simp only [NFL, ix0, wd_beside_many, Bool.false_eq_true, if_false, inG3, show decide (("beside" : Str) ∈ G3) = false by decide +kernel, uS_told, cut1]
      have e0 : (uTL uS) (.tup [.str a, .str o]) = some [a, o] := (unTL unS).told [a, o]
      have ej : gJoin ("," : Str) [a, o] = some (mkS (Cj [Sl a, Sl o])) := gJoin_w (ws := [a, o]) (by simpa using ⟨by omega, by omega⟩) (by simp)
      simp only [NFL, e0, ej, grp_x ("beside" : Str) (by decide +kernel) (j := mkS (Cj [Sl a, Sl o])) (by rw [← Sl_len, Sl_mk]; simp [Cj]; rw [Sl_len, Sl_len]; omega)]
      rw [Ft.x, Ft.cs, Sl_mk]
      rfl
    | no p =>
      simp only [Ft.wf] at hw
      simp only [Ft.am] at ha
      rw [show (Ft.no p).t = .tup (.str "not" :: [p].map Ft.t) by rw [Ft.t]; rfl]
      simp only [NFL, ix0, wd_not_many, Bool.false_eq_true, if_false, inG3, show decide (("not" : Str) ∈ G3) = true by decide +kernel, if_true, uS_told, cut1, uTAny_told]
      rw [lc_mapf Ft.t Ft.x (fun q hq => by rw [List.mem_singleton.mp hq]; exact text_ok r p h hw (by omega)) (by simp)]
      have hj := gJoin_x (ps := [p]) (by simpa using hw) (by simp) (by simp only [Ft.ams]; omega)
      have hc := Cj_x (ps := [p]) (by simpa using hw) (by simp) (by simp only [Ft.ams]; omega)
      simp only [NFL, hj, grp_x ("not" : Str) (by decide +kernel) hc]
      rw [Ft.x, Ft.cs, Sl_mk]
      rfl
    | all ps =>
      simp only [Ft.wf, Ft.wfs_iff] at hw
      simp only [Ft.am] at ha
      rw [show (Ft.all ps).t = .tup (.str "all" :: ps.map Ft.t) by rw [Ft.t, Ft.tts_map]]
      simp only [NFL, ix0, wd_all_many, Bool.false_eq_true, if_false, inG3, show decide (("all" : Str) ∈ G3) = true by decide +kernel, if_true, uS_told, cut1, uTAny_told]
      rw [lc_mapf Ft.t Ft.x (fun q hq => text_ok r q (h.2 q hq) (hw.2 q hq) (by have := Ft.ams_le hq; omega)) (by omega)]
      have hj := gJoin_x (ps := ps) hw.2 (by have := hw.1.2; omega) (by omega)
      have hc := Cj_x (ps := ps) hw.2 (by have := hw.1.2; omega) (by omega)
      simp only [NFL, hj, grp_x ("all" : Str) (by decide +kernel) hc]
      rw [Ft.x, Ft.cs, Sl_mk, Ft.css_map]
    | any ps =>
      simp only [Ft.wf, Ft.wfs_iff] at hw
      simp only [Ft.am] at ha
      rw [show (Ft.any ps).t = .tup (.str "any" :: ps.map Ft.t) by rw [Ft.t, Ft.tts_map]]
      simp only [NFL, ix0, wd_any_many, Bool.false_eq_true, if_false, inG3, show decide (("any" : Str) ∈ G3) = true by decide +kernel, if_true, uS_told, cut1, uTAny_told]
      rw [lc_mapf Ft.t Ft.x (fun q hq => text_ok r q (h.2 q hq) (hw.2 q hq) (by have := Ft.ams_le hq; omega)) (by omega)]
      have hj := gJoin_x (ps := ps) hw.2 (by have := hw.1.2; omega) (by omega)
      have hc := Cj_x (ps := ps) hw.2 (by have := hw.1.2; omega) (by omega)
      simp only [NFL, hj, grp_x ("any" : Str) (by decide +kernel) hc]
      rw [Ft.x, Ft.cs, Sl_mk, Ft.css_map]
mutual
theorem Ft.wf_mono {P Q : Str → Prop} {B C : Int} (hP : ∀ m, P m → Q m) (hB : B ≤ C) {f : Ft} (h : f.wf P B) : f.wf Q C := by
  cases f with
  | has m => simp only [Ft.wf] at h ⊢; exact hP _ h
  | many n m => simp only [Ft.wf] at h ⊢; exact ⟨⟨h.1.1, by omega⟩, hP _ h.2⟩
  | bef a o => simp only [Ft.wf] at h ⊢; exact ⟨hP _ h.1, hP _ h.2⟩
  | und a o => simp only [Ft.wf] at h ⊢; exact ⟨hP _ h.1, hP _ h.2⟩
  | bes a o => simp only [Ft.wf] at h ⊢; exact ⟨hP _ h.1, hP _ h.2⟩
  | all ps => simp only [Ft.wf] at h ⊢; exact ⟨h.1, Ft.wfs_mono hP hB h.2⟩
  | any ps => simp only [Ft.wf] at h ⊢; exact ⟨h.1, Ft.wfs_mono hP hB h.2⟩
  | no p => simp only [Ft.wf] at h ⊢; exact Ft.wf_mono hP hB h
theorem Ft.wfs_mono {P Q : Str → Prop} {B C : Int} (hP : ∀ m, P m → Q m) (hB : B ≤ C) {ps : List Ft} (h : Ft.wfs P B ps) : Ft.wfs Q C ps := by
  cases ps with
  | nil => simp only [Ft.wfs]
  | cons p ps => simp only [Ft.wfs] at h ⊢; exact ⟨Ft.wf_mono hP hB h.1, Ft.wfs_mono hP hB h.2⟩
end
mutual
def Ft.mks : Ft → List Str
  | .has m => [m]
  | .many _ m => [m]
  | .bef a o => [a, o]
  | .und a o => [a, o]
  | .bes a o => [a, o]
  | .all ps => Ft.mkss ps
  | .any ps => Ft.mkss ps
  | .no p => p.mks
def Ft.mkss : List Ft → List Str
  | [] => []
  | p :: ps => p.mks ++ Ft.mkss ps
end
structure MkOf (l ms : List Str) : Prop where
  nd : ms.Nodup
  le : ms.Pairwise fun a b => leS a b = true
  mem : ∀ x, x ∈ ms ↔ x ∈ l
  len : ms.length ≤ l.length
theorem MkOf.uniq {l l' ms ms' : List Str} (h : MkOf l ms) (h' : MkOf l' ms') (e : ∀ x, x ∈ l ↔ x ∈ l') : ms = ms' :=
  List.Perm.eq_of_pairwise (fun a b _ _ h1 h2 => leS_anti h1 h2) h.le h'.le ((List.perm_ext_iff_of_nodup h.nd h'.nd).mpr fun x => (h.mem x).trans ((e x).trans (h'.mem x).symm))
theorem MkOf.srt {l ks : List Str} (hn : ks.Nodup) (hm : ∀ x, x ∈ ks ↔ x ∈ l) (hl : ks.length ≤ l.length) : MkOf l (srtS ks) :=
  ⟨(srtS_perm ks).nodup_iff.mpr hn, srtS_le ks, fun x => ((srtS_perm ks).mem_iff).trans (hm x), by rw [(srtS_perm ks).length_eq]; exact hl⟩
abbrev kv (k : Str) : Key × D := (.inr k, .bl true)
theorem keysS_kv : ∀ ks : List Str, keysS (ks.map kv) = some ks
  | [] => rfl
  | k :: r => by rw [List.map_cons, keysS, keysS_kv r]; rfl
theorem put_kv (ks : List Str) (k : Str) : putD (ks.map kv) (.inr k) (.bl true) = (if k ∈ ks then ks else ks ++ [k]).map kv := by
  have ha : ((ks.map kv).any fun x => decide (x.1 = (.inr k : Key))) = decide (k ∈ ks) := by
    induction ks with
    | nil => rfl
    | cons a r ih =>
      rw [List.map_cons, List.any_cons, ih]
      by_cases h : a = k
      · subst h; simp
      · have h2 : ¬ k = a := fun e => h e.symm
        simp [h, h2]
  unfold putD
  rw [ha]
  by_cases h : k ∈ ks
  · rw [decide_eq_true h, if_pos rfl, if_pos h, List.map_map]
    refine List.map_congr_left fun x _ => ?_
    simp only [Function.comp_apply]
    split
    · rename_i e
      exact Prod.ext rfl rfl
    · rfl
  · rw [decide_eq_false h, if_neg (by simp), if_neg h, List.map_append]
    rfl
theorem put_loop {τ' : Type} {r : Nat} {A : List D → M (List Str)} {B : D → M (List Str)} : ∀ (ms ks : List Str), ks.Nodup → ks.length + ms.length ≤ 1000 →
    ∃ ks' : List Str, forO (τ' := τ') (fun x s => f_b2_p_sorted_marks r A B x s) ms (ks.map kv) = M.pure (.nx (ks'.map kv)) ∧ ks'.Nodup ∧ (∀ x, x ∈ ks' ↔ x ∈ ks ∨ x ∈ ms) ∧ ks'.length ≤ ks.length + ms.length
  | [], ks, hn, _ => ⟨ks, rfl, hn, by simp, by simp⟩
  | m :: ms, ks, hn, hl => by
    rw [List.length_cons] at hl
    have e : f_b2_p_sorted_marks r A B m (ks.map kv) = M.pure (.nx ((if m ∈ ks then ks else ks ++ [m]).map kv)) := by
      unfold f_b2_p_sorted_marks
      have : gPut (ks.map kv) (D.str m) (D.bl true) = some (putD (ks.map kv) (.inr m) (.bl true)) := by
        unfold gPut
        rw [if_pos (by rw [List.length_map]; omega)]
        rfl
      simp only [NFL, this, put_kv]
    have hn' : (if m ∈ ks then ks else ks ++ [m]).Nodup := by
      split
      · exact hn
      · rename_i h
        rw [List.nodup_append]
        exact ⟨hn, by simp, fun a ha b hb => by simp at hb; subst hb; rintro rfl; exact h ha⟩
    have hl' : (if m ∈ ks then ks else ks ++ [m]).length ≤ ks.length + 1 := by split <;> simp
    obtain ⟨ks', h1, h2, h3, h4⟩ := put_loop (A := A) (B := B) (r := r) ms _ hn' (by omega)
    refine ⟨ks', by rw [forO_nx (.inl e)]; exact h1, h2, fun x => ?_, by rw [List.length_cons]; omega⟩
    rw [h3]
    split
    · rename_i h
      rw [List.mem_cons]
      constructor
      · rintro (h | h)
        · exact .inl h
        · exact .inr (.inr h)
      · rintro (h' | rfl | h')
        · exact .inl h'
        · exact .inl h
        · exact .inr h'
    · simp only [List.mem_append, List.mem_cons, List.not_mem_nil, or_false]
      rw [or_assoc]
theorem seen_loop {τ' : Type} {r : Nat} {A : List D → M (List Str)} {B : D → M (List Str)} : ∀ (ps : List Ft) (ks : List Str), (∀ p ∈ ps, ∃ ms : List Str, methM "marks" (mtq_marks (g_p_sorted_marks r)) resF p.o (M.pure []) = M.pure (eL D.str ms) ∧ MkOf p.mks ms) → ks.Nodup → ks.length + (Ft.mkss ps).length ≤ 1000 →
    ∃ ks' : List Str, forO (τ' := τ') (fun x s => f_b1_p_sorted_marks r A B x s) (ps.map Ft.o) (ks.map kv) = M.pure (.nx (ks'.map kv)) ∧ ks'.Nodup ∧ (∀ x, x ∈ ks' ↔ x ∈ ks ∨ x ∈ Ft.mkss ps) ∧ ks'.length ≤ ks.length + (Ft.mkss ps).length
  | [], ks, _, hn, _ => ⟨ks, rfl, hn, by simp [Ft.mkss], by simp⟩
  | p :: ps, ks, hp, hn, hl => by
    rw [show Ft.mkss (p :: ps) = p.mks ++ Ft.mkss ps by rw [Ft.mkss], List.length_append] at hl
    obtain ⟨ms, e1, hm⟩ := hp p (by simp)
    have hml := hm.len
    obtain ⟨k1, f1, f2, f3, f4⟩ := put_loop (τ' := List (Key × D)) (A := A) (B := B) (r := r) ms ks hn (by omega)
    have e : f_b1_p_sorted_marks r A B p.o (ks.map kv) = M.pure (.nx (k1.map kv)) := by
      unfold f_b1_p_sorted_marks
      have e2 : (uL uS) (eL D.str ms) = some ms := (unL unS).told ms
      simp only [NFL, e1, e2, f1]
    obtain ⟨k2, g1, g2, g3, g4⟩ := seen_loop (A := A) (B := B) (r := r) ps k1 (fun q hq => hp q (List.mem_cons_of_mem _ hq)) f2 (by omega)
    refine ⟨k2, by rw [List.map_cons, forO_nx (.inl e)]; exact g1, g2, fun x => ?_, by rw [show Ft.mkss (p :: ps) = p.mks ++ Ft.mkss ps by rw [Ft.mkss], List.length_append]; omega⟩
    rw [g3, f3, hm.mem, show Ft.mkss (p :: ps) = p.mks ++ Ft.mkss ps by rw [Ft.mkss], List.mem_append, or_assoc]
theorem grp_marks {r k : Nat} {ps : List Ft} (hp : ∀ p ∈ ps, ∃ ms : List Str, methM "marks" (mtq_marks (g_p_sorted_marks r)) resF p.o (M.pure []) = M.pure (eL D.str ms) ∧ MkOf p.mks ms) (hl : (Ft.mkss ps).length ≤ 60)
    (hfld : fldM fl "parts" (.obj k [("parts", .lst (ps.map Ft.o))]) = M.pure (.lst (ps.map Ft.o))) : ∃ ms : List Str, f_p_Group_marks (r + 2) (.obj k [("parts", .lst (ps.map Ft.o))]) = M.pure ms ∧ MkOf (Ft.mkss ps) ms := by
  obtain ⟨ks, e, h1, h2, h3⟩ := seen_loop (τ' := Unit) (A := (fg_p_sorted_marks r).1) (B := (fg_p_sorted_marks r).2) ps [] hp (by simp) (by simp; omega)
  simp only [List.length_nil, Nat.zero_add, List.not_mem_nil, false_or] at h2 h3
  have e0 : (uL some (.lst (ps.map Ft.o))) = some (ps.map Ft.o) := by rw [← eLiN]; exact (unL unAny).told _
  have es : gSortD (ks.map kv) = some (srtS ks) := by unfold gSortD; rw [keysS_kv, Option.bind_some, if_pos (by omega)]
  refine ⟨srtS ks, ?_, MkOf.srt h1 h2 h3⟩
  show s_p_Group_marks (r + 1) (fg_p_sorted_marks (r + 1)).1 (fg_p_sorted_marks (r + 1)).2 _ = _
  unfold s_p_Group_marks
  have e2 : (fg_p_sorted_marks (r + 1)).1 (ps.map Ft.o) = M.pure (srtS ks) := by
    show s_p_sorted_marks r (fg_p_sorted_marks r).1 (fg_p_sorted_marks r).2 (ps.map Ft.o) = _
    unfold s_p_sorted_marks
    rw [List.map_nil] at e
    simp only [NFL, e, es]
  simp only [NFL, hfld, e0, e2]
theorem pair_marks {k : Nat} {a o : Str} (h1 : fldM fl "one" (.obj k [("one", .str a), ("other", .str o)]) = M.pure (.str a)) (h2 : fldM fl "other" (.obj k [("one", .str a), ("other", .str o)]) = M.pure (.str o)) :
    ∃ ms : List Str, f_p_Pair_marks (.obj k [("one", .str a), ("other", .str o)]) = M.pure ms ∧ MkOf [a, o] ms := by
  have e : lcO (fun x7 => M.pure (!decide (x7 = a))) (fun x7 => M.pure x7) [o] [] = M.pure (if o = a then [] else [o]) := by
    refine (lc_filt (fun x => !decide (x = a)) (fun x => x) (xs := [o]) (fun x _ => ⟨rfl, fun _ => rfl⟩) (by simp)).trans ?_
    by_cases h : o = a
    · simp [h]
    · simp [h]
  have hc : gCatL [a] (if o = a then [] else [o]) = some (if o = a then [a] else [a, o]) := by
    split <;> rfl
  have hl : (if o = a then [a] else [a, o]).length ≤ 2 := by split <;> simp
  have es : gSrtS (if o = a then [a] else [a, o]) = some (srtS (if o = a then [a] else [a, o])) := by unfold gSrtS; rw [if_pos (by omega)]
  refine ⟨srtS (if o = a then [a] else [a, o]), ?_, MkOf.srt ?_ ?_ ?_⟩
  · unfold f_p_Pair_marks
    simp only [NFL, h1, h2, uS_told, e, hc, es]
  · split
    · simp
    · rename_i h
      simp only [List.nodup_cons, List.mem_singleton, List.not_mem_nil, not_false_eq_true, List.nodup_nil, and_true]
      exact fun e => h e.symm
  · intro x
    split
    · rename_i h; subst h; simp
    · rfl
  · exact hl
theorem one_mk (m : Str) : MkOf [m] [m] := ⟨by simp, by simp, fun _ => Iff.rfl, Nat.le_refl _⟩
theorem mkss_le : ∀ {ps : List Ft} {p : Ft}, p ∈ ps → p.mks.length ≤ (Ft.mkss ps).length
  | q :: ps, p, h => by
    rw [show Ft.mkss (q :: ps) = q.mks ++ Ft.mkss ps by rw [Ft.mkss], List.length_append]
    rcases List.mem_cons.mp h with rfl | h
    · omega
    · have := mkss_le h
      omega
theorem marks_obj {P : Str → Prop} {B : Int} : ∀ (r : Nat) (f : Ft), f.wf P B → 2 * f.dp ≤ r + 2 → f.mks.length ≤ 60 → ∃ ms : List Str, methM "marks" (mtq_marks (g_p_sorted_marks r)) resF f.o (M.pure []) = M.pure (eL D.str ms) ∧ MkOf f.mks ms := by
  intro r
  induction r using Nat.strongRecOn with
  | _ r ih =>
    intro f hw hd hl
    have grp : ∀ {k : Nat} {ps : List Ft}, Ft.mkss ps = f.mks → 2 * (Ft.dps ps + 1) ≤ r + 2 → 1 ≤ Ft.dps ps → (∀ p ∈ ps, p.wf P B) → fldM fl "parts" (.obj k [("parts", .lst (ps.map Ft.o))]) = M.pure (.lst (ps.map Ft.o)) → ∃ ms : List Str, f_p_Group_marks r (.obj k [("parts", .lst (ps.map Ft.o))]) = M.pure ms ∧ MkOf f.mks ms := fun {k ps} hm h1 h2 hws hf => by
      obtain ⟨r', rfl⟩ : ∃ r', r = r' + 2 := ⟨r - 2, by omega⟩
      rw [← hm]
      refine grp_marks (r := r') (fun p hp => ih r' (by omega) p (hws p hp) (by have := Ft.dps_le hp; omega) (by have := mkss_le hp; rw [hm] at this; omega)) (by rw [hm]; exact hl) hf
    cases f with
    | has m =>
      rw [Ft.o, Ft.mks]
      refine ⟨[m], ?_, one_mk m⟩
      refine meth_F (e := eL D.str) (v := [m]) (lkn (by decide +kernel) lkn0) mtq_marks_14 (ty_p_Has_marks _) ?_
      unfold f_p_Has_marks
      simp only [NFL, fo_14m, uS_told]
    | many n m =>
      rw [Ft.o, Ft.mks]
      refine ⟨[m], ?_, one_mk m⟩
      refine meth_F (e := eL D.str) (v := [m]) (lkn (by decide +kernel) (lkn (by decide +kernel) lkn0)) mtq_marks_15 (ty_p_Many_marks _) ?_
      unfold f_p_Many_marks
      simp only [NFL, fo_15m, uS_told]
    | bef a o =>
      rw [Ft.o, Ft.mks]
      obtain ⟨ms, e, h⟩ := pair_marks (fo_171 (.str a) (.str o)) (fo_172 (.str a) (.str o))
      exact ⟨ms, meth_F (e := eL D.str) (v := ms) (lkn (by decide +kernel) (lkn (by decide +kernel) lkn0)) mtq_marks_17 (ty_p_Pair_marks _) e, h⟩
    | und a o =>
      rw [Ft.o, Ft.mks]
      obtain ⟨ms, e, h⟩ := pair_marks (fo_181 (.str a) (.str o)) (fo_182 (.str a) (.str o))
      exact ⟨ms, meth_F (e := eL D.str) (v := ms) (lkn (by decide +kernel) (lkn (by decide +kernel) lkn0)) mtq_marks_18 (ty_p_Pair_marks _) e, h⟩
    | bes a o =>
      rw [Ft.o, Ft.mks]
      obtain ⟨ms, e, h⟩ := pair_marks (fo_191 (.str a) (.str o)) (fo_192 (.str a) (.str o))
      exact ⟨ms, meth_F (e := eL D.str) (v := ms) (lkn (by decide +kernel) (lkn (by decide +kernel) lkn0)) mtq_marks_19 (ty_p_Pair_marks _) e, h⟩
    | no p =>
      have h1 := Ft.dp_pos p
      obtain ⟨ms, e, h⟩ := grp (k := 23) (ps := [p]) (by rw [Ft.mks]; simp [Ft.mkss]) (by simp only [Ft.dp] at hd; simp only [Ft.dps]; omega) (by simp only [Ft.dps]; omega) (by simp only [Ft.wf] at hw; simpa using hw) (fo_23p _)
      rw [show (Ft.no p).o = .obj 23 [("parts", .lst ([p].map Ft.o))] by rw [Ft.o]; rfl]
      exact ⟨ms, meth_F (e := eL D.str) (v := ms) (lkn (by decide +kernel) lkn0) mtq_marks_23 (ty_p_Group_marks r _) e, h⟩
    | all ps =>
      rw [show (Ft.all ps).o = .obj 21 [("parts", .lst (ps.map Ft.o))] by rw [Ft.o, Ft.os_map]]
      simp only [Ft.wf, Ft.wfs_iff] at hw
      obtain ⟨ms, e, h⟩ := grp (k := 21) (ps := ps) (by rw [Ft.mks]) (by simp only [Ft.dp] at hd; omega) (by
        cases ps with
        | nil => simp at hw
        | cons p ps => have := Ft.dp_pos p; simp only [Ft.dps]; omega) hw.2 (fo_21p _)
      exact ⟨ms, meth_F (e := eL D.str) (v := ms) (lkn (by decide +kernel) lkn0) mtq_marks_21 (ty_p_Group_marks r _) e, h⟩
    | any ps =>
      rw [show (Ft.any ps).o = .obj 22 [("parts", .lst (ps.map Ft.o))] by rw [Ft.o, Ft.os_map]]
      simp only [Ft.wf, Ft.wfs_iff] at hw
      obtain ⟨ms, e, h⟩ := grp (k := 22) (ps := ps) (by rw [Ft.mks]) (by simp only [Ft.dp] at hd; omega) (by
        cases ps with
        | nil => simp at hw
        | cons p ps => have := Ft.dp_pos p; simp only [Ft.dps]; omega) hw.2 (fo_22p _)
      exact ⟨ms, meth_F (e := eL D.str) (v := ms) (lkn (by decide +kernel) lkn0) mtq_marks_22 (ty_p_Group_marks r _) e, h⟩
mutual
theorem Ft.mks_len {P : Str → Prop} {B : Int} {f : Ft} (h : f.wf P B) : f.mks.length ≤ 2 * f.am := by
  cases f with
  | has m => simp [Ft.mks, Ft.am]
  | many n m => simp [Ft.mks, Ft.am]
  | bef a o => simp [Ft.mks, Ft.am]
  | und a o => simp [Ft.mks, Ft.am]
  | bes a o => simp [Ft.mks, Ft.am]
  | all ps => simp only [Ft.wf] at h; have := Ft.mkss_len h.2; simp only [Ft.mks, Ft.am]; omega
  | any ps => simp only [Ft.wf] at h; have := Ft.mkss_len h.2; simp only [Ft.mks, Ft.am]; omega
  | no p => simp only [Ft.wf] at h; have := Ft.mks_len h; simp only [Ft.mks, Ft.am]; omega
theorem Ft.mkss_len {P : Str → Prop} {B : Int} {ps : List Ft} (h : Ft.wfs P B ps) : (Ft.mkss ps).length ≤ 2 * Ft.ams ps := by
  cases ps with
  | nil => simp [Ft.mkss]
  | cons p ps =>
    simp only [Ft.wfs] at h
    have h1 := Ft.mks_len h.1
    have h2 := Ft.mkss_len h.2
    simp only [Ft.mkss, Ft.ams, List.length_append]
    omega
end

end PM
set_option maxHeartbeats 1000000
namespace PM
open PySem PySem.Spec PyProof.Rows L2
theorem inB2 (w : Str) : D.in? (D.str w) ((eTL iN) (List.map D.str [("beside" : Str), ("not" : Str)])) = some (decide (w ∈ [("beside" : Str), "not"])) := by
  have := in?_decT eqS (by decide) w [("beside" : Str), "not"]
  exact this
theorem ninA2 (w : Str) : gNinD (D.str w) ((eTL iN) (List.map D.str [("all" : Str), ("any" : Str)])) = some (!decide (w ∈ [("all" : Str), "any"])) := by
  have h : D.in? (D.str w) ((eTL iN) (List.map D.str [("all" : Str), ("any" : Str)])) = some (decide (w ∈ [("all" : Str), "any"])) := in?_decT eqS (by decide) w [("all" : Str), "any"]
  unfold gNinD
  rw [h]
  rfl
theorem grow_all_gr {ps : List Ft} : (ps.map Ft.gr).all id = true ↔ (Ft.all ps).grow := by
  rw [Ft.grow, Ft.growA_iff, List.all_map, List.all_eq_true]
  exact ⟨fun h p hp => Ft.gr_iff.mp (h p hp), fun h p hp => Ft.gr_iff.mpr (h p hp)⟩
theorem grow_any_gr {ps : List Ft} : (ps.map Ft.gr).all id = true ↔ (Ft.any ps).grow := by
  rw [Ft.grow, Ft.growA_iff, List.all_map, List.all_eq_true]
  exact ⟨fun h p hp => Ft.gr_iff.mp (h p hp), fun h p hp => Ft.gr_iff.mpr (h p hp)⟩
theorem grows_term : ∀ (r : Nat) (f : Ft), f.ok r → f_l_grows r f.t = M.pure f.gr
  | 0, f, h => h.elim
  | r + 1, f, h => by
    have b1 : decide (("has" : Str) ∈ [("beside" : Str), "not"]) = false := by decide +kernel
    have b2 : decide (("many" : Str) ∈ [("beside" : Str), "not"]) = false := by decide +kernel
    have b3 : decide (("before" : Str) ∈ [("beside" : Str), "not"]) = false := by decide +kernel
    have b4 : decide (("under" : Str) ∈ [("beside" : Str), "not"]) = false := by decide +kernel
    have b5 : decide (("beside" : Str) ∈ [("beside" : Str), "not"]) = true := by decide +kernel
    have b6 : decide (("not" : Str) ∈ [("beside" : Str), "not"]) = true := by decide +kernel
    have b7 : decide (("all" : Str) ∈ [("beside" : Str), "not"]) = false := by decide +kernel
    have b8 : decide (("any" : Str) ∈ [("beside" : Str), "not"]) = false := by decide +kernel
    have a1 : decide (("has" : Str) ∈ [("all" : Str), "any"]) = false := by decide +kernel
    have a2 : decide (("many" : Str) ∈ [("all" : Str), "any"]) = false := by decide +kernel
    have a3 : decide (("before" : Str) ∈ [("all" : Str), "any"]) = false := by decide +kernel
    have a4 : decide (("under" : Str) ∈ [("all" : Str), "any"]) = false := by decide +kernel
    have a7 : decide (("all" : Str) ∈ [("all" : Str), "any"]) = true := by decide +kernel
    have a8 : decide (("any" : Str) ∈ [("all" : Str), "any"]) = true := by decide +kernel
    unfold f_l_grows
    cases f with
    | has m =>
      unfold Ft.t
      simp only [NFL, ix0, inB2, ninA2, b1, a1, Bool.not_false, Bool.false_eq_true, if_false, if_true]
      exact congrArg M.pure (Ft.gr_of (by simp [Ft.grow]))
    | many n m =>
      unfold Ft.t
      simp only [NFL, ix0, inB2, ninA2, b2, a2, Bool.not_false, Bool.false_eq_true, if_false, if_true]
      exact congrArg M.pure (Ft.gr_of (by simp [Ft.grow]))
    | bef a o =>
      unfold Ft.t
      simp only [NFL, ix0, inB2, ninA2, b3, a3, Bool.not_false, Bool.false_eq_true, if_false, if_true]
      exact congrArg M.pure (Ft.gr_of (by simp [Ft.grow]))
    | und a o =>
      unfold Ft.t
      simp only [NFL, ix0, inB2, ninA2, b4, a4, Bool.not_false, Bool.false_eq_true, if_false, if_true]
      exact congrArg M.pure (Ft.gr_of (by simp [Ft.grow]))
    | bes a o =>
      unfold Ft.t
      simp only [NFL, ix0, inB2, b5, if_true]
      exact congrArg M.pure (Ft.gr_of (by simp [Ft.grow]))
    | no p =>
      unfold Ft.t
      simp only [NFL, ix0, inB2, b6, if_true]
      exact congrArg M.pure (Ft.gr_of (by simp [Ft.grow]))
    | all ps =>
      unfold Ft.t
      simp only [NFL, ix0, inB2, ninA2, b7, a7, Bool.not_true, Bool.false_eq_true, if_false, cut1, uTAny_told]
      rw [Ft.tts_map, lc_mapf Ft.t Ft.gr (fun p hp => grows_term r p (h.2 p hp)) (by have := h.1; omega)]
      simp only [NFL]
      exact congrArg M.pure (Ft.gr_of grow_all_gr)
    | any ps =>
      unfold Ft.t
      simp only [NFL, ix0, inB2, ninA2, b8, a8, Bool.not_true, Bool.false_eq_true, if_false, cut1, uTAny_told]
      rw [Ft.tts_map, lc_mapf Ft.t Ft.gr (fun p hp => grows_term r p (h.2 p hp)) (by have := h.1; omega)]
      simp only [NFL]
      exact congrArg M.pure (Ft.gr_of grow_any_gr)

end PM
set_option maxHeartbeats 1000000
namespace PM
open PySem PySem.Spec PyProof.Rows L2
theorem bk_ok {α β : Type} {m : M α} {k : α → M β} {S S' : Store} {a : α} (h : m S = .ok a S') : M.bind m k S = k a S' := by unfold M.bind; rw [h]; rfl
theorem on_x {σ σ' τ β : Type} {m : M (O σ τ β)} {k : σ → M (O σ' τ β)} {S S' : Store} {s : σ} (h : m S = .ok (.nx s) S') : PM.bindO m k S = k s S' := by unfold PM.bindO; rw [bk_ok h]
theorem r_ok {β : Type} {d : Option β} {m : M (O Unit Unit β)} {S S' : Store} {b : β} (h : m S = .ok (.rt b) S') : PM.runO d m S = .ok b S' := by unfold PM.runO; rw [bk_ok h]; rfl
theorem ninG3 (w : Str) : gNinD (D.str w) ((eTL iN) (List.map D.str [("all" : Str), ("any" : Str), ("not" : Str)])) = some (!decide (w ∈ G3)) := by
  unfold gNinD
  rw [inG3]
  rfl
theorem marks_loop {τ' : Type} {r : Nat} {F : D → M (List Str)} : ∀ (ps : List Ft) (acc : List Str), (∀ p ∈ ps, F p.t = M.pure p.mks) → acc.length + (Ft.mkss ps).length ≤ 1000 → forO (τ' := τ') (fun x s => f_b1_l_marks r F x s) (ps.map Ft.t) acc = M.pure (.nx (acc ++ Ft.mkss ps))
  | [], acc, _, _ => by rw [List.map_nil, Ft.mkss, List.append_nil]; rfl
  | p :: ps, acc, h, hl => by
    rw [Ft.mkss, List.length_append] at hl
    have e : f_b1_l_marks r F p.t acc = M.pure (.nx (acc ++ p.mks)) := by
      unfold f_b1_l_marks
      simp only [NFL, h p (by simp), gCatL_ok (x := acc) (y := p.mks) (by omega)]
    rw [List.map_cons, forO_nx (.inl e), marks_loop ps _ (fun q hq => h q (List.mem_cons_of_mem _ hq)) (by rw [List.length_append]; omega), Ft.mkss, List.append_assoc]
theorem gl_tup (xs : List D) : gLs (fList [.tup xs]) = some xs := rfl
theorem marks_term : ∀ (r : Nat) (f : Ft), f.ok r → f.mks.length ≤ 60 → f_l_marks r f.t = M.pure f.mks
  | 0, f, h, _ => h.elim
  | r + 1, f, h, hl => by
    show s_l_marks r (fg_l_marks r) f.t = _
    unfold s_l_marks
    cases f with
    | has m =>
      unfold Ft.t
      have e0 : (uL uS) (eL iN [.str m]) = some [m] := by rw [eLiN]; exact (unL unS).told [m]
      simp only [NFL, ix0, wd_has_many, Bool.false_eq_true, if_false, ninG3, show decide (("has" : Str) ∈ G3) = false by decide +kernel, Bool.not_false, if_true, cut1, gl_tup, e0]
      rw [Ft.mks]
    | many n m =>
      unfold Ft.t
      simp only [NFL, ix0, ix2, wd_many_many, if_true, uS_told]
      rw [Ft.mks]
    | bef a o =>
      unfold Ft.t
      have e0 : (uL uS) (eL iN [.str a, .str o]) = some [a, o] := by rw [eLiN]; exact (unL unS).told [a, o]
      simp only [NFL, ix0, wd_before_many, Bool.false_eq_true, if_false, ninG3, show decide (("before" : Str) ∈ G3) = false by decide +kernel, Bool.not_false, if_true, cut1, gl_tup, e0]
      rw [Ft.mks]
    | und a o =>
      unfold Ft.t
      have e0 : (uL uS) (eL iN [.str a, .str o]) = some [a, o] := by rw [eLiN]; exact (unL unS).told [a, o]
      simp only [NFL, ix0, wd_under_many, Bool.false_eq_true, if_false, ninG3, show decide (("under" : Str) ∈ G3) = false by decide +kernel, Bool.not_false, if_true, cut1, gl_tup, e0]
      rw [Ft.mks]
    | bes a o =>
      unfold Ft.t
      have e0 : (uL uS) (eL iN [.str a, .str o]) = some [a, o] := by rw [eLiN]; exact (unL unS).told [a, o]
      simp only [NFL, ix0, wd_beside_many, Bool.false_eq_true, if_false, ninG3, show decide (("beside" : Str) ∈ G3) = false by decide +kernel, Bool.not_false, if_true, cut1, gl_tup, e0]
      rw [Ft.mks]
    | no p =>
      rw [Ft.mks] at hl
      have e1 := marks_loop (τ' := Unit) (r := r) (F := fg_l_marks r) [p] [] (fun q hq => by rw [List.mem_singleton.mp hq]; exact marks_term r p h hl) (by simp [Ft.mkss]; omega)
      rw [List.map_cons, List.map_nil] at e1
      unfold Ft.t
      simp only [NFL, ix0, wd_not_many, Bool.false_eq_true, if_false, ninG3, show decide (("not" : Str) ∈ G3) = true by decide +kernel, Bool.not_true, cut1, uTAny_told, e1]
      rw [Ft.mks]
      simp [Ft.mkss]
    | all ps =>
      rw [Ft.mks] at hl
      have e1 := marks_loop (τ' := Unit) (r := r) (F := fg_l_marks r) ps [] (fun q hq => marks_term r q (h.2 q hq) (by have := mkss_le hq; omega)) (by simp; omega)
      unfold Ft.t
      simp only [NFL, ix0, wd_all_many, Bool.false_eq_true, if_false, ninG3, show decide (("all" : Str) ∈ G3) = true by decide +kernel, Bool.not_true, cut1, uTAny_told, Ft.tts_map, e1]
      rw [Ft.mks, List.nil_append]
    | any ps =>
      rw [Ft.mks] at hl
      have e1 := marks_loop (τ' := Unit) (r := r) (F := fg_l_marks r) ps [] (fun q hq => marks_term r q (h.2 q hq) (by have := mkss_le hq; omega)) (by simp; omega)
      unfold Ft.t
      simp only [NFL, ix0, wd_any_many, Bool.false_eq_true, if_false, ninG3, show decide (("any" : Str) ∈ G3) = true by decide +kernel, Bool.not_true, cut1, uTAny_told, Ft.tts_map, e1]
      rw [Ft.mks, List.nil_append]
theorem marks_new {P : Str → Prop} {B : Int} {f : Ft} (hw : f.wf P B) (hd : 2 * f.dp ≤ 24) (hl : f.mks.length ≤ 60) : ∃ ms : List Str, methM "marks" (mtq_marks (g_p_sorted_marks 24)) resN f.o (M.pure []) = M.pure (eL D.str ms) ∧ MkOf f.mks ms := by
  have grp : ∀ {k : Nat} {ps : List Ft}, Ft.mkss ps = f.mks → 2 * (Ft.dps ps + 1) ≤ 26 → (∀ p ∈ ps, p.wf P B) → fldM fl "parts" (.obj k [("parts", .lst (ps.map Ft.o))]) = M.pure (.lst (ps.map Ft.o)) → ∃ ms : List Str, f_p_Group_marks 24 (.obj k [("parts", .lst (ps.map Ft.o))]) = M.pure ms ∧ MkOf f.mks ms := fun {k ps} hm h1 hws hf => by
    rw [← hm]
    exact grp_marks (r := 22) (fun p hp => marks_obj 22 p (hws p hp) (by have := Ft.dps_le hp; omega) (by have := mkss_le hp; rw [hm] at this; omega)) (by rw [hm]; exact hl) hf
  cases f with
  | has m =>
    rw [Ft.o, Ft.mks]
    refine ⟨[m], ?_, one_mk m⟩
    refine meth_N (e := eL D.str) (v := [m]) (lkn (by decide +kernel) lkn0) mtq_marks_14 (tyN_p_Has_marks _) ?_
    unfold f_p_Has_marks
    simp only [NFL, fo_14m, uS_told]
  | many n m =>
    rw [Ft.o, Ft.mks]
    refine ⟨[m], ?_, one_mk m⟩
    refine meth_N (e := eL D.str) (v := [m]) (lkn (by decide +kernel) (lkn (by decide +kernel) lkn0)) mtq_marks_15 (tyN_p_Many_marks _) ?_
    unfold f_p_Many_marks
    simp only [NFL, fo_15m, uS_told]
  | bef a o =>
    rw [Ft.o, Ft.mks]
    obtain ⟨ms, e, h⟩ := pair_marks (fo_171 (.str a) (.str o)) (fo_172 (.str a) (.str o))
    exact ⟨ms, meth_N (e := eL D.str) (v := ms) (lkn (by decide +kernel) (lkn (by decide +kernel) lkn0)) mtq_marks_17 (tyN_p_Pair_marks _) e, h⟩
  | und a o =>
    rw [Ft.o, Ft.mks]
    obtain ⟨ms, e, h⟩ := pair_marks (fo_181 (.str a) (.str o)) (fo_182 (.str a) (.str o))
    exact ⟨ms, meth_N (e := eL D.str) (v := ms) (lkn (by decide +kernel) (lkn (by decide +kernel) lkn0)) mtq_marks_18 (tyN_p_Pair_marks _) e, h⟩
  | bes a o =>
    rw [Ft.o, Ft.mks]
    obtain ⟨ms, e, h⟩ := pair_marks (fo_191 (.str a) (.str o)) (fo_192 (.str a) (.str o))
    exact ⟨ms, meth_N (e := eL D.str) (v := ms) (lkn (by decide +kernel) (lkn (by decide +kernel) lkn0)) mtq_marks_19 (tyN_p_Pair_marks _) e, h⟩
  | no p =>
    obtain ⟨ms, e, h⟩ := grp (k := 23) (ps := [p]) (by rw [Ft.mks]; simp [Ft.mkss]) (by simp only [Ft.dp] at hd; simp only [Ft.dps]; omega) (by simp only [Ft.wf] at hw; simpa using hw) (fo_23p _)
    rw [show (Ft.no p).o = .obj 23 [("parts", .lst ([p].map Ft.o))] by rw [Ft.o]; rfl]
    exact ⟨ms, meth_N (e := eL D.str) (v := ms) (lkn (by decide +kernel) lkn0) mtq_marks_23 (tyN_p_Group_marks 24 _) e, h⟩
  | all ps =>
    simp only [Ft.wf, Ft.wfs_iff] at hw
    obtain ⟨ms, e, h⟩ := grp (k := 21) (ps := ps) (by rw [Ft.mks]) (by simp only [Ft.dp] at hd; omega) hw.2 (fo_21p _)
    rw [show (Ft.all ps).o = .obj 21 [("parts", .lst (ps.map Ft.o))] by rw [Ft.o, Ft.os_map]]
    exact ⟨ms, meth_N (e := eL D.str) (v := ms) (lkn (by decide +kernel) lkn0) mtq_marks_21 (tyN_p_Group_marks 24 _) e, h⟩
  | any ps =>
    simp only [Ft.wf, Ft.wfs_iff] at hw
    obtain ⟨ms, e, h⟩ := grp (k := 22) (ps := ps) (by rw [Ft.mks]) (by simp only [Ft.dp] at hd; omega) hw.2 (fo_22p _)
    rw [show (Ft.any ps).o = .obj 22 [("parts", .lst (ps.map Ft.o))] by rw [Ft.o, Ft.os_map]]
    exact ⟨ms, meth_N (e := eL D.str) (v := ms) (lkn (by decide +kernel) lkn0) mtq_marks_22 (tyN_p_Group_marks 24 _) e, h⟩
structure LB (S : Store) (q : Nat) (js : List Nat) : Prop where
  hd : S[q]? = some (.box (.lst (js.map D.rf)))
  nd : js.Nodup
  ok : ∀ j ∈ js, q < j ∧ ∃ xs, S[j]? = some (.box (.lst xs)) ∧ xs ≠ []
theorem LB.more {S : Store} {q : Nat} {js : List Nat} (h : LB S q js) {xs : List D} (hx : xs ≠ []) : LB ((S ++ [Cell.box (.lst xs)]).set q (Cell.box (.lst (js.map D.rf ++ [D.rf S.length])))) q (js ++ [S.length]) := by
  have hq : q < S.length := (List.getElem?_eq_some_iff.mp h.hd).1
  refine ⟨?_, ?_, fun j hj => ?_⟩
  · rw [List.getElem?_set_self (by rw [List.length_append]; omega), List.map_append]
    rfl
  · rw [List.nodup_append]
    refine ⟨h.nd, by simp, fun a ha b hb => ?_⟩
    rw [List.mem_singleton.mp hb]
    obtain ⟨_, _, e, _⟩ := h.ok a ha
    have := (List.getElem?_eq_some_iff.mp e).1
    omega
  · rcases List.mem_append.mp hj with hj | hj
    · obtain ⟨h1, ys, e, h2⟩ := h.ok j hj
      have := (List.getElem?_eq_some_iff.mp e).1
      exact ⟨h1, ys, by rw [List.getElem?_set_ne (by omega), List.getElem?_append_left this]; exact e, h2⟩
    · rw [List.mem_singleton.mp hj]
      exact ⟨hq, xs, by rw [List.getElem?_set_ne (by omega), List.getElem?_append_right (Nat.le_refl _), Nat.sub_self]; rfl, hx⟩
theorem getL_lst (xs : List D) : getL (.lst xs) = M.pure xs := rfl
theorem getL_box {j : Nat} {xs : List D} {S : Store} (h : S[j]? = some (.box (.lst xs))) : getL (.rf j) S = .ok xs S := by
  unfold getL D.at
  simp only [h]
theorem box_ok {n : Nat} {ds : List D} {S : Store} (h : S[n]? = some (.box (.lst ds))) : isBL (.rf n) S = .ok () S := by simp only [isBL, h]
theorem app_ok {n : Nat} {ds : List D} {d : D} {S : Store} (h : S[n]? = some (.box (.lst ds))) (hl : ds.length < 1000000) : lmB lAppend (.rf n) [d] S = .ok () (S.set n (.box (.lst (ds ++ [d])))) := by
  simp only [lmB, h, lAppend, hl, if_true]
theorem uAny_lst (xs : List D) : (uL some) (.lst xs) = some xs := by rw [← eLiN]; exact (unL unAny).told xs
theorem newB_lst (xs : List D) (S : Store) : newB (.lst xs) S = .ok (.rf S.length) (S ++ [.box (.lst xs)]) := rfl
theorem group_box {k j : Nat} {xs : List D} {S : Store} (h : S[j]? = some (.box (.lst xs))) (hf : gFld fl "parts" (.obj k []) (.lst xs) = some (.obj k [("parts", .lst xs)])) : f_p_Group_init k (.rf j) S = .ok (.obj k [("parts", .lst xs)]) S := by
  unfold f_p_Group_init runI
  simp only [NFL]
  rw [bk_ok (getL_box h)]
  simp only [NFL, uAny_lst, eLiN, hf]
  rfl
theorem not_init (d : D) : f_p_Not_init 23 d = M.pure (.obj 23 [("parts", .lst [d])]) := by
  unfold f_p_Not_init
  simp only [NFL, baseM_new]
  unfold f_p_Group_init
  simp only [NFL, eLiN, getL_lst, uAny_lst, gl_23p]
  rfl
def Fk (r q : Nat) (p : Ft) : Prop := ∀ (S : Store) (js : List Nat), LB S q js → js.length + p.am ≤ 1000 → ∃ S' js', f_l_fault r p.t (.rf q) S = .ok p.o S' ∧ LB S' q js' ∧ js'.length ≤ js.length + p.am
theorem lc_faults {r q : Nat} : ∀ (ps : List Ft) (acc : List D) (S : Store) (js : List Nat), (∀ p ∈ ps, Fk r q p) → LB S q js → js.length + Ft.ams ps ≤ 1000 → acc.length + ps.length ≤ 1000 →
    ∃ S' js', lcO (fun x44 => M.pure true) (fun x44 => f_l_fault r x44 (.rf q)) (ps.map Ft.t) acc S = .ok (acc ++ ps.map Ft.o) S' ∧ LB S' q js' ∧ js'.length ≤ js.length + Ft.ams ps
  | [], acc, S, js, _, hb, _, _ => ⟨S, js, by rw [List.map_nil, List.map_nil, List.append_nil]; rfl, hb, by omega⟩
  | p :: ps, acc, S, js, hp, hb, hl, ha => by
    simp only [Ft.ams] at hl ⊢
    rw [List.length_cons] at ha
    obtain ⟨S1, j1, e1, hb1, hl1⟩ := hp p (by simp) S js hb (by omega)
    obtain ⟨S2, j2, e2, hb2, hl2⟩ := lc_faults ps (acc ++ [p.o]) S1 j1 (fun x hx => hp x (List.mem_cons_of_mem _ hx)) hb1 (by omega) (by rw [List.length_append, List.length_singleton]; omega)
    refine ⟨S2, j2, ?_, hb2, by omega⟩
    rw [List.append_assoc, List.singleton_append] at e2
    have e3 : M.noexc (f_l_fault r p.t (.rf q)) S = .ok p.o S1 := by unfold M.noexc; rw [e1]
    rw [List.map_cons, List.map_cons]
    conv => lhs; unfold lcO
    rw [bk_ok (show M.noexc (M.pure true) S = .ok true S from rfl), if_pos rfl, bk_ok e3, if_pos (by omega)]
    exact e2
theorem fault_lists {P : Str → Prop} {B : Int} {q : Nat} : ∀ (r : Nat) (f : Ft), f.ok r → f.wf P B → Fk r q f
  | 0, f, h, _ => h.elim
  | r + 1, f, h, hw => by
    intro S js hb hl
    have leaf : f_l_fault (r + 1) f.t (.rf q) = M.pure f.o → ∃ S' js', f_l_fault (r + 1) f.t (.rf q) S = .ok f.o S' ∧ LB S' q js' ∧ js'.length ≤ js.length + f.am := fun e => ⟨S, js, by rw [e]; rfl, hb, by omega⟩
    cases f with
    | has m =>
      refine leaf ?_
      unfold f_l_fault
      unfold Ft.t Ft.o
      simp only [NFL, ix0, ix1, wd_has_has, if_true, uS_told]
      unfold f_p_Has_init
      simp only [NFL, gl_14m]
      rfl
    | many n m =>
      refine leaf ?_
      unfold f_l_fault
      unfold Ft.t Ft.o
      simp only [NFL, ix0, ix1, ix2, wd_many_has, wd_many_many, Bool.false_eq_true, if_false, if_true, uS_told, uI_told]
      unfold f_p_Many_init
      simp only [NFL, gl_15n, gl_15m]
      rfl
    | bef a o =>
      refine leaf ?_
      unfold f_l_fault
      unfold Ft.t Ft.o
      simp only [NFL, ix0, ix1, ix2, wd_before_has, wd_before_many, wd_before_before, Bool.false_eq_true, if_false, if_true, uS_told]
      unfold f_p_Pair_init
      simp only [NFL, gl_171, gl_172]
      rfl
    | und a o =>
      refine leaf ?_
      unfold f_l_fault
      unfold Ft.t Ft.o
      simp only [NFL, ix0, ix1, ix2, wd_under_has, wd_under_many, wd_under_before, wd_under_under, Bool.false_eq_true, if_false, if_true, uS_told]
      unfold f_p_Pair_init
      simp only [NFL, gl_181, gl_182]
      rfl
    | bes a o =>
      refine leaf ?_
      unfold f_l_fault
      unfold Ft.t Ft.o
      simp only [NFL, ix0, ix1, ix2, wd_beside_has, wd_beside_many, wd_beside_before, wd_beside_under, wd_beside_beside, Bool.false_eq_true, if_false, if_true, uS_told]
      unfold f_p_Pair_init
      simp only [NFL, gl_191, gl_192]
      rfl
    | no p =>
      simp only [Ft.wf] at hw
      simp only [Ft.am] at hl
      obtain ⟨S1, j1, e1, hb1, hl1⟩ := fault_lists r p h hw S js hb (by omega)
      refine ⟨S1, j1, ?_, hb1, by simp only [Ft.am]; omega⟩
      unfold f_l_fault Ft.t Ft.o
      simp only [NFL, ix0, ix1, wd_not_has, wd_not_many, wd_not_before, wd_not_under, wd_not_beside, wd_not_not, Bool.false_eq_true, if_false, if_true]
      rw [bk_ok e1]
      simp only [NFL, not_init]
      rfl
    | all ps =>
      simp only [Ft.wf, Ft.wfs_iff] at hw
      simp only [Ft.am] at hl
      obtain ⟨S1, j1, e1, hb1, hl1⟩ := lc_faults (r := r) (q := q) ps [] S js (fun p hp => fault_lists r p (h.2 p hp) (hw.2 p hp)) hb (by omega) (by have := hw.1; simp; omega)
      have hne : ps.map Ft.o ≠ [] := by
        have := hw.1.1
        cases ps with
        | nil => simp at this
        | cons a b => simp
      have hq : q < S1.length := (List.getElem?_eq_some_iff.mp hb1.hd).1
      refine ⟨_, _, ?_, hb1.more hne, by rw [List.length_append, List.length_singleton]; simp only [Ft.am]; omega⟩
      unfold f_l_fault Ft.t Ft.o
      simp only [NFL, ix0, wd_all_has, wd_all_many, wd_all_before, wd_all_under, wd_all_beside, wd_all_not, wd_all_all, Bool.false_eq_true, if_false, if_true, cut1, uTAny_told, Ft.tts_map]
      rw [bk_ok e1, List.nil_append, eLiN, bk_ok (newB_lst _ _)]
      have hb2 : (S1 ++ [Cell.box (.lst (ps.map Ft.o))])[q]? = some (.box (.lst (j1.map D.rf))) := by rw [List.getElem?_append_left hq]; exact hb1.hd
      rw [bk_ok (box_ok hb2), bk_ok (app_ok hb2 (by rw [List.length_map]; omega))]
      have hb3 : ((S1 ++ [Cell.box (.lst (ps.map Ft.o))]).set q (Cell.box (.lst (j1.map D.rf ++ [D.rf S1.length]))))[S1.length]? = some (.box (.lst (ps.map Ft.o))) := by
        rw [List.getElem?_set_ne (by omega), List.getElem?_append_right (Nat.le_refl _), Nat.sub_self]; rfl
      have e5 := group_box (k := 21) hb3 (gl_21p _)
      refine Eq.trans (bk_ok e5) ?_
      rw [Ft.os_map]
      rfl
    | any ps =>
      simp only [Ft.wf, Ft.wfs_iff] at hw
      simp only [Ft.am] at hl
      obtain ⟨S1, j1, e1, hb1, hl1⟩ := lc_faults (r := r) (q := q) ps [] S js (fun p hp => fault_lists r p (h.2 p hp) (hw.2 p hp)) hb (by omega) (by have := hw.1; simp; omega)
      have hne : ps.map Ft.o ≠ [] := by
        have := hw.1.1
        cases ps with
        | nil => simp at this
        | cons a b => simp
      have hq : q < S1.length := (List.getElem?_eq_some_iff.mp hb1.hd).1
      refine ⟨_, _, ?_, hb1.more hne, by rw [List.length_append, List.length_singleton]; simp only [Ft.am]; omega⟩
      unfold f_l_fault Ft.t Ft.o
      simp only [NFL, ix0, wd_any_has, wd_any_many, wd_any_before, wd_any_under, wd_any_beside, wd_any_not, wd_any_all, Bool.false_eq_true, if_false, if_true, cut1, uTAny_told, Ft.tts_map]
      rw [bk_ok e1, List.nil_append, eLiN, bk_ok (newB_lst _ _)]
      have hb2 : (S1 ++ [Cell.box (.lst (ps.map Ft.o))])[q]? = some (.box (.lst (j1.map D.rf))) := by rw [List.getElem?_append_left hq]; exact hb1.hd
      rw [bk_ok (box_ok hb2), bk_ok (app_ok hb2 (by rw [List.length_map]; omega))]
      have hb3 : ((S1 ++ [Cell.box (.lst (ps.map Ft.o))]).set q (Cell.box (.lst (j1.map D.rf ++ [D.rf S1.length]))))[S1.length]? = some (.box (.lst (ps.map Ft.o))) := by
        rw [List.getElem?_set_ne (by omega), List.getElem?_append_right (Nat.le_refl _), Nat.sub_self]; rfl
      have e5 := group_box (k := 22) hb3 (gl_22p _)
      refine Eq.trans (bk_ok e5) ?_
      rw [Ft.os_map]
      rfl
theorem turn_ok {j : Nat} {xs : List D} {S : Store} (h : S[j]? = some (.box (.lst xs))) (hx : xs ≠ []) : ∃ S', f_b1_p_law (.rf j) S = .ok (.nx ()) S' ∧ ∀ k, k ≠ j → S'[k]? = S[k]? := by
  have hj : j < S.length := (List.getElem?_eq_some_iff.mp h).1
  have h1 : (S.set j (Cell.box (.lst xs.reverse)))[j]? = some (.box (.lst xs.reverse)) := List.getElem?_set_self hj
  have e1 : lmB lReverse (.rf j) [] S = .ok () (S.set j (Cell.box (.lst xs.reverse))) := by simp only [lmB, h, lReverse]
  have e2 : lmB lPop (.rf j) [] (S.set j (Cell.box (.lst xs.reverse))) = .ok () ((S.set j (Cell.box (.lst xs.reverse))).set j (Cell.box (.lst xs.reverse.dropLast))) := by
    have : ¬ xs.reverse.length = 0 := by rw [List.length_reverse]; exact fun e => hx (List.length_eq_zero_iff.mp e)
    simp only [lmB, h1, lPop, this, if_false]
  refine ⟨(S.set j (Cell.box (.lst xs.reverse))).set j (Cell.box (.lst xs.reverse.dropLast)), ?_, fun k hk => ?_⟩
  · unfold f_b1_p_law
    simp only [NFL]
    rw [bk_ok (box_ok h), bk_ok e1, bk_ok (box_ok h1), bk_ok e2]
    rfl
  · rw [List.getElem?_set_ne (by omega), List.getElem?_set_ne (by omega)]
theorem turn_loop {τ' : Type} {q : Nat} {ds0 : List D} : ∀ (js : List Nat) (S : Store), S[q]? = some (.box (.lst ds0)) → js.Nodup → (∀ j ∈ js, q < j ∧ ∃ xs, S[j]? = some (.box (.lst xs)) ∧ xs ≠ []) → ∃ S', forGO (τ' := τ') q ds0 (fun x (_ : Unit) => f_b1_p_law x) (js.map D.rf) () S = .ok (.nx ()) S'
  | [], S, hq, _, _ => ⟨S, by rw [List.map_nil]; unfold forGO; rw [if_pos hq]⟩
  | j :: js, S, hq, hn, hj => by
    obtain ⟨h1, xs, h2, h3⟩ := hj j (by simp)
    obtain ⟨n1, n2⟩ := List.nodup_cons.mp hn
    obtain ⟨S1, e1, hs⟩ := turn_ok h2 h3
    obtain ⟨S2, e2⟩ := turn_loop (τ' := τ') (q := q) (ds0 := ds0) js S1 (by rw [hs q (by omega)]; exact hq) n2 (fun k hk => by
      obtain ⟨k1, ys, k2, k3⟩ := hj k (List.mem_cons_of_mem _ hk)
      exact ⟨k1, ys, by rw [hs k (fun e => n1 (e ▸ hk))]; exact k2, k3⟩)
    refine ⟨S2, ?_⟩
    rw [List.map_cons]
    unfold forGO
    rw [if_pos hq, bk_ok e1]
    exact e2
theorem turned {τ' : Type} {q : Nat} {js : List Nat} {S : Store} (h : LB S q js) : ∃ S', forGM (τ' := τ') some (fun x (_ : Unit) => f_b1_p_law x) (.rf q) () S = .ok (.nx ()) S' := by
  obtain ⟨S', e⟩ := turn_loop (τ' := τ') (q := q) (ds0 := js.map D.rf) js S h.hd h.nd h.ok
  refine ⟨S', ?_⟩
  unfold forGM
  have e2 : uAll some (js.map D.rf) = some (js.map D.rf) := uAny_lst _
  simp only [h.hd, e2]
  exact e
theorem great_st {n : Int} (h : 0 ≤ n ∧ n < 10 ^ 51) : gSt (fStr [.int n]) = some (mkS (TL.numL n.toNat)) ∧ (mkS (TL.numL n.toNat)).length ≤ 51 := by
  refine ⟨?_, by rw [← Sl_len, Sl_mk]; exact TL.numL_len (by omega) (by omega)⟩
  have hb : n.natAbs < 2 ^ 1900 := Nat.lt_of_lt_of_le (show n.natAbs < 2 ^ 200 by omega) (Nat.pow_le_pow_right (by omega) (by omega))
  have e : fStr [.int n] = if n.natAbs < 2 ^ 1900 then some (D.str (toString n)) else none := rfl
  rw [e, if_pos hb, num_str, show ((n.toNat : Nat) : Int) = n by omega]
  rfl
theorem great_ok {n : Int} {m : Str} (hn : 0 ≤ n ∧ n < 10 ^ 51) (hm : isMkS m = true) : ∃ x : Str, methM "shown" mt_shown resF (.obj 15 [("number", .int n), ("mark", .str m)]) (M.pure []) = M.pure (.str x) ∧
    ∀ {γ : Type} (k : Str → M γ), (M.bind (M.opt (gCatS ("many(" : Str) (mkS (TL.numL n.toNat)))) fun t4 => M.bind (M.opt (gCatS t4 ("," : Str))) fun t6 => M.bind (M.opt (gCatS t6 m)) fun t8 => M.bind (M.opt (gCatS t8 (")" : Str))) k) = k x := by
  have h1 := mk_l8 hm
  obtain ⟨h2, h3⟩ := great_st hn
  generalize mkS (TL.numL n.toNat) = z at h2 h3 ⊢
  have e : ∀ {γ : Type} (k : Str → M γ), (M.bind (M.opt (gCatS ("many(" : Str) z)) fun t4 => M.bind (M.opt (gCatS t4 ("," : Str))) fun t6 => M.bind (M.opt (gCatS t6 m)) fun t8 => M.bind (M.opt (gCatS t8 (")" : Str))) k) = k (("many(" : Str) ++ z ++ ("," : Str) ++ m ++ (")" : Str)) := fun k => by
    rw [gCatS_ok (by simp [lit_len]; omega)]; simp only [NFL]
    rw [gCatS_ok (by simp [lit_len]; omega)]; simp only [NFL]
    rw [gCatS_ok (by simp [lit_len]; omega)]; simp only [NFL]
    rw [gCatS_ok (by simp [lit_len]; omega)]; simp only [NFL]
  refine ⟨_, ?_, e⟩
  refine meth_F (e := D.str) (v := ("many(" : Str) ++ z ++ ("," : Str) ++ m ++ (")" : Str)) (lkn (by decide +kernel) (lkn (by decide +kernel) lkn0)) mtq_shown_15 (ty_p_Many_shown _) ?_
  unfold f_p_Many_shown
  simp only [NFL, fo_15m, fo_15n, uS_told, uI_told, h2, e]
theorem many_init (n : Int) (m : Str) : f_p_Many_init 15 n m = M.pure (.obj 15 [("number", .int n), ("mark", .str m)]) := by
  unfold f_p_Many_init
  simp only [NFL, gl_15n, gl_15m]
  rfl
theorem dedS_len : ∀ xs : List Str, (dedS xs).length ≤ xs.length
  | [] => Nat.le_refl _
  | x :: r => by
    have := dedS_len r
    unfold dedS
    split
    · rw [List.length_cons]; omega
    · rw [List.length_cons, List.length_cons]; omega
theorem ex_r {β : Type} {d : Option β} {m : M (O Unit Unit β)} {S : Store} {b : β} (h : ∃ S', m S = .ok (.rt b) S') : ∃ S', PM.runO d m S = .ok b S' := by
  obtain ⟨S', h⟩ := h
  exact ⟨S', r_ok h⟩
theorem law_ok : LawOk := by
  intro ns hns
  refine law_by (ty_p_law ns) ?_
  unfold f_p_law
  simp only [NFL, cell_at_ok (ns := ns) (show 0 ≤ (0 : Int) by omega), cell_at_ok (ns := ns) (show 0 ≤ (1 : Int) by omega), cell_at_ok (ns := ns) (show 0 ≤ (8 : Int) by omega)]
  obtain ⟨ms, em, hm, hml⟩ := names_ok (cell ns 0) (m := 6) (by omega)
  obtain ⟨_, et, f, rfl, hf, hd, ha⟩ := term_ok (ns := ns) (b := 2) (many := 1 + cell ns 1 % 6) (ms := ms) (by omega) (by omega) (by omega)
  have hfm : f.wf MkP B9 := Ft.wf_mono (fun m h => hm m h) (by unfold B9; omega) hf
  have h24 : f.ok 24 := Ft.ok_dp hf (by omega)
  have hk := Ft.mks_len hf
  simp only [NFL, em, et, eLiN]
  rw [bk_ok (newB_lst _ _)]
  have hb0 : LB ([] ++ [Cell.box (.lst [])]) 0 [] := ⟨rfl, List.nodup_nil, by simp⟩
  obtain ⟨S1, js, e1, hb1, _⟩ := fault_lists (q := 0) 24 f h24 hf _ _ hb0 (by simp; omega)
  rw [show D.rf ([] : Store).length = D.rf 0 from rfl, bk_ok e1]
  obtain ⟨mm, ek, hmk⟩ := marks_new hf (by omega) (by omega)
  have ek' : methM "marks" mt_marks resN f.o (M.pure []) = M.pure (eL D.str mm) := ek
  have eu : (uL uS) (eL D.str mm) = some mm := (unL unS).told mm
  have hml2 := hmk.len
  have es : gSortSet f.mks = some mm := by
    unfold gSortSet
    rw [if_pos (by omega)]
    exact congrArg some (MkOf.uniq (MkOf.srt (dedS_nd _) (fun x => dedS_mem x _) (dedS_len _)) hmk fun _ => Iff.rfl)
  have ew : methM "shown" mt_shown resF f.o (M.pure []) = M.pure (.str f.x) := shown_obj 24 f h24 hfm (by omega)
  have eg : methM "grows" mt_grows resF f.o (M.pure []) = M.pure (.bl f.gr) := grows_obj 24 f h24
  obtain ⟨S2, e2⟩ := turned (τ' := Unit) hb1
  refine ex_r ?_
  rw [on_x e2]
  have el : ∀ x ∈ rngI 0 2, f_b2_p_law f.o mm x = (M.pure (.nx ()) : M (O Unit Unit Bool)) := fun x _ => by
    unfold f_b2_p_law
    simp only [NFL, ek', eu, decide_true, Bool.not_true, Bool.or_false, Bool.false_eq_true, if_false, gApp_ok (xs := mm) (x := ("a" : Str)) (by omega)]
  obtain ⟨m, r, rfl⟩ : ∃ m r, ms = m :: r := by
    cases ms with
    | nil => simp at hml
    | cons m r => exact ⟨m, r, rfl⟩
  have hg : 0 ≤ 1000000000 + cell ns 8 % 100000000000000000000000000000000000000000000000000 ∧ 1000000000 + cell ns 8 % 100000000000000000000000000000000000000000000000000 < 10 ^ 51 := by omega
  have ix : gIx (m :: r) (0 : Int) = some m := gIx_some (n := 0) rfl rfl
  obtain ⟨x, ex, ec⟩ := great_ok hg (hm m (by simp))
  simp only [NFL, marks_term 24 f h24 (by omega), es, gR1_ok (j := 2) (by omega), show (2 : Int).toNat = 2 from rfl]
  rw [for_unit el]
  simp only [NFL, ix, many_init, ex, uS_told, (great_st hg).1, ec, decide_true, Bool.not_true, Bool.false_eq_true, if_false, eg, uB_told, grows_term 24 f h24, ew, text_ok 24 f h24 hfm (by omega)]
  exact ⟨_, rfl⟩

end PM
set_option maxHeartbeats 4000000
namespace PM
open PySem PySem.Spec PyProof.Rows L2
def top (i : Nat) : Stmt := PySem.Challenge.pw_shrinkhouse_k11_told_of_a_fault.main.body.getD i (.Pass ⟨0, 0, 0, 0⟩)
structure Fs (P : Program) (w : World) (K : PySem.W.Frag) (mg : Str → Option Value) (cl : ClsP) : Type where
  hP : cl.P = P
  hw : cl.w = w
  n_sorted : mg "sorted" = none
  n_str : mg "str" = none
  n_list : mg "list" = none
  n_all : mg "all" = none
  n_len : mg "len" = none
  n_int : mg "int" = none
  n_range : mg "range" = none
  n_min : mg "min" = none
  n_tuple : mg "tuple" = none
  n_set : mg "set" = none
  n_isinstance : mg "isinstance" = none
  n_bool : mg "bool" = none
  a_p_Has_marks : Addr
  d_p_Has_marks : FuncData
  F_p_Has_marks : Fun K "marks" "Has.marks" (inClass (top 4) 2) a_p_Has_marks d_p_Has_marks
  b_p_Has_marks : Binds K d_p_Has_marks ["self"] []
  a_p_Many_marks : Addr
  d_p_Many_marks : FuncData
  F_p_Many_marks : Fun K "marks" "Many.marks" (inClass (top 5) 2) a_p_Many_marks d_p_Many_marks
  b_p_Many_marks : Binds K d_p_Many_marks ["self"] []
  a_p_Pair_marks : Addr
  d_p_Pair_marks : FuncData
  F_p_Pair_marks : Fun K "marks" "Pair.marks" (inClass (top 6) 1) a_p_Pair_marks d_p_Pair_marks
  b_p_Pair_marks : Binds K d_p_Pair_marks ["self"] []
  a_p_sorted_marks : Addr
  d_p_sorted_marks : FuncData
  F_p_sorted_marks : Fun K "sorted_marks" "sorted_marks" (top 2) a_p_sorted_marks d_p_sorted_marks
  b_p_sorted_marks : Binds K d_p_sorted_marks ["parts"] []
  g_p_sorted_marks : mg "sorted_marks" = some (.ref a_p_sorted_marks)
  a_p_Group_marks : Addr
  d_p_Group_marks : FuncData
  F_p_Group_marks : Fun K "marks" "Group.marks" (inClass (top 10) 1) a_p_Group_marks d_p_Group_marks
  b_p_Group_marks : Binds K d_p_Group_marks ["self"] []
  a_p_Fault_grows : Addr
  d_p_Fault_grows : FuncData
  F_p_Fault_grows : Fun K "grows" "Fault.grows" (inClass (top 3) 3) a_p_Fault_grows d_p_Fault_grows
  b_p_Fault_grows : Binds K d_p_Fault_grows ["self"] []
  a_p_Has_init : Addr
  d_p_Has_init : FuncData
  F_p_Has_init : Fun K "__init__" "Has.__init__" (inClass (top 4) 0) a_p_Has_init d_p_Has_init
  b_p_Has_init : Binds K d_p_Has_init ["self", "mark"] []
  a_p_Has_shown : Addr
  d_p_Has_shown : FuncData
  F_p_Has_shown : Fun K "shown" "Has.shown" (inClass (top 4) 3) a_p_Has_shown d_p_Has_shown
  b_p_Has_shown : Binds K d_p_Has_shown ["self"] []
  a_p_Many_init : Addr
  d_p_Many_init : FuncData
  F_p_Many_init : Fun K "__init__" "Many.__init__" (inClass (top 5) 0) a_p_Many_init d_p_Many_init
  b_p_Many_init : Binds K d_p_Many_init ["self", "number", "mark"] []
  a_p_Many_shown : Addr
  d_p_Many_shown : FuncData
  F_p_Many_shown : Fun K "shown" "Many.shown" (inClass (top 5) 3) a_p_Many_shown d_p_Many_shown
  b_p_Many_shown : Binds K d_p_Many_shown ["self"] []
  a_p_Pair_init : Addr
  d_p_Pair_init : FuncData
  F_p_Pair_init : Fun K "__init__" "Pair.__init__" (inClass (top 6) 0) a_p_Pair_init d_p_Pair_init
  b_p_Pair_init : Binds K d_p_Pair_init ["self", "one", "other"] []
  a_p_All_word : Addr
  d_p_All_word : FuncData
  F_p_All_word : Fun K "word" "All.word" (inClass (top 11) 1) a_p_All_word d_p_All_word
  b_p_All_word : Binds K d_p_All_word ["self"] []
  a_p_Any_word : Addr
  d_p_Any_word : FuncData
  F_p_Any_word : Fun K "word" "Any.word" (inClass (top 12) 1) a_p_Any_word d_p_Any_word
  b_p_Any_word : Binds K d_p_Any_word ["self"] []
  a_p_Before_word : Addr
  d_p_Before_word : FuncData
  F_p_Before_word : Fun K "word" "Before.word" (inClass (top 7) 1) a_p_Before_word d_p_Before_word
  b_p_Before_word : Binds K d_p_Before_word ["self"] []
  a_p_Beside_word : Addr
  d_p_Beside_word : FuncData
  F_p_Beside_word : Fun K "word" "Beside.word" (inClass (top 9) 1) a_p_Beside_word d_p_Beside_word
  b_p_Beside_word : Binds K d_p_Beside_word ["self"] []
  a_p_Not_word : Addr
  d_p_Not_word : FuncData
  F_p_Not_word : Fun K "word" "Not.word" (inClass (top 13) 2) a_p_Not_word d_p_Not_word
  b_p_Not_word : Binds K d_p_Not_word ["self"] []
  a_p_Under_word : Addr
  d_p_Under_word : FuncData
  F_p_Under_word : Fun K "word" "Under.word" (inClass (top 8) 1) a_p_Under_word d_p_Under_word
  b_p_Under_word : Binds K d_p_Under_word ["self"] []
  a_p_Pair_shown : Addr
  d_p_Pair_shown : FuncData
  F_p_Pair_shown : Fun K "shown" "Pair.shown" (inClass (top 6) 3) a_p_Pair_shown d_p_Pair_shown
  b_p_Pair_shown : Binds K d_p_Pair_shown ["self"] []
  a_p_Beside_grows : Addr
  d_p_Beside_grows : FuncData
  F_p_Beside_grows : Fun K "grows" "Beside.grows" (inClass (top 9) 2) a_p_Beside_grows d_p_Beside_grows
  b_p_Beside_grows : Binds K d_p_Beside_grows ["self"] []
  a_p_Group_init : Addr
  d_p_Group_init : FuncData
  F_p_Group_init : Fun K "__init__" "Group.__init__" (inClass (top 10) 0) a_p_Group_init d_p_Group_init
  b_p_Group_init : Binds K d_p_Group_init ["self", "parts"] []
  a_p_Group_shown : Addr
  d_p_Group_shown : FuncData
  F_p_Group_shown : Fun K "shown" "Group.shown" (inClass (top 10) 3) a_p_Group_shown d_p_Group_shown
  b_p_Group_shown : Binds K d_p_Group_shown ["self"] []
  a_p_Not_grows : Addr
  d_p_Not_grows : FuncData
  F_p_Not_grows : Fun K "grows" "Not.grows" (inClass (top 13) 3) a_p_Not_grows d_p_Not_grows
  b_p_Not_grows : Binds K d_p_Not_grows ["self"] []
  a_p_Group_grows : Addr
  d_p_Group_grows : FuncData
  F_p_Group_grows : Fun K "grows" "Group.grows" (inClass (top 10) 4) a_p_Group_grows d_p_Group_grows
  b_p_Group_grows : Binds K d_p_Group_grows ["self"] []
  a_p_Not_init : Addr
  d_p_Not_init : FuncData
  F_p_Not_init : Fun K "__init__" "Not.__init__" (inClass (top 13) 0) a_p_Not_init d_p_Not_init
  b_p_Not_init : Binds K d_p_Not_init ["self", "part"] []
  a_l_cell_at : Addr
  d_l_cell_at : FuncData
  F_l_cell_at : Fun K "_law_cell_at" "_law_cell_at" (top 15) a_l_cell_at d_l_cell_at
  b_l_cell_at : Binds K d_l_cell_at ["_law_script", "_law_k"] []
  g_l_cell_at : mg "_law_cell_at" = some (.ref a_l_cell_at)
  a_l_names : Addr
  d_l_names : FuncData
  F_l_names : Fun K "_law_names" "_law_names" (top 16) a_l_names d_l_names
  b_l_names : Binds K d_l_names ["_law_cell", "_law_many"] []
  g_l_names : mg "_law_names" = some (.ref a_l_names)
  a_l_leaf : Addr
  d_l_leaf : FuncData
  F_l_leaf : Fun K "_law_leaf" "_law_leaf" (top 17) a_l_leaf d_l_leaf
  b_l_leaf : Binds K d_l_leaf ["_law_cell", "_law_names_here"] []
  g_l_leaf : mg "_law_leaf" = some (.ref a_l_leaf)
  a_l_term : Addr
  d_l_term : FuncData
  F_l_term : Fun K "_law_term" "_law_term" (top 18) a_l_term d_l_term
  b_l_term : Binds K d_l_term ["_law_script", "_law_begin", "_law_many", "_law_names_here"] []
  g_l_term : mg "_law_term" = some (.ref a_l_term)
  a_l_text : Addr
  d_l_text : FuncData
  F_l_text : Fun K "_law_text" "_law_text" (top 19) a_l_text d_l_text
  b_l_text : Binds K d_l_text ["_law_term_here"] []
  g_l_text : mg "_law_text" = some (.ref a_l_text)
  a_l_marks : Addr
  d_l_marks : FuncData
  F_l_marks : Fun K "_law_marks" "_law_marks" (top 20) a_l_marks d_l_marks
  b_l_marks : Binds K d_l_marks ["_law_term_here"] []
  g_l_marks : mg "_law_marks" = some (.ref a_l_marks)
  a_l_grows : Addr
  d_l_grows : FuncData
  F_l_grows : Fun K "_law_grows" "_law_grows" (top 21) a_l_grows d_l_grows
  b_l_grows : Binds K d_l_grows ["_law_term_here"] []
  g_l_grows : mg "_law_grows" = some (.ref a_l_grows)
  a_l_fault : Addr
  d_l_fault : FuncData
  F_l_fault : Fun K "_law_fault" "_law_fault" (top 22) a_l_fault d_l_fault
  b_l_fault : Binds K d_l_fault ["_law_term_here", "_law_lists"] []
  g_l_fault : mg "_law_fault" = some (.ref a_l_fault)
  a_p_law : Addr
  d_p_law : FuncData
  F_p_law : Fun K "law" "law" (top 23) a_p_law d_p_law
  b_p_law : Binds K d_p_law ["_law_script"] []
  g_p_law : mg "law" = some (.ref a_p_law)
  gc_Has : mg "Has" = some (.ref (cl 14))
  gc_Many : mg "Many" = some (.ref (cl 15))
  gc_Before : mg "Before" = some (.ref (cl 17))
  gc_Under : mg "Under" = some (.ref (cl 18))
  gc_Beside : mg "Beside" = some (.ref (cl 19))
  gc_Group : mg "Group" = some (.ref (cl 20))
  gc_All : mg "All" = some (.ref (cl 21))
  gc_Any : mg "Any" = some (.ref (cl 22))
  gc_Not : mg "Not" = some (.ref (cl 23))
  cls_Has : Cls K (cl 14)
  mk_Has : Mk K (cl 14) a_p_Has_init
  na_Has_mark : NoAttr K (cl 14) "mark"
  cls_Many : Cls K (cl 15)
  mk_Many : Mk K (cl 15) a_p_Many_init
  na_Many_number : NoAttr K (cl 15) "number"
  na_Many_mark : NoAttr K (cl 15) "mark"
  cls_Before : Cls K (cl 17)
  mk_Before : Mk K (cl 17) a_p_Pair_init
  na_Before_one : NoAttr K (cl 17) "one"
  na_Before_other : NoAttr K (cl 17) "other"
  cls_Under : Cls K (cl 18)
  mk_Under : Mk K (cl 18) a_p_Pair_init
  na_Under_one : NoAttr K (cl 18) "one"
  na_Under_other : NoAttr K (cl 18) "other"
  cls_Beside : Cls K (cl 19)
  mk_Beside : Mk K (cl 19) a_p_Pair_init
  na_Beside_one : NoAttr K (cl 19) "one"
  na_Beside_other : NoAttr K (cl 19) "other"
  cls_All : Cls K (cl 21)
  mk_All : Mk K (cl 21) a_p_Group_init
  na_All_parts : NoAttr K (cl 21) "parts"
  cls_Any : Cls K (cl 22)
  mk_Any : Mk K (cl 22) a_p_Group_init
  na_Any_parts : NoAttr K (cl 22) "parts"
  cls_Not : Cls K (cl 23)
  mk_Not : Mk K (cl 23) a_p_Not_init
  na_Not_parts : NoAttr K (cl 23) "parts"
  me_Has_grows : Meth K (cl 14) "grows" a_p_Fault_grows
  me_Many_grows : Meth K (cl 15) "grows" a_p_Fault_grows
  me_Before_grows : Meth K (cl 17) "grows" a_p_Fault_grows
  me_Under_grows : Meth K (cl 18) "grows" a_p_Fault_grows
  me_Beside_grows : Meth K (cl 19) "grows" a_p_Beside_grows
  me_All_grows : Meth K (cl 21) "grows" a_p_Group_grows
  me_Any_grows : Meth K (cl 22) "grows" a_p_Group_grows
  me_Not_grows : Meth K (cl 23) "grows" a_p_Not_grows
  me_Has_marks : Meth K (cl 14) "marks" a_p_Has_marks
  me_Many_marks : Meth K (cl 15) "marks" a_p_Many_marks
  me_Before_marks : Meth K (cl 17) "marks" a_p_Pair_marks
  me_Under_marks : Meth K (cl 18) "marks" a_p_Pair_marks
  me_Beside_marks : Meth K (cl 19) "marks" a_p_Pair_marks
  me_All_marks : Meth K (cl 21) "marks" a_p_Group_marks
  me_Any_marks : Meth K (cl 22) "marks" a_p_Group_marks
  me_Not_marks : Meth K (cl 23) "marks" a_p_Group_marks
  me_Has_shown : Meth K (cl 14) "shown" a_p_Has_shown
  me_Many_shown : Meth K (cl 15) "shown" a_p_Many_shown
  me_Before_shown : Meth K (cl 17) "shown" a_p_Pair_shown
  me_Under_shown : Meth K (cl 18) "shown" a_p_Pair_shown
  me_Beside_shown : Meth K (cl 19) "shown" a_p_Pair_shown
  me_All_shown : Meth K (cl 21) "shown" a_p_Group_shown
  me_Any_shown : Meth K (cl 22) "shown" a_p_Group_shown
  me_Not_shown : Meth K (cl 23) "shown" a_p_Group_shown
  me_Before_word : Meth K (cl 17) "word" a_p_Before_word
  me_Under_word : Meth K (cl 18) "word" a_p_Under_word
  me_Beside_word : Meth K (cl 19) "word" a_p_Beside_word
  me_All_word : Meth K (cl 21) "word" a_p_All_word
  me_Any_word : Meth K (cl 22) "word" a_p_Any_word
  me_Not_word : Meth K (cl 23) "word" a_p_Not_word
  rb_Group : PySem.W.readsIn K (cl 20) (.type "type") = true
  rg_Group : PySem.W.specialIn K (.ref (cl 20)) "__getattribute__" = some (some (.builtin "type.__getattribute__"))
  rf_Group : PySem.W.findCls K (.ref (cl 20)) (.type "type") "__init__" = some (.val (.ref a_p_Group_init))
theorem info {P : Program} {w : World} {K : PySem.W.Frag} {mg : Str → Option Value} {cl : ClsP} (T : Fs P w K mg cl) : CInfo K cl fl := by
  intro c f h
  simp only [fl, Bool.or_eq_true, Bool.and_eq_true, beq_iff_eq] at h
  rcases h with ((((((((((⟨rfl, rfl⟩ | ⟨rfl, rfl⟩) | ⟨rfl, rfl⟩) | ⟨rfl, rfl⟩) | ⟨rfl, rfl⟩) | ⟨rfl, rfl⟩) | ⟨rfl, rfl⟩) | ⟨rfl, rfl⟩) | ⟨rfl, rfl⟩) | ⟨rfl, rfl⟩) | ⟨rfl, rfl⟩) | ⟨rfl, rfl⟩
  · exact ⟨T.cls_Has, T.na_Has_mark⟩
  · exact ⟨T.cls_Many, T.na_Many_number⟩
  · exact ⟨T.cls_Many, T.na_Many_mark⟩
  · exact ⟨T.cls_Before, T.na_Before_one⟩
  · exact ⟨T.cls_Before, T.na_Before_other⟩
  · exact ⟨T.cls_Under, T.na_Under_one⟩
  · exact ⟨T.cls_Under, T.na_Under_other⟩
  · exact ⟨T.cls_Beside, T.na_Beside_one⟩
  · exact ⟨T.cls_Beside, T.na_Beside_other⟩
  · exact ⟨T.cls_All, T.na_All_parts⟩
  · exact ⟨T.cls_Any, T.na_Any_parts⟩
  · exact ⟨T.cls_Not, T.na_Not_parts⟩
theorem sc_p_Has_marks : FnScope ["self"] ["self"] (defScope (inClass (top 4) 2)) := ⟨rfl, rfl, rfl, by decide +kernel, rfl, by decide +kernel, by decide +kernel⟩
theorem ok_p_Has_marks {P : Program} {w : World} {K : PySem.W.Frag} {mg : Str → Option Value} {base : Heap} {cl : ClsP} (T : Fs P w K mg cl) : FnOk P w K mg base (L2N.CX P w) 1 T.a_p_Has_marks T.d_p_Has_marks ["self"] (spOf K cl [true] m_p_Has_marks) := by
  have nd := sc_p_Has_marks.nd
  refine fn_ok (k := 0) (body := c_p_Has_marks) T.F_p_Has_marks sc_p_Has_marks rfl rfl fun cdv A outer s H E hr tk => ?_
  refine ss_cons ?_ ?_
  refine ss_retN ?_
  refine sn_lst (bm := [false]) ?_
  refine sa_f ?_ ?_
  refine se_fld (info T) ?_
  exact sb_v (pv 0)
  exact sa_nil
  exact ss_nil
theorem sc_p_Many_marks : FnScope ["self"] ["self"] (defScope (inClass (top 5) 2)) := ⟨rfl, rfl, rfl, by decide +kernel, rfl, by decide +kernel, by decide +kernel⟩
theorem ok_p_Many_marks {P : Program} {w : World} {K : PySem.W.Frag} {mg : Str → Option Value} {base : Heap} {cl : ClsP} (T : Fs P w K mg cl) : FnOk P w K mg base (L2N.CX P w) 1 T.a_p_Many_marks T.d_p_Many_marks ["self"] (spOf K cl [true] m_p_Many_marks) := by
  have nd := sc_p_Many_marks.nd
  refine fn_ok (k := 0) (body := c_p_Many_marks) T.F_p_Many_marks sc_p_Many_marks rfl rfl fun cdv A outer s H E hr tk => ?_
  refine ss_cons ?_ ?_
  refine ss_retN ?_
  refine sn_lst (bm := [false]) ?_
  refine sa_f ?_ ?_
  refine se_fld (info T) ?_
  exact sb_v (pv 0)
  exact sa_nil
  exact ss_nil
theorem sc_p_Pair_marks : FnScope ["self", "mark"] ["self"] (defScope (inClass (top 6) 1)) := ⟨rfl, rfl, rfl, by decide +kernel, rfl, by decide +kernel, by decide +kernel⟩
theorem ok_p_Pair_marks {P : Program} {w : World} {K : PySem.W.Frag} {mg : Str → Option Value} {base : Heap} {cl : ClsP} (T : Fs P w K mg cl) : FnOk P w K mg base (L2N.CX P w) 1 T.a_p_Pair_marks T.d_p_Pair_marks ["self"] (spOf K cl [true] m_p_Pair_marks) := by
  have nd := sc_p_Pair_marks.nd
  refine fn_ok (k := 1) (body := c_p_Pair_marks) T.F_p_Pair_marks sc_p_Pair_marks rfl rfl fun cdv A outer s H E hr tk => ?_
  refine ss_cons ?_ ?_
  refine ss_retN ?_
  refine sx_callB pnM call_sortedAll cs_sorted (by rfl) T.n_sorted (by decide +kernel) ?_
  refine sa_b ?_ ?_
  refine SE.toB ?_
  refine se_add ?_ ?_
  refine SE.toB ?_
  refine SN.toE ?_
  refine sn_lst (bm := [false]) ?_
  refine sa_f ?_ ?_
  refine se_fld (info T) ?_
  exact sb_v (pv 0)
  exact sa_nil
  refine SE.toB ?_
  refine SN.toE ?_
  refine sn_lc (own := [("mark", 1)]) rfl nd ?_ ?_ (fun _ _ _ _ _ => pg_name (i := 1) nd (by rfl) (by first | exact Or.inl rfl | exact Or.inr rfl)) (tg_name) (tgo_name (by decide)) ?_ ?_
  refine si_list ?_
  refine SN.toE ?_
  refine sn_lst (bm := [false]) ?_
  refine sa_f ?_ ?_
  refine se_fld (info T) ?_
  exact sb_v (pv 0)
  exact sa_nil
  exact blkOk_by (N := ["self", "mark"]) (sc := defScope (inClass (top 6) 1)) (own := [("mark", 1)]) (by decide +kernel)
  intro _ _ _ _ _
  refine sts_one ?_
  refine st_ne hr.units ?_ ?_
  exact sb_v (pv 1)
  refine SE.toB ?_
  refine se_fld (info T) ?_
  exact sb_v (pv 0)
  intro _ _ _ _ _
  exact se_v (pv 1)
  exact sa_nil
  exact ss_nil
def OkG_p_sorted_marks {P : Program} {w : World} {K : PySem.W.Frag} {mg : Str → Option Value} {cl : ClsP} (T : Fs P w K mg cl) (base : Heap) (n : Nat) (q : Nat → Fn) : Prop := (FnOk P w K mg base (L2N.CX P w) n T.a_p_sorted_marks T.d_p_sorted_marks ["parts"] (spOf K cl [true] (q 0))) ∧ (FnOk P w K mg base (L2N.CX P w) n T.a_p_Group_marks T.d_p_Group_marks ["self"] (spOf K cl [true] (q 1)))
theorem mtokq_marks {X : Cx} {cl : ClsP} (T : Fs X.prog X.w X.K X.mg cl) {r : Nat} {q : Nat → Fn} (hq : OkG_p_sorted_marks T X.base (2 + r) q) (hr : Room (2 + r) X.A) : MtOk X cl "marks" [] (mtq_marks q) := by
  intro c fn h
  unfold mtq_marks at h
  split at h
  · rename_i e; subst e; cases h; exact ⟨_, _, 1, _, T.cls_Has, T.me_Has_marks, ok_p_Has_marks T, hr.mono (by omega), T.b_p_Has_marks⟩
  split at h
  · rename_i e; subst e; cases h; exact ⟨_, _, 1, _, T.cls_Many, T.me_Many_marks, ok_p_Many_marks T, hr.mono (by omega), T.b_p_Many_marks⟩
  split at h
  · rename_i e; subst e; cases h; exact ⟨_, _, 1, _, T.cls_Before, T.me_Before_marks, ok_p_Pair_marks T, hr.mono (by omega), T.b_p_Pair_marks⟩
  split at h
  · rename_i e; subst e; cases h; exact ⟨_, _, 1, _, T.cls_Under, T.me_Under_marks, ok_p_Pair_marks T, hr.mono (by omega), T.b_p_Pair_marks⟩
  split at h
  · rename_i e; subst e; cases h; exact ⟨_, _, 1, _, T.cls_Beside, T.me_Beside_marks, ok_p_Pair_marks T, hr.mono (by omega), T.b_p_Pair_marks⟩
  split at h
  · rename_i e; subst e; cases h; exact ⟨_, _, _, _, T.cls_All, T.me_All_marks, hq.2, hr, T.b_p_Group_marks⟩
  split at h
  · rename_i e; subst e; cases h; exact ⟨_, _, _, _, T.cls_Any, T.me_Any_marks, hq.2, hr, T.b_p_Group_marks⟩
  split at h
  · rename_i e; subst e; cases h; exact ⟨_, _, _, _, T.cls_Not, T.me_Not_marks, hq.2, hr, T.b_p_Group_marks⟩
  cases h
theorem sc_p_sorted_marks : FnScope ["parts", "seen", "part", "mark"] ["parts"] (defScope (top 2)) := ⟨rfl, rfl, rfl, by decide +kernel, rfl, by decide +kernel, by decide +kernel⟩
theorem okS_p_sorted_marks {P : Program} {w : World} {K : PySem.W.Frag} {mg : Str → Option Value} {base : Heap} {cl : ClsP} (T : Fs P w K mg cl) {r : Nat} {q : Nat → Fn} (hq : OkG_p_sorted_marks T base (2 + r) q) : FnOk P w K mg base (L2N.CX P w) (2 + r + 1) T.a_p_sorted_marks T.d_p_sorted_marks ["parts"] (spOf K cl [true] (mkFn [true] 3 (c_p_sorted_marks q))) := by
  have nd := sc_p_sorted_marks.nd
  refine fn_ok (k := 3) (body := c_p_sorted_marks q) T.F_p_sorted_marks sc_p_sorted_marks rfl rfl fun cdv A outer s H E hr tk => ?_
  refine ss_cons ?_ ?_
  refine ss_setN (i := 1) nd (by rfl) (Or.inl rfl) ?_
  exact sn_dic0
  refine ss_wipe ?_
  refine ss_cons ?_ ?_
  refine ss_for (by exact passes_of rfl) (by rfl) ?_ (pg_name (i := 2) nd (by rfl) (by first | exact Or.inl rfl | exact Or.inr rfl)) (tg_name) ?_
  exact si_bor (pv 0)
  refine ss_wipe ?_
  refine ss_cons ?_ ?_
  refine ss_for (by exact passes_of rfl) (by rfl) ?_ (pg_name (i := 3) nd (by rfl) (by first | exact Or.inl rfl | exact Or.inr rfl)) (tg_name) ?_
  refine si_list ?_
  refine se_meth0 (mtokq_marks T hq hr) ?_ tk
  exact sb_v (pv 2)
  refine ss_cons ?_ ?_
  refine ss_put hr.u1 (pv 1) ?_ ?_
  exact sb_v (pv 3)
  exact se_bl
  refine ss_wipe ?_
  exact ss_nil
  refine ss_wipe ?_
  exact ss_nil
  refine ss_cons ?_ ?_
  refine ss_retN ?_
  refine sn_sortD rfl (by rfl) T.n_sorted ?_
  exact sb_v (pv 1)
  exact ss_nil
theorem sc_p_Group_marks : FnScope ["self"] ["self"] (defScope (inClass (top 10) 1)) := ⟨rfl, rfl, rfl, by decide +kernel, rfl, by decide +kernel, by decide +kernel⟩
theorem okS_p_Group_marks {P : Program} {w : World} {K : PySem.W.Frag} {mg : Str → Option Value} {base : Heap} {cl : ClsP} (T : Fs P w K mg cl) {r : Nat} {q : Nat → Fn} (hq : OkG_p_sorted_marks T base (2 + r) q) : FnOk P w K mg base (L2N.CX P w) (2 + r + 1) T.a_p_Group_marks T.d_p_Group_marks ["self"] (spOf K cl [true] (mkFn [true] 0 (c_p_Group_marks q))) := by
  have nd := sc_p_Group_marks.nd
  refine fn_ok (k := 0) (body := c_p_Group_marks q) T.F_p_Group_marks sc_p_Group_marks rfl rfl fun cdv A outer s H E hr tk => ?_
  refine ss_cons ?_ ?_
  refine ss_retN ?_
  refine sn_call hq.1 (hr.mono (by omega)) (by rfl) T.g_p_sorted_marks T.F_p_sorted_marks.kp T.b_p_sorted_marks tk ?_
  refine sa_b ?_ ?_
  refine SE.toB ?_
  refine se_fld (info T) ?_
  exact sb_v (pv 0)
  exact sa_nil
  exact ss_nil
theorem okG_p_sorted_marks {P : Program} {w : World} {K : PySem.W.Frag} {mg : Str → Option Value} {base : Heap} {cl : ClsP} (T : Fs P w K mg cl) : ∀ r, OkG_p_sorted_marks T base (2 + r) (g_p_sorted_marks r)
  | 0 => ⟨fnOk_stuck, fnOk_stuck⟩
  | r + 1 => ⟨okS_p_sorted_marks T (okG_p_sorted_marks T r), okS_p_Group_marks T (okG_p_sorted_marks T r)⟩
theorem mtok_marks {X : Cx} {cl : ClsP} (T : Fs X.prog X.w X.K X.mg cl) (hr : Room 26 X.A) : MtOk X cl "marks" [] mt_marks := mtokq_marks T (r := 24) (okG_p_sorted_marks T 24) hr
theorem sc_p_Fault_grows : FnScope ["self"] ["self"] (defScope (inClass (top 3) 3)) := ⟨rfl, rfl, rfl, by decide +kernel, rfl, by decide +kernel, by decide +kernel⟩
theorem ok_p_Fault_grows {P : Program} {w : World} {K : PySem.W.Frag} {mg : Str → Option Value} {base : Heap} {cl : ClsP} (T : Fs P w K mg cl) : FnOk P w K mg base (L2N.CX P w) 1 T.a_p_Fault_grows T.d_p_Fault_grows ["self"] (spOf K cl [true] m_p_Fault_grows) := by
  have nd := sc_p_Fault_grows.nd
  refine fn_ok (k := 0) (body := c_p_Fault_grows) T.F_p_Fault_grows sc_p_Fault_grows rfl rfl fun cdv A outer s H E hr tk => ?_
  refine ss_cons ?_ ?_
  refine ss_ret ?_
  exact se_bl
  exact ss_nil
theorem sc_p_Has_init : FnScope ["self", "mark"] ["self", "mark"] (defScope (inClass (top 4) 0)) := ⟨rfl, rfl, rfl, by decide +kernel, rfl, by decide +kernel, by decide +kernel⟩
theorem ok_p_Has_init {P : Program} {w : World} {K : PySem.W.Frag} {mg : Str → Option Value} {base : Heap} {cl : ClsP} (T : Fs P w K mg cl) (c : Nat) : FnOk P w K mg base (L2N.CX P w) 1 T.a_p_Has_init T.d_p_Has_init ["self", "mark"] (spIni K cl c [false] m_p_Has_init) := by
  have nd := sc_p_Has_init.nd
  refine ini_ok (k := 0) (body := c_p_Has_init) T.F_p_Has_init sc_p_Has_init rfl rfl fun cdv A outer s H E hr tk => ?_
  refine ss_cons ?_ ?_
  refine ss_fldMe (info T) (pv 0) ?_
  exact se_v (pv 1)
  refine ss_wipe ?_
  exact ss_nil
theorem sc_p_Has_shown : FnScope ["self"] ["self"] (defScope (inClass (top 4) 3)) := ⟨rfl, rfl, rfl, by decide +kernel, rfl, by decide +kernel, by decide +kernel⟩
theorem ok_p_Has_shown {P : Program} {w : World} {K : PySem.W.Frag} {mg : Str → Option Value} {base : Heap} {cl : ClsP} (T : Fs P w K mg cl) : FnOk P w K mg base (L2N.CX P w) 1 T.a_p_Has_shown T.d_p_Has_shown ["self"] (spOf K cl [true] m_p_Has_shown) := by
  have nd := sc_p_Has_shown.nd
  refine fn_ok (k := 0) (body := c_p_Has_shown) T.F_p_Has_shown sc_p_Has_shown rfl rfl fun cdv A outer s H E hr tk => ?_
  refine ss_cons ?_ ?_
  refine ss_ret ?_
  refine se_add ?_ ?_
  refine SE.toB ?_
  refine se_add ?_ ?_
  refine SE.toB ?_
  exact se_str
  refine SE.toB ?_
  refine se_fld (info T) ?_
  exact sb_v (pv 0)
  refine SE.toB ?_
  exact se_str
  exact ss_nil
theorem sc_p_Many_init : FnScope ["self", "number", "mark"] ["self", "number", "mark"] (defScope (inClass (top 5) 0)) := ⟨rfl, rfl, rfl, by decide +kernel, rfl, by decide +kernel, by decide +kernel⟩
theorem ok_p_Many_init {P : Program} {w : World} {K : PySem.W.Frag} {mg : Str → Option Value} {base : Heap} {cl : ClsP} (T : Fs P w K mg cl) (c : Nat) : FnOk P w K mg base (L2N.CX P w) 1 T.a_p_Many_init T.d_p_Many_init ["self", "number", "mark"] (spIni K cl c [false, false] m_p_Many_init) := by
  have nd := sc_p_Many_init.nd
  refine ini_ok (k := 0) (body := c_p_Many_init) T.F_p_Many_init sc_p_Many_init rfl rfl fun cdv A outer s H E hr tk => ?_
  refine ss_cons ?_ ?_
  refine ss_fldMe (info T) (pv 0) ?_
  exact se_v (pv 1)
  refine ss_cons ?_ ?_
  refine ss_fldMe (info T) (pv 0) ?_
  exact se_v (pv 2)
  refine ss_wipe ?_
  exact ss_nil
theorem sc_p_Many_shown : FnScope ["self"] ["self"] (defScope (inClass (top 5) 3)) := ⟨rfl, rfl, rfl, by decide +kernel, rfl, by decide +kernel, by decide +kernel⟩
theorem ok_p_Many_shown {P : Program} {w : World} {K : PySem.W.Frag} {mg : Str → Option Value} {base : Heap} {cl : ClsP} (T : Fs P w K mg cl) : FnOk P w K mg base (L2N.CX P w) 1 T.a_p_Many_shown T.d_p_Many_shown ["self"] (spOf K cl [true] m_p_Many_shown) := by
  have nd := sc_p_Many_shown.nd
  refine fn_ok (k := 0) (body := c_p_Many_shown) T.F_p_Many_shown sc_p_Many_shown rfl rfl fun cdv A outer s H E hr tk => ?_
  refine ss_cons ?_ ?_
  refine ss_ret ?_
  refine se_add ?_ ?_
  refine SE.toB ?_
  refine se_add ?_ ?_
  refine SE.toB ?_
  refine se_add ?_ ?_
  refine SE.toB ?_
  refine se_add ?_ ?_
  refine SE.toB ?_
  exact se_str
  refine SE.toB ?_
  refine sx_callTy pfM call_str_int cs_str (by rfl) T.n_str (by decide +kernel) ?_
  refine sa_b ?_ ?_
  refine SE.toB ?_
  refine se_fld (info T) ?_
  exact sb_v (pv 0)
  exact sa_nil
  refine SE.toB ?_
  exact se_str
  refine SE.toB ?_
  refine se_fld (info T) ?_
  exact sb_v (pv 0)
  refine SE.toB ?_
  exact se_str
  exact ss_nil
theorem sc_p_Pair_init : FnScope ["self", "one", "other"] ["self", "one", "other"] (defScope (inClass (top 6) 0)) := ⟨rfl, rfl, rfl, by decide +kernel, rfl, by decide +kernel, by decide +kernel⟩
theorem ok_p_Pair_init {P : Program} {w : World} {K : PySem.W.Frag} {mg : Str → Option Value} {base : Heap} {cl : ClsP} (T : Fs P w K mg cl) (c : Nat) : FnOk P w K mg base (L2N.CX P w) 1 T.a_p_Pair_init T.d_p_Pair_init ["self", "one", "other"] (spIni K cl c [false, false] m_p_Pair_init) := by
  have nd := sc_p_Pair_init.nd
  refine ini_ok (k := 0) (body := c_p_Pair_init) T.F_p_Pair_init sc_p_Pair_init rfl rfl fun cdv A outer s H E hr tk => ?_
  refine ss_cons ?_ ?_
  refine ss_fldMe (info T) (pv 0) ?_
  exact se_v (pv 1)
  refine ss_cons ?_ ?_
  refine ss_fldMe (info T) (pv 0) ?_
  exact se_v (pv 2)
  refine ss_wipe ?_
  exact ss_nil
theorem sc_p_All_word : FnScope ["self"] ["self"] (defScope (inClass (top 11) 1)) := ⟨rfl, rfl, rfl, by decide +kernel, rfl, by decide +kernel, by decide +kernel⟩
theorem ok_p_All_word {P : Program} {w : World} {K : PySem.W.Frag} {mg : Str → Option Value} {base : Heap} {cl : ClsP} (T : Fs P w K mg cl) : FnOk P w K mg base (L2N.CX P w) 1 T.a_p_All_word T.d_p_All_word ["self"] (spOf K cl [true] m_p_All_word) := by
  have nd := sc_p_All_word.nd
  refine fn_ok (k := 0) (body := c_p_All_word) T.F_p_All_word sc_p_All_word rfl rfl fun cdv A outer s H E hr tk => ?_
  refine ss_cons ?_ ?_
  refine ss_ret ?_
  exact se_str
  exact ss_nil
theorem sc_p_Any_word : FnScope ["self"] ["self"] (defScope (inClass (top 12) 1)) := ⟨rfl, rfl, rfl, by decide +kernel, rfl, by decide +kernel, by decide +kernel⟩
theorem ok_p_Any_word {P : Program} {w : World} {K : PySem.W.Frag} {mg : Str → Option Value} {base : Heap} {cl : ClsP} (T : Fs P w K mg cl) : FnOk P w K mg base (L2N.CX P w) 1 T.a_p_Any_word T.d_p_Any_word ["self"] (spOf K cl [true] m_p_Any_word) := by
  have nd := sc_p_Any_word.nd
  refine fn_ok (k := 0) (body := c_p_Any_word) T.F_p_Any_word sc_p_Any_word rfl rfl fun cdv A outer s H E hr tk => ?_
  refine ss_cons ?_ ?_
  refine ss_ret ?_
  exact se_str
  exact ss_nil
theorem sc_p_Before_word : FnScope ["self"] ["self"] (defScope (inClass (top 7) 1)) := ⟨rfl, rfl, rfl, by decide +kernel, rfl, by decide +kernel, by decide +kernel⟩
theorem ok_p_Before_word {P : Program} {w : World} {K : PySem.W.Frag} {mg : Str → Option Value} {base : Heap} {cl : ClsP} (T : Fs P w K mg cl) : FnOk P w K mg base (L2N.CX P w) 1 T.a_p_Before_word T.d_p_Before_word ["self"] (spOf K cl [true] m_p_Before_word) := by
  have nd := sc_p_Before_word.nd
  refine fn_ok (k := 0) (body := c_p_Before_word) T.F_p_Before_word sc_p_Before_word rfl rfl fun cdv A outer s H E hr tk => ?_
  refine ss_cons ?_ ?_
  refine ss_ret ?_
  exact se_str
  exact ss_nil
theorem sc_p_Beside_word : FnScope ["self"] ["self"] (defScope (inClass (top 9) 1)) := ⟨rfl, rfl, rfl, by decide +kernel, rfl, by decide +kernel, by decide +kernel⟩
theorem ok_p_Beside_word {P : Program} {w : World} {K : PySem.W.Frag} {mg : Str → Option Value} {base : Heap} {cl : ClsP} (T : Fs P w K mg cl) : FnOk P w K mg base (L2N.CX P w) 1 T.a_p_Beside_word T.d_p_Beside_word ["self"] (spOf K cl [true] m_p_Beside_word) := by
  have nd := sc_p_Beside_word.nd
  refine fn_ok (k := 0) (body := c_p_Beside_word) T.F_p_Beside_word sc_p_Beside_word rfl rfl fun cdv A outer s H E hr tk => ?_
  refine ss_cons ?_ ?_
  refine ss_ret ?_
  exact se_str
  exact ss_nil
theorem sc_p_Not_word : FnScope ["self"] ["self"] (defScope (inClass (top 13) 2)) := ⟨rfl, rfl, rfl, by decide +kernel, rfl, by decide +kernel, by decide +kernel⟩
theorem ok_p_Not_word {P : Program} {w : World} {K : PySem.W.Frag} {mg : Str → Option Value} {base : Heap} {cl : ClsP} (T : Fs P w K mg cl) : FnOk P w K mg base (L2N.CX P w) 1 T.a_p_Not_word T.d_p_Not_word ["self"] (spOf K cl [true] m_p_Not_word) := by
  have nd := sc_p_Not_word.nd
  refine fn_ok (k := 0) (body := c_p_Not_word) T.F_p_Not_word sc_p_Not_word rfl rfl fun cdv A outer s H E hr tk => ?_
  refine ss_cons ?_ ?_
  refine ss_ret ?_
  exact se_str
  exact ss_nil
theorem sc_p_Under_word : FnScope ["self"] ["self"] (defScope (inClass (top 8) 1)) := ⟨rfl, rfl, rfl, by decide +kernel, rfl, by decide +kernel, by decide +kernel⟩
theorem ok_p_Under_word {P : Program} {w : World} {K : PySem.W.Frag} {mg : Str → Option Value} {base : Heap} {cl : ClsP} (T : Fs P w K mg cl) : FnOk P w K mg base (L2N.CX P w) 1 T.a_p_Under_word T.d_p_Under_word ["self"] (spOf K cl [true] m_p_Under_word) := by
  have nd := sc_p_Under_word.nd
  refine fn_ok (k := 0) (body := c_p_Under_word) T.F_p_Under_word sc_p_Under_word rfl rfl fun cdv A outer s H E hr tk => ?_
  refine ss_cons ?_ ?_
  refine ss_ret ?_
  exact se_str
  exact ss_nil
theorem mtok_word {X : Cx} {cl : ClsP} (T : Fs X.prog X.w X.K X.mg cl) (hr : Room 1 X.A) : MtOk X cl "word" [] mt_word := by
  intro c fn h
  unfold mt_word at h
  split at h
  · rename_i e; subst e; cases h; exact ⟨_, _, 1, _, T.cls_Before, T.me_Before_word, ok_p_Before_word T, hr.mono (by decide), T.b_p_Before_word⟩
  split at h
  · rename_i e; subst e; cases h; exact ⟨_, _, 1, _, T.cls_Under, T.me_Under_word, ok_p_Under_word T, hr.mono (by decide), T.b_p_Under_word⟩
  split at h
  · rename_i e; subst e; cases h; exact ⟨_, _, 1, _, T.cls_Beside, T.me_Beside_word, ok_p_Beside_word T, hr.mono (by decide), T.b_p_Beside_word⟩
  split at h
  · rename_i e; subst e; cases h; exact ⟨_, _, 1, _, T.cls_All, T.me_All_word, ok_p_All_word T, hr.mono (by decide), T.b_p_All_word⟩
  split at h
  · rename_i e; subst e; cases h; exact ⟨_, _, 1, _, T.cls_Any, T.me_Any_word, ok_p_Any_word T, hr.mono (by decide), T.b_p_Any_word⟩
  split at h
  · rename_i e; subst e; cases h; exact ⟨_, _, 1, _, T.cls_Not, T.me_Not_word, ok_p_Not_word T, hr.mono (by decide), T.b_p_Not_word⟩
  cases h
theorem sc_p_Pair_shown : FnScope ["self"] ["self"] (defScope (inClass (top 6) 3)) := ⟨rfl, rfl, rfl, by decide +kernel, rfl, by decide +kernel, by decide +kernel⟩
theorem ok_p_Pair_shown {P : Program} {w : World} {K : PySem.W.Frag} {mg : Str → Option Value} {base : Heap} {cl : ClsP} (T : Fs P w K mg cl) : FnOk P w K mg base (L2N.CX P w) 2 T.a_p_Pair_shown T.d_p_Pair_shown ["self"] (spOf K cl [true] m_p_Pair_shown) := by
  have nd := sc_p_Pair_shown.nd
  refine fn_ok (k := 0) (body := c_p_Pair_shown) T.F_p_Pair_shown sc_p_Pair_shown rfl rfl fun cdv A outer s H E hr tk => ?_
  refine ss_cons ?_ ?_
  refine ss_ret ?_
  refine se_add ?_ ?_
  refine SE.toB ?_
  refine se_add ?_ ?_
  refine SE.toB ?_
  refine se_add ?_ ?_
  refine SE.toB ?_
  refine se_add ?_ ?_
  refine SE.toB ?_
  refine se_add ?_ ?_
  refine SE.toB ?_
  refine se_meth0 (mtok_word T (hr.mono (by decide))) ?_ tk
  exact sb_v (pv 0)
  refine SE.toB ?_
  exact se_str
  refine SE.toB ?_
  refine se_fld (info T) ?_
  exact sb_v (pv 0)
  refine SE.toB ?_
  exact se_str
  refine SE.toB ?_
  refine se_fld (info T) ?_
  exact sb_v (pv 0)
  refine SE.toB ?_
  exact se_str
  exact ss_nil
theorem sc_p_Beside_grows : FnScope ["self"] ["self"] (defScope (inClass (top 9) 2)) := ⟨rfl, rfl, rfl, by decide +kernel, rfl, by decide +kernel, by decide +kernel⟩
theorem ok_p_Beside_grows {P : Program} {w : World} {K : PySem.W.Frag} {mg : Str → Option Value} {base : Heap} {cl : ClsP} (T : Fs P w K mg cl) : FnOk P w K mg base (L2N.CX P w) 1 T.a_p_Beside_grows T.d_p_Beside_grows ["self"] (spOf K cl [true] m_p_Beside_grows) := by
  have nd := sc_p_Beside_grows.nd
  refine fn_ok (k := 0) (body := c_p_Beside_grows) T.F_p_Beside_grows sc_p_Beside_grows rfl rfl fun cdv A outer s H E hr tk => ?_
  refine ss_cons ?_ ?_
  refine ss_ret ?_
  exact se_bl
  exact ss_nil
theorem sc_p_Group_init : FnScope ["self", "parts"] ["self", "parts"] (defScope (inClass (top 10) 0)) := ⟨rfl, rfl, rfl, by decide +kernel, rfl, by decide +kernel, by decide +kernel⟩
theorem ok_p_Group_init {P : Program} {w : World} {K : PySem.W.Frag} {mg : Str → Option Value} {base : Heap} {cl : ClsP} (T : Fs P w K mg cl) (c : Nat) : FnOk P w K mg base (L2N.CX P w) 1 T.a_p_Group_init T.d_p_Group_init ["self", "parts"] (spIni K cl c [true] m_p_Group_init) := by
  have nd := sc_p_Group_init.nd
  refine ini_ok (k := 0) (body := c_p_Group_init) T.F_p_Group_init sc_p_Group_init rfl rfl fun cdv A outer s H E hr tk => ?_
  refine ss_cons ?_ ?_
  refine ss_fldMe (info T) (pv 0) ?_
  refine SN.toE ?_
  refine sn_listS (by rfl) T.n_list ?_
  exact sb_v (pv 1)
  refine ss_wipe ?_
  exact ss_nil
def OkG_p_Group_shown {P : Program} {w : World} {K : PySem.W.Frag} {mg : Str → Option Value} {cl : ClsP} (T : Fs P w K mg cl) (base : Heap) (n : Nat) (q : Nat → Fn) : Prop := (FnOk P w K mg base (L2N.CX P w) n T.a_p_Group_shown T.d_p_Group_shown ["self"] (spOf K cl [true] (q 0)))
theorem mtokq_shown {X : Cx} {cl : ClsP} (T : Fs X.prog X.w X.K X.mg cl) {r : Nat} {q : Nat → Fn} (hq : OkG_p_Group_shown T X.base (3 + r) q) (hr : Room (3 + r) X.A) : MtOk X cl "shown" [] (mtq_shown q) := by
  intro c fn h
  unfold mtq_shown at h
  split at h
  · rename_i e; subst e; cases h; exact ⟨_, _, 1, _, T.cls_Has, T.me_Has_shown, ok_p_Has_shown T, hr.mono (by omega), T.b_p_Has_shown⟩
  split at h
  · rename_i e; subst e; cases h; exact ⟨_, _, 1, _, T.cls_Many, T.me_Many_shown, ok_p_Many_shown T, hr.mono (by omega), T.b_p_Many_shown⟩
  split at h
  · rename_i e; subst e; cases h; exact ⟨_, _, 2, _, T.cls_Before, T.me_Before_shown, ok_p_Pair_shown T, hr.mono (by omega), T.b_p_Pair_shown⟩
  split at h
  · rename_i e; subst e; cases h; exact ⟨_, _, 2, _, T.cls_Under, T.me_Under_shown, ok_p_Pair_shown T, hr.mono (by omega), T.b_p_Pair_shown⟩
  split at h
  · rename_i e; subst e; cases h; exact ⟨_, _, 2, _, T.cls_Beside, T.me_Beside_shown, ok_p_Pair_shown T, hr.mono (by omega), T.b_p_Pair_shown⟩
  split at h
  · rename_i e; subst e; cases h; exact ⟨_, _, _, _, T.cls_All, T.me_All_shown, hq, hr, T.b_p_Group_shown⟩
  split at h
  · rename_i e; subst e; cases h; exact ⟨_, _, _, _, T.cls_Any, T.me_Any_shown, hq, hr, T.b_p_Group_shown⟩
  split at h
  · rename_i e; subst e; cases h; exact ⟨_, _, _, _, T.cls_Not, T.me_Not_shown, hq, hr, T.b_p_Group_shown⟩
  cases h
theorem sc_p_Group_shown : FnScope ["self", "part"] ["self"] (defScope (inClass (top 10) 3)) := ⟨rfl, rfl, rfl, by decide +kernel, rfl, by decide +kernel, by decide +kernel⟩
theorem okS_p_Group_shown {P : Program} {w : World} {K : PySem.W.Frag} {mg : Str → Option Value} {base : Heap} {cl : ClsP} (T : Fs P w K mg cl) {r : Nat} {q : Nat → Fn} (hq : OkG_p_Group_shown T base (3 + r) q) : FnOk P w K mg base (L2N.CX P w) (3 + r + 1) T.a_p_Group_shown T.d_p_Group_shown ["self"] (spOf K cl [true] (mkFn [true] 1 (c_p_Group_shown q))) := by
  have nd := sc_p_Group_shown.nd
  refine fn_ok (k := 1) (body := c_p_Group_shown q) T.F_p_Group_shown sc_p_Group_shown rfl rfl fun cdv A outer s H E hr tk => ?_
  refine ss_cons ?_ ?_
  refine ss_ret ?_
  refine se_add ?_ ?_
  refine SE.toB ?_
  refine se_add ?_ ?_
  refine SE.toB ?_
  refine se_add ?_ ?_
  refine SE.toB ?_
  refine se_meth0 (mtok_word T (hr.mono (by omega))) ?_ tk
  exact sb_v (pv 0)
  refine SE.toB ?_
  exact se_str
  refine SE.toB ?_
  refine se_join ?_ ?_
  refine SE.toB ?_
  exact se_str
  refine SE.toB ?_
  refine SN.toE ?_
  refine sn_lc (own := [("part", 1)]) rfl nd ?_ ?_ (fun _ _ _ _ _ => pg_name (i := 1) nd (by rfl) (by first | exact Or.inl rfl | exact Or.inr rfl)) (tg_name) (tgo_name (by decide)) ?_ ?_
  refine si_list ?_
  refine se_fld (info T) ?_
  exact sb_v (pv 0)
  exact blkOk_by (N := ["self", "part"]) (sc := defScope (inClass (top 10) 3)) (own := [("part", 1)]) (by decide +kernel)
  intro _ _ _ _ _
  exact sts_nil
  intro _ _ _ _ _
  refine se_meth0 (mtokq_shown T hq hr) ?_ takes0
  exact sb_v (pv 1)
  refine SE.toB ?_
  exact se_str
  exact ss_nil
theorem okG_p_Group_shown {P : Program} {w : World} {K : PySem.W.Frag} {mg : Str → Option Value} {base : Heap} {cl : ClsP} (T : Fs P w K mg cl) : ∀ r, OkG_p_Group_shown T base (3 + r) (g_p_Group_shown r)
  | 0 => fnOk_stuck
  | r + 1 => okS_p_Group_shown T (okG_p_Group_shown T r)
theorem mtok_shown {X : Cx} {cl : ClsP} (T : Fs X.prog X.w X.K X.mg cl) (hr : Room 27 X.A) : MtOk X cl "shown" [] mt_shown := mtokq_shown T (r := 24) (okG_p_Group_shown T 24) hr
theorem sc_p_Not_grows : FnScope ["self"] ["self"] (defScope (inClass (top 13) 3)) := ⟨rfl, rfl, rfl, by decide +kernel, rfl, by decide +kernel, by decide +kernel⟩
theorem ok_p_Not_grows {P : Program} {w : World} {K : PySem.W.Frag} {mg : Str → Option Value} {base : Heap} {cl : ClsP} (T : Fs P w K mg cl) : FnOk P w K mg base (L2N.CX P w) 1 T.a_p_Not_grows T.d_p_Not_grows ["self"] (spOf K cl [true] m_p_Not_grows) := by
  have nd := sc_p_Not_grows.nd
  refine fn_ok (k := 0) (body := c_p_Not_grows) T.F_p_Not_grows sc_p_Not_grows rfl rfl fun cdv A outer s H E hr tk => ?_
  refine ss_cons ?_ ?_
  refine ss_ret ?_
  exact se_bl
  exact ss_nil
def OkG_p_Group_grows {P : Program} {w : World} {K : PySem.W.Frag} {mg : Str → Option Value} {cl : ClsP} (T : Fs P w K mg cl) (base : Heap) (n : Nat) (q : Nat → Fn) : Prop := (FnOk P w K mg base (L2N.CX P w) n T.a_p_Group_grows T.d_p_Group_grows ["self"] (spOf K cl [true] (q 0)))
theorem mtokq_grows {X : Cx} {cl : ClsP} (T : Fs X.prog X.w X.K X.mg cl) {r : Nat} {q : Nat → Fn} (hq : OkG_p_Group_grows T X.base (2 + r) q) (hr : Room (2 + r) X.A) : MtOk X cl "grows" [] (mtq_grows q) := by
  intro c fn h
  unfold mtq_grows at h
  split at h
  · rename_i e; subst e; cases h; exact ⟨_, _, 1, _, T.cls_Has, T.me_Has_grows, ok_p_Fault_grows T, hr.mono (by omega), T.b_p_Fault_grows⟩
  split at h
  · rename_i e; subst e; cases h; exact ⟨_, _, 1, _, T.cls_Many, T.me_Many_grows, ok_p_Fault_grows T, hr.mono (by omega), T.b_p_Fault_grows⟩
  split at h
  · rename_i e; subst e; cases h; exact ⟨_, _, 1, _, T.cls_Before, T.me_Before_grows, ok_p_Fault_grows T, hr.mono (by omega), T.b_p_Fault_grows⟩
  split at h
  · rename_i e; subst e; cases h; exact ⟨_, _, 1, _, T.cls_Under, T.me_Under_grows, ok_p_Fault_grows T, hr.mono (by omega), T.b_p_Fault_grows⟩
  split at h
  · rename_i e; subst e; cases h; exact ⟨_, _, 1, _, T.cls_Beside, T.me_Beside_grows, ok_p_Beside_grows T, hr.mono (by omega), T.b_p_Beside_grows⟩
  split at h
  · rename_i e; subst e; cases h; exact ⟨_, _, _, _, T.cls_All, T.me_All_grows, hq, hr, T.b_p_Group_grows⟩
  split at h
  · rename_i e; subst e; cases h; exact ⟨_, _, _, _, T.cls_Any, T.me_Any_grows, hq, hr, T.b_p_Group_grows⟩
  split at h
  · rename_i e; subst e; cases h; exact ⟨_, _, 1, _, T.cls_Not, T.me_Not_grows, ok_p_Not_grows T, hr.mono (by omega), T.b_p_Not_grows⟩
  cases h
theorem sc_p_Group_grows : FnScope ["self", "part"] ["self"] (defScope (inClass (top 10) 4)) := ⟨rfl, rfl, rfl, by decide +kernel, rfl, by decide +kernel, by decide +kernel⟩
theorem okS_p_Group_grows {P : Program} {w : World} {K : PySem.W.Frag} {mg : Str → Option Value} {base : Heap} {cl : ClsP} (T : Fs P w K mg cl) {r : Nat} {q : Nat → Fn} (hq : OkG_p_Group_grows T base (2 + r) q) : FnOk P w K mg base (L2N.CX P w) (2 + r + 1) T.a_p_Group_grows T.d_p_Group_grows ["self"] (spOf K cl [true] (mkFn [true] 1 (c_p_Group_grows q))) := by
  have nd := sc_p_Group_grows.nd
  refine fn_ok (k := 1) (body := c_p_Group_grows q) T.F_p_Group_grows sc_p_Group_grows rfl rfl fun cdv A outer s H E hr tk => ?_
  refine ss_cons ?_ ?_
  refine ss_ret ?_
  refine sx_callB pfM (cr_all rfl) cs_all (by rfl) T.n_all (by decide +kernel) ?_
  refine sa_b ?_ ?_
  refine SE.toB ?_
  refine SN.toE ?_
  refine sn_lc (own := [("part", 1)]) rfl nd ?_ ?_ (fun _ _ _ _ _ => pg_name (i := 1) nd (by rfl) (by first | exact Or.inl rfl | exact Or.inr rfl)) (tg_name) (tgo_name (by decide)) ?_ ?_
  refine si_list ?_
  refine se_fld (info T) ?_
  exact sb_v (pv 0)
  exact blkOk_by (N := ["self", "part"]) (sc := defScope (inClass (top 10) 4)) (own := [("part", 1)]) (by decide +kernel)
  intro _ _ _ _ _
  exact sts_nil
  intro _ _ _ _ _
  refine se_meth0 (mtokq_grows T hq hr) ?_ takes0
  exact sb_v (pv 1)
  exact sa_nil
  exact ss_nil
theorem okG_p_Group_grows {P : Program} {w : World} {K : PySem.W.Frag} {mg : Str → Option Value} {base : Heap} {cl : ClsP} (T : Fs P w K mg cl) : ∀ r, OkG_p_Group_grows T base (2 + r) (g_p_Group_grows r)
  | 0 => fnOk_stuck
  | r + 1 => okS_p_Group_grows T (okG_p_Group_grows T r)
theorem mtok_grows {X : Cx} {cl : ClsP} (T : Fs X.prog X.w X.K X.mg cl) (hr : Room 26 X.A) : MtOk X cl "grows" [] mt_grows := mtokq_grows T (r := 24) (okG_p_Group_grows T 24) hr
theorem sc_p_Not_init : FnScope ["self", "part"] ["self", "part"] (defScope (inClass (top 13) 0)) := ⟨rfl, rfl, rfl, by decide +kernel, rfl, by decide +kernel, by decide +kernel⟩
theorem ok_p_Not_init {P : Program} {w : World} {K : PySem.W.Frag} {mg : Str → Option Value} {base : Heap} {cl : ClsP} (T : Fs P w K mg cl) (c : Nat) : FnOk P w K mg base (L2N.CX P w) 3 T.a_p_Not_init T.d_p_Not_init ["self", "part"] (spIni K cl c [false] m_p_Not_init) := by
  have nd := sc_p_Not_init.nd
  refine ini_ok (k := 0) (body := c_p_Not_init) T.F_p_Not_init sc_p_Not_init rfl rfl fun cdv A outer s H E hr tk => ?_
  refine ss_cons ?_ ?_
  refine ss_base (by rfl) T.gc_Group ⟨T.rb_Group, T.rg_Group⟩ T.rf_Group T.F_p_Group_init.kp (fun c => ok_p_Group_init T c) (hr.mono (by decide)) T.b_p_Group_init tk (pv 0) ?_
  refine sa_f ?_ ?_
  refine SN.toE ?_
  refine sn_lst (bm := [false]) ?_
  refine sa_f ?_ ?_
  exact se_v (pv 1)
  exact sa_nil
  exact sa_nil
  refine ss_wipe ?_
  exact ss_nil
theorem sc_l_cell_at : FnScope ["_law_script", "_law_k"] ["_law_script", "_law_k"] (defScope (top 15)) := ⟨rfl, rfl, rfl, by decide +kernel, rfl, by decide +kernel, by decide +kernel⟩
theorem ok_l_cell_at {P : Program} {w : World} {K : PySem.W.Frag} {mg : Str → Option Value} {base : Heap} {cl : ClsP} (T : Fs P w K mg cl) : FnOk P w K mg base (L2N.CX P w) 1 T.a_l_cell_at T.d_l_cell_at ["_law_script", "_law_k"] (spOf K cl [true, true] m_l_cell_at) := by
  have nd := sc_l_cell_at.nd
  refine fn_ok (k := 0) (body := c_l_cell_at) T.F_l_cell_at sc_l_cell_at rfl rfl fun cdv A outer s H E hr tk => ?_
  refine ss_cons ?_ ?_
  refine ss_if ?_ ?_ ?_
  refine st_lt ?_ ?_
  exact sb_v (pv 1)
  refine SE.toB ?_
  refine sx_callB pfM call_len cs_len (by rfl) T.n_len (by decide +kernel) ?_
  refine sa_b ?_ ?_
  exact sb_v (pv 0)
  exact sa_nil
  refine ss_cons ?_ ?_
  refine ss_ret ?_
  refine se_ix ?_ ?_
  exact sb_v (pv 0)
  exact sb_v (pv 1)
  exact ss_nil
  exact ss_nil
  refine ss_cons ?_ ?_
  refine ss_ret ?_
  refine se_add ?_ ?_
  refine SE.toB ?_
  refine se_mul ?_ ?_
  refine SE.toB ?_
  exact se_int
  exact sb_v (pv 1)
  refine SE.toB ?_
  exact se_int
  exact ss_nil
theorem sc_l_names : FnScope ["_law_cell", "_law_many", "_law_letters", "_law_size", "_law_at", "_law_found", "_law_rest", "_law_k", "_law_name", "_law_more", "_law_j", "_law_place"] ["_law_cell", "_law_many"] (defScope (top 16)) := ⟨rfl, rfl, rfl, by decide +kernel, rfl, by decide +kernel, by decide +kernel⟩
theorem ok_l_names {P : Program} {w : World} {K : PySem.W.Frag} {mg : Str → Option Value} {base : Heap} {cl : ClsP} (T : Fs P w K mg cl) : FnOk P w K mg base (L2N.CX P w) 1 T.a_l_names T.d_l_names ["_law_cell", "_law_many"] (spOf K cl [true, true] m_l_names) := by
  have nd := sc_l_names.nd
  refine fn_ok (k := 10) (body := c_l_names) T.F_l_names sc_l_names rfl rfl fun cdv A outer s H E hr tk => ?_
  refine ss_cons ?_ ?_
  refine ss_set (i := 2) nd (by rfl) (Or.inl rfl) ?_
  exact se_str
  refine ss_cons ?_ ?_
  refine ss_set (i := 3) nd (by rfl) (Or.inl rfl) ?_
  refine se_add ?_ ?_
  refine SE.toB ?_
  exact se_int
  refine SE.toB ?_
  refine se_mod ?_ ?_
  exact sb_v (pv 0)
  refine SE.toB ?_
  exact se_int
  refine ss_cons ?_ ?_
  refine ss_set (i := 4) nd (by rfl) (Or.inl rfl) ?_
  refine se_mod ?_ ?_
  refine SE.toB ?_
  refine se_div ?_ ?_
  exact sb_v (pv 0)
  refine SE.toB ?_
  exact se_int
  exact sb_v (pv 3)
  refine ss_cons ?_ ?_
  refine ss_setN (i := 5) nd (by rfl) (Or.inl rfl) ?_
  refine sn_lst (bm := []) ?_
  exact sa_nil
  refine ss_cons ?_ ?_
  refine ss_set (i := 6) nd (by rfl) (Or.inl rfl) ?_
  refine se_div ?_ ?_
  exact sb_v (pv 0)
  refine SE.toB ?_
  exact se_int
  refine ss_wipe ?_
  refine ss_cons ?_ ?_
  refine ss_for (by exact passes_of rfl) (by rfl) ?_ (pg_name (i := 7) nd (by rfl) (by first | exact Or.inl rfl | exact Or.inr rfl)) (tg_name) ?_
  refine si_range1 (by rfl) T.n_range ?_
  refine sa_b ?_ ?_
  refine SE.toB ?_
  refine se_mul ?_ ?_
  refine SE.toB ?_
  refine se_mul ?_ ?_
  exact sb_v (pv 1)
  refine SE.toB ?_
  refine se_mod ?_ ?_
  exact sb_v (pv 0)
  refine SE.toB ?_
  exact se_int
  refine SE.toB ?_
  refine sx_callTy pfM call_intAll cs_int (by rfl) T.n_int (by decide +kernel) ?_
  refine sa_b ?_ ?_
  refine SE.toB ?_
  refine se_gt ?_ ?_
  exact sb_v (pv 0)
  refine SE.toB ?_
  refine se_pow ?_ ?_
  refine SE.toB ?_
  exact se_int
  refine SE.toB ?_
  exact se_int
  exact sa_nil
  exact sa_nil
  refine ss_cons ?_ ?_
  refine ss_set (i := 8) nd (by rfl) (Or.inl rfl) ?_
  refine se_ix ?_ ?_
  exact sb_v (pv 2)
  refine SE.toB ?_
  refine se_mod ?_ ?_
  refine SE.toB ?_
  refine se_div ?_ ?_
  exact sb_v (pv 6)
  refine SE.toB ?_
  exact se_int
  refine SE.toB ?_
  exact se_int
  refine ss_cons ?_ ?_
  refine ss_set (i := 9) nd (by rfl) (Or.inl rfl) ?_
  refine se_mod ?_ ?_
  exact sb_v (pv 6)
  refine SE.toB ?_
  exact se_int
  refine ss_cons ?_ ?_
  refine ss_set (i := 6) nd (by rfl) (Or.inl rfl) ?_
  refine se_div ?_ ?_
  exact sb_v (pv 6)
  refine SE.toB ?_
  exact se_int
  refine ss_wipe ?_
  refine ss_cons ?_ ?_
  refine ss_for (by exact passes_of rfl) (by rfl) ?_ (pg_name (i := 10) nd (by rfl) (by first | exact Or.inl rfl | exact Or.inr rfl)) (tg_name) ?_
  refine si_range1 (by rfl) T.n_range ?_
  refine sa_b ?_ ?_
  exact sb_v (pv 9)
  exact sa_nil
  refine ss_cons ?_ ?_
  refine ss_set (i := 8) nd (by rfl) (Or.inl rfl) ?_
  refine se_add ?_ ?_
  exact sb_v (pv 8)
  refine SE.toB ?_
  refine se_ix ?_ ?_
  exact sb_v (pv 2)
  refine SE.toB ?_
  refine se_mod ?_ ?_
  exact sb_v (pv 6)
  refine SE.toB ?_
  exact se_int
  refine ss_cons ?_ ?_
  refine ss_set (i := 6) nd (by rfl) (Or.inl rfl) ?_
  refine se_div ?_ ?_
  exact sb_v (pv 6)
  refine SE.toB ?_
  exact se_int
  refine ss_wipe ?_
  exact ss_nil
  refine ss_cons ?_ ?_
  refine ss_lm PySem.F.slot_list_append PySem.F.type_list_append mt_append lm_append (pv 5) ?_
  refine sa_f ?_ ?_
  exact se_v (pv 8)
  exact sa_nil
  refine ss_wipe ?_
  exact ss_nil
  refine ss_cons ?_ ?_
  refine ss_if ?_ ?_ ?_
  refine st_ne hr.units ?_ ?_
  exact sb_v (pv 5)
  refine SE.toB ?_
  refine SN.toE ?_
  refine sn_lst (bm := []) ?_
  exact sa_nil
  refine ss_cons ?_ ?_
  exact ss_retV (pv 5)
  exact ss_nil
  exact ss_nil
  refine ss_wipe ?_
  refine ss_cons ?_ ?_
  refine ss_for (by exact passes_of rfl) (by rfl) ?_ (pg_name (i := 7) nd (by rfl) (by first | exact Or.inl rfl | exact Or.inr rfl)) (tg_name) ?_
  refine si_range1 (by rfl) T.n_range ?_
  refine sa_b ?_ ?_
  exact sb_v (pv 1)
  exact sa_nil
  refine ss_cons ?_ ?_
  refine ss_set (i := 8) nd (by rfl) (Or.inl rfl) ?_
  exact se_str
  refine ss_wipe ?_
  refine ss_cons ?_ ?_
  refine ss_for (by exact passes_of rfl) (by rfl) ?_ (pg_name (i := 10) nd (by rfl) (by first | exact Or.inl rfl | exact Or.inr rfl)) (tg_name) ?_
  refine si_range1 (by rfl) T.n_range ?_
  refine sa_b ?_ ?_
  exact sb_v (pv 3)
  exact sa_nil
  refine ss_cons ?_ ?_
  refine ss_set (i := 11) nd (by rfl) (Or.inl rfl) ?_
  refine se_add ?_ ?_
  refine SE.toB ?_
  refine se_div ?_ ?_
  exact sb_v (pv 0)
  refine SE.toB ?_
  refine se_add ?_ ?_
  refine SE.toB ?_
  exact se_int
  refine SE.toB ?_
  refine se_mul ?_ ?_
  refine SE.toB ?_
  exact se_int
  exact sb_v (pv 10)
  refine SE.toB ?_
  refine se_mul ?_ ?_
  exact sb_v (pv 10)
  exact sb_v (pv 10)
  refine ss_cons ?_ ?_
  refine ss_if ?_ ?_ ?_
  refine st_eq hr.units ?_ ?_
  exact sb_v (pv 10)
  exact sb_v (pv 4)
  refine ss_cons ?_ ?_
  refine ss_set (i := 11) nd (by rfl) (Or.inl rfl) ?_
  refine se_add ?_ ?_
  exact sb_v (pv 11)
  exact sb_v (pv 7)
  refine ss_wipe ?_
  exact ss_nil
  refine ss_wipe ?_
  exact ss_nil
  refine ss_cons ?_ ?_
  refine ss_set (i := 8) nd (by rfl) (Or.inl rfl) ?_
  refine se_add ?_ ?_
  exact sb_v (pv 8)
  refine SE.toB ?_
  refine se_ix ?_ ?_
  exact sb_v (pv 2)
  refine SE.toB ?_
  refine se_mod ?_ ?_
  exact sb_v (pv 11)
  refine SE.toB ?_
  exact se_int
  refine ss_wipe ?_
  exact ss_nil
  refine ss_cons ?_ ?_
  refine ss_lm PySem.F.slot_list_append PySem.F.type_list_append mt_append lm_append (pv 5) ?_
  refine sa_f ?_ ?_
  exact se_v (pv 8)
  exact sa_nil
  refine ss_wipe ?_
  exact ss_nil
  refine ss_cons ?_ ?_
  exact ss_retV (pv 5)
  exact ss_nil
theorem sc_l_leaf : FnScope ["_law_cell", "_law_names_here", "_law_one", "_law_other", "_law_word"] ["_law_cell", "_law_names_here"] (defScope (top 17)) := ⟨rfl, rfl, rfl, by decide +kernel, rfl, by decide +kernel, by decide +kernel⟩
theorem ok_l_leaf {P : Program} {w : World} {K : PySem.W.Frag} {mg : Str → Option Value} {base : Heap} {cl : ClsP} (T : Fs P w K mg cl) : FnOk P w K mg base (L2N.CX P w) 1 T.a_l_leaf T.d_l_leaf ["_law_cell", "_law_names_here"] (spOf K cl [true, true] m_l_leaf) := by
  have nd := sc_l_leaf.nd
  refine fn_ok (k := 3) (body := c_l_leaf) T.F_l_leaf sc_l_leaf rfl rfl fun cdv A outer s H E hr tk => ?_
  refine ss_cons ?_ ?_
  refine ss_set (i := 2) nd (by rfl) (Or.inl rfl) ?_
  refine se_ix ?_ ?_
  exact sb_v (pv 1)
  refine SE.toB ?_
  refine se_mod ?_ ?_
  refine SE.toB ?_
  refine se_div ?_ ?_
  exact sb_v (pv 0)
  refine SE.toB ?_
  exact se_int
  refine SE.toB ?_
  refine sx_callB pfM call_len cs_len (by rfl) T.n_len (by decide +kernel) ?_
  refine sa_b ?_ ?_
  exact sb_v (pv 1)
  exact sa_nil
  refine ss_cons ?_ ?_
  refine ss_set (i := 3) nd (by rfl) (Or.inl rfl) ?_
  refine se_ix ?_ ?_
  exact sb_v (pv 1)
  refine SE.toB ?_
  refine se_mod ?_ ?_
  refine SE.toB ?_
  refine se_div ?_ ?_
  exact sb_v (pv 0)
  refine SE.toB ?_
  refine se_mul ?_ ?_
  refine SE.toB ?_
  exact se_int
  refine SE.toB ?_
  refine sx_callB pfM call_len cs_len (by rfl) T.n_len (by decide +kernel) ?_
  refine sa_b ?_ ?_
  exact sb_v (pv 1)
  exact sa_nil
  refine SE.toB ?_
  refine sx_callB pfM call_len cs_len (by rfl) T.n_len (by decide +kernel) ?_
  refine sa_b ?_ ?_
  exact sb_v (pv 1)
  exact sa_nil
  refine ss_cons ?_ ?_
  refine ss_set (i := 4) nd (by rfl) (Or.inl rfl) ?_
  refine se_ix ?_ ?_
  refine SE.toB ?_
  refine SN.toE ?_
  refine sn_lst (bm := [false, false, false, false, false, false, false, false]) ?_
  refine sa_f ?_ ?_
  exact se_str
  refine sa_f ?_ ?_
  exact se_str
  refine sa_f ?_ ?_
  exact se_str
  refine sa_f ?_ ?_
  exact se_str
  refine sa_f ?_ ?_
  exact se_str
  refine sa_f ?_ ?_
  exact se_str
  refine sa_f ?_ ?_
  exact se_str
  refine sa_f ?_ ?_
  exact se_str
  exact sa_nil
  refine SE.toB ?_
  refine se_mod ?_ ?_
  exact sb_v (pv 0)
  refine SE.toB ?_
  exact se_int
  refine ss_cons ?_ ?_
  refine ss_if ?_ ?_ ?_
  refine st_eq hr.units ?_ ?_
  exact sb_v (pv 4)
  refine SE.toB ?_
  exact se_str
  refine ss_cons ?_ ?_
  refine ss_ret ?_
  refine se_tup (bm := [false, false]) ?_
  refine sa_f ?_ ?_
  exact se_str
  refine sa_f ?_ ?_
  exact se_v (pv 2)
  exact sa_nil
  exact ss_nil
  exact ss_nil
  refine ss_cons ?_ ?_
  refine ss_if ?_ ?_ ?_
  refine st_eq hr.units ?_ ?_
  exact sb_v (pv 4)
  refine SE.toB ?_
  exact se_str
  refine ss_cons ?_ ?_
  refine ss_ret ?_
  refine se_tup (bm := [false, false, false]) ?_
  refine sa_f ?_ ?_
  exact se_str
  refine sa_f ?_ ?_
  refine se_add ?_ ?_
  refine SE.toB ?_
  exact se_int
  refine SE.toB ?_
  refine se_mod ?_ ?_
  refine SE.toB ?_
  refine se_div ?_ ?_
  exact sb_v (pv 0)
  refine SE.toB ?_
  refine se_mul ?_ ?_
  refine SE.toB ?_
  exact se_int
  refine SE.toB ?_
  refine sx_callB pfM call_len cs_len (by rfl) T.n_len (by decide +kernel) ?_
  refine sa_b ?_ ?_
  exact sb_v (pv 1)
  exact sa_nil
  refine SE.toB ?_
  exact se_int
  refine sa_f ?_ ?_
  exact se_v (pv 2)
  exact sa_nil
  exact ss_nil
  exact ss_nil
  refine ss_cons ?_ ?_
  refine ss_ret ?_
  refine se_tup (bm := [false, false, false]) ?_
  refine sa_f ?_ ?_
  exact se_v (pv 4)
  refine sa_f ?_ ?_
  exact se_v (pv 2)
  refine sa_f ?_ ?_
  exact se_v (pv 3)
  exact sa_nil
  exact ss_nil
theorem sc_l_term : FnScope ["_law_script", "_law_begin", "_law_many", "_law_names_here", "_law_stack", "_law_k", "_law_cell", "_law_way", "_law_size"] ["_law_script", "_law_begin", "_law_many", "_law_names_here"] (defScope (top 18)) := ⟨rfl, rfl, rfl, by decide +kernel, rfl, by decide +kernel, by decide +kernel⟩
theorem ok_l_term {P : Program} {w : World} {K : PySem.W.Frag} {mg : Str → Option Value} {base : Heap} {cl : ClsP} (T : Fs P w K mg cl) : FnOk P w K mg base (L2N.CX P w) 2 T.a_l_term T.d_l_term ["_law_script", "_law_begin", "_law_many", "_law_names_here"] (spOf K cl [true, true, true, true] m_l_term) := by
  have nd := sc_l_term.nd
  refine fn_ok (k := 5) (body := c_l_term) T.F_l_term sc_l_term rfl rfl fun cdv A outer s H E hr tk => ?_
  refine ss_cons ?_ ?_
  refine ss_setN (i := 4) nd (by rfl) (Or.inl rfl) ?_
  refine sn_lst (bm := [false]) ?_
  refine sa_f ?_ ?_
  refine se_call (ok_l_leaf T) (hr.mono (by decide)) (by rfl) T.g_l_leaf T.F_l_leaf.kp T.b_l_leaf tk ?_
  refine sa_b ?_ ?_
  refine SE.toB ?_
  refine se_call (ok_l_cell_at T) (hr.mono (by decide)) (by rfl) T.g_l_cell_at T.F_l_cell_at.kp T.b_l_cell_at tk ?_
  refine sa_b ?_ ?_
  exact sb_v (pv 0)
  refine sa_b ?_ ?_
  exact sb_v (pv 1)
  exact sa_nil
  refine sa_b ?_ ?_
  exact sb_v (pv 3)
  exact sa_nil
  exact sa_nil
  refine ss_wipe ?_
  refine ss_cons ?_ ?_
  refine ss_for (by exact passes_of rfl) (by rfl) ?_ (pg_name (i := 5) nd (by rfl) (by first | exact Or.inl rfl | exact Or.inr rfl)) (tg_name) ?_
  refine si_range2 (by rfl) T.n_range ?_
  refine sa_b ?_ ?_
  refine SE.toB ?_
  exact se_int
  refine sa_b ?_ ?_
  exact sb_v (pv 2)
  exact sa_nil
  refine ss_cons ?_ ?_
  refine ss_set (i := 6) nd (by rfl) (Or.inl rfl) ?_
  refine se_call (ok_l_cell_at T) (hr.mono (by decide)) (by rfl) T.g_l_cell_at T.F_l_cell_at.kp T.b_l_cell_at tk ?_
  refine sa_b ?_ ?_
  exact sb_v (pv 0)
  refine sa_b ?_ ?_
  refine SE.toB ?_
  refine se_add ?_ ?_
  exact sb_v (pv 1)
  exact sb_v (pv 5)
  exact sa_nil
  refine ss_cons ?_ ?_
  refine ss_set (i := 7) nd (by rfl) (Or.inl rfl) ?_
  refine se_mod ?_ ?_
  exact sb_v (pv 6)
  refine SE.toB ?_
  exact se_int
  refine ss_cons ?_ ?_
  refine ss_if ?_ ?_ ?_
  refine st_eq hr.units ?_ ?_
  exact sb_v (pv 7)
  refine SE.toB ?_
  exact se_int
  refine ss_cons ?_ ?_
  exact ss_popApp (pv 4) (pv 4)
  exact ss_nil
  refine ss_cons ?_ ?_
  refine ss_if ?_ ?_ ?_
  refine st_w ?_
  refine sw_and ?_ ?_
  refine st_gt ?_ ?_
  exact sb_v (pv 7)
  refine SE.toB ?_
  exact se_int
  refine sw_and1 ?_
  refine st_gt ?_ ?_
  refine SE.toB ?_
  refine sx_callB pfM call_len cs_len (by rfl) T.n_len (by decide +kernel) ?_
  refine sa_b ?_ ?_
  exact sb_v (pv 4)
  exact sa_nil
  refine SE.toB ?_
  exact se_int
  refine ss_cons ?_ ?_
  refine ss_set (i := 8) nd (by rfl) (Or.inl rfl) ?_
  refine se_add ?_ ?_
  refine SE.toB ?_
  exact se_int
  refine SE.toB ?_
  refine se_mod ?_ ?_
  refine SE.toB ?_
  refine se_div ?_ ?_
  exact sb_v (pv 6)
  refine SE.toB ?_
  exact se_int
  refine SE.toB ?_
  refine se_sub ?_ ?_
  refine SE.toB ?_
  refine sx_callB pfM (call_min2 rfl) cs_min2 (by rfl) T.n_min (by decide +kernel) ?_
  refine sa_b ?_ ?_
  refine SE.toB ?_
  exact se_int
  refine sa_b ?_ ?_
  refine SE.toB ?_
  refine sx_callB pfM call_len cs_len (by rfl) T.n_len (by decide +kernel) ?_
  refine sa_b ?_ ?_
  exact sb_v (pv 4)
  exact sa_nil
  exact sa_nil
  refine SE.toB ?_
  exact se_int
  refine ss_cons ?_ ?_
  refine ss_setN (i := 4) nd (by rfl) (Or.inl rfl) ?_
  refine sn_add ?_ ?_
  refine SE.toB ?_
  refine se_cut ?_ ?_ ?_
  exact sb_v (pv 4)
  exact so_no
  refine so_at ?_
  refine SE.toB ?_
  refine se_neg ?_
  exact sb_v (pv 8)
  refine SE.toB ?_
  refine SN.toE ?_
  refine sn_lst (bm := [false]) ?_
  refine sa_f ?_ ?_
  refine se_add ?_ ?_
  refine SE.toB ?_
  refine se_tup (bm := [false]) ?_
  refine sa_f ?_ ?_
  refine se_ix ?_ ?_
  refine SE.toB ?_
  refine SN.toE ?_
  refine sn_lst (bm := [false, false]) ?_
  refine sa_f ?_ ?_
  exact se_str
  refine sa_f ?_ ?_
  exact se_str
  exact sa_nil
  refine SE.toB ?_
  refine se_sub ?_ ?_
  exact sb_v (pv 7)
  refine SE.toB ?_
  exact se_int
  exact sa_nil
  refine SE.toB ?_
  refine sx_callTy pfM call_tuple_of cs_tuple (by rfl) T.n_tuple (by decide +kernel) ?_
  refine sa_b ?_ ?_
  refine SE.toB ?_
  refine se_cut ?_ ?_ ?_
  exact sb_v (pv 4)
  refine so_at ?_
  refine SE.toB ?_
  refine se_neg ?_
  exact sb_v (pv 8)
  exact so_no
  exact sa_nil
  exact sa_nil
  exact ss_nil
  refine ss_cons ?_ ?_
  refine ss_lm PySem.F.slot_list_append PySem.F.type_list_append mt_append lm_append (pv 4) ?_
  refine sa_f ?_ ?_
  refine se_call (ok_l_leaf T) (hr.mono (by decide)) (by rfl) T.g_l_leaf T.F_l_leaf.kp T.b_l_leaf tk ?_
  refine sa_b ?_ ?_
  refine SE.toB ?_
  refine se_div ?_ ?_
  exact sb_v (pv 6)
  refine SE.toB ?_
  exact se_int
  refine sa_b ?_ ?_
  exact sb_v (pv 3)
  exact sa_nil
  exact sa_nil
  exact ss_nil
  exact ss_nil
  refine ss_wipe ?_
  exact ss_nil
  refine ss_wipe ?_
  refine ss_cons ?_ ?_
  refine ss_while (by exact passes_of rfl) ?_ ?_
  refine st_gt ?_ ?_
  refine SE.toB ?_
  refine sx_callB pfM call_len cs_len (by rfl) T.n_len (by decide +kernel) ?_
  refine sa_b ?_ ?_
  exact sb_v (pv 4)
  exact sa_nil
  refine SE.toB ?_
  exact se_int
  refine ss_cons ?_ ?_
  refine ss_set (i := 8) nd (by rfl) (Or.inl rfl) ?_
  refine sx_callB pfM (call_min2 rfl) cs_min2 (by rfl) T.n_min (by decide +kernel) ?_
  refine sa_b ?_ ?_
  refine SE.toB ?_
  exact se_int
  refine sa_b ?_ ?_
  refine SE.toB ?_
  refine sx_callB pfM call_len cs_len (by rfl) T.n_len (by decide +kernel) ?_
  refine sa_b ?_ ?_
  exact sb_v (pv 4)
  exact sa_nil
  exact sa_nil
  refine ss_cons ?_ ?_
  refine ss_setN (i := 4) nd (by rfl) (Or.inl rfl) ?_
  refine sn_add ?_ ?_
  refine SE.toB ?_
  refine se_cut ?_ ?_ ?_
  exact sb_v (pv 4)
  exact so_no
  refine so_at ?_
  refine SE.toB ?_
  refine se_neg ?_
  exact sb_v (pv 8)
  refine SE.toB ?_
  refine SN.toE ?_
  refine sn_lst (bm := [false]) ?_
  refine sa_f ?_ ?_
  refine se_add ?_ ?_
  refine SE.toB ?_
  refine se_tup (bm := [false]) ?_
  refine sa_f ?_ ?_
  refine se_ix ?_ ?_
  refine SE.toB ?_
  refine SN.toE ?_
  refine sn_lst (bm := [false, false]) ?_
  refine sa_f ?_ ?_
  exact se_str
  refine sa_f ?_ ?_
  exact se_str
  exact sa_nil
  refine SE.toB ?_
  refine se_mod ?_ ?_
  refine SE.toB ?_
  refine se_div ?_ ?_
  refine SE.toB ?_
  refine se_call (ok_l_cell_at T) (hr.mono (by decide)) (by rfl) T.g_l_cell_at T.F_l_cell_at.kp T.b_l_cell_at tk ?_
  refine sa_b ?_ ?_
  exact sb_v (pv 0)
  refine sa_b ?_ ?_
  exact sb_v (pv 1)
  exact sa_nil
  refine SE.toB ?_
  exact se_int
  refine SE.toB ?_
  exact se_int
  exact sa_nil
  refine SE.toB ?_
  refine sx_callTy pfM call_tuple_of cs_tuple (by rfl) T.n_tuple (by decide +kernel) ?_
  refine sa_b ?_ ?_
  refine SE.toB ?_
  refine se_cut ?_ ?_ ?_
  exact sb_v (pv 4)
  refine so_at ?_
  refine SE.toB ?_
  refine se_neg ?_
  exact sb_v (pv 8)
  exact so_no
  exact sa_nil
  exact sa_nil
  refine ss_wipe ?_
  exact ss_nil
  refine ss_cons ?_ ?_
  refine ss_ret ?_
  refine se_ix ?_ ?_
  exact sb_v (pv 4)
  refine SE.toB ?_
  exact se_int
  exact ss_nil
def OkG_l_text {P : Program} {w : World} {K : PySem.W.Frag} {mg : Str → Option Value} {cl : ClsP} (T : Fs P w K mg cl) (base : Heap) (n : Nat) (q : Nat → Fn) : Prop := (FnOk P w K mg base (L2N.CX P w) n T.a_l_text T.d_l_text ["_law_term_here"] (spOf K cl [true] (q 0)))
theorem sc_l_text : FnScope ["_law_term_here", "_law_part"] ["_law_term_here"] (defScope (top 19)) := ⟨rfl, rfl, rfl, by decide +kernel, rfl, by decide +kernel, by decide +kernel⟩
theorem okS_l_text {P : Program} {w : World} {K : PySem.W.Frag} {mg : Str → Option Value} {base : Heap} {cl : ClsP} (T : Fs P w K mg cl) {r : Nat} {q : Nat → Fn} (hq : OkG_l_text T base (1 + r) q) : FnOk P w K mg base (L2N.CX P w) (1 + r + 1) T.a_l_text T.d_l_text ["_law_term_here"] (spOf K cl [true] (mkFn [true] 1 (c_l_text q))) := by
  have nd := sc_l_text.nd
  refine fn_ok (k := 1) (body := c_l_text q) T.F_l_text sc_l_text rfl rfl fun cdv A outer s H E hr tk => ?_
  refine ss_cons ?_ ?_
  refine ss_if ?_ ?_ ?_
  refine st_eq hr.units ?_ ?_
  refine SE.toB ?_
  refine se_ix ?_ ?_
  exact sb_v (pv 0)
  refine SE.toB ?_
  exact se_int
  refine SE.toB ?_
  exact se_str
  refine ss_cons ?_ ?_
  refine ss_ret ?_
  refine se_add ?_ ?_
  refine SE.toB ?_
  refine se_add ?_ ?_
  refine SE.toB ?_
  refine se_add ?_ ?_
  refine SE.toB ?_
  refine se_add ?_ ?_
  refine SE.toB ?_
  exact se_str
  refine SE.toB ?_
  refine sx_callTy pfM call_str_int cs_str (by rfl) T.n_str (by decide +kernel) ?_
  refine sa_b ?_ ?_
  refine SE.toB ?_
  refine se_ix ?_ ?_
  exact sb_v (pv 0)
  refine SE.toB ?_
  exact se_int
  exact sa_nil
  refine SE.toB ?_
  exact se_str
  refine SE.toB ?_
  refine se_ix ?_ ?_
  exact sb_v (pv 0)
  refine SE.toB ?_
  exact se_int
  refine SE.toB ?_
  exact se_str
  exact ss_nil
  exact ss_nil
  refine ss_cons ?_ ?_
  refine ss_if ?_ ?_ ?_
  refine st_in hr.u65 ?_ ?_ (by rfl)
  refine SE.toB ?_
  refine se_ix ?_ ?_
  exact sb_v (pv 0)
  refine SE.toB ?_
  exact se_int
  refine SE.toB ?_
  refine se_tup (bm := [false, false, false]) ?_
  refine sa_f ?_ ?_
  exact se_str
  refine sa_f ?_ ?_
  exact se_str
  refine sa_f ?_ ?_
  exact se_str
  exact sa_nil
  refine ss_cons ?_ ?_
  refine ss_ret ?_
  refine se_add ?_ ?_
  refine SE.toB ?_
  refine se_add ?_ ?_
  refine SE.toB ?_
  refine se_add ?_ ?_
  refine SE.toB ?_
  refine se_ix ?_ ?_
  exact sb_v (pv 0)
  refine SE.toB ?_
  exact se_int
  refine SE.toB ?_
  exact se_str
  refine SE.toB ?_
  refine se_join ?_ ?_
  refine SE.toB ?_
  exact se_str
  refine SE.toB ?_
  refine SN.toE ?_
  refine sn_lc (own := [("_law_part", 1)]) rfl nd ?_ ?_ (fun _ _ _ _ _ => pg_name (i := 1) nd (by rfl) (by first | exact Or.inl rfl | exact Or.inr rfl)) (tg_name) (tgo_name (by decide)) ?_ ?_
  refine si_tup ?_
  refine se_cut ?_ ?_ ?_
  exact sb_v (pv 0)
  refine so_at ?_
  refine SE.toB ?_
  exact se_int
  exact so_no
  exact blkOk_by (N := ["_law_term_here", "_law_part"]) (sc := defScope (top 19)) (own := [("_law_part", 1)]) (by decide +kernel)
  intro _ _ _ _ _
  exact sts_nil
  intro _ _ _ _ _
  refine se_call hq (hr.mono (by omega)) (by rfl) T.g_l_text T.F_l_text.kp T.b_l_text takes0 ?_
  refine sa_b ?_ ?_
  exact sb_v (pv 1)
  exact sa_nil
  refine SE.toB ?_
  exact se_str
  exact ss_nil
  exact ss_nil
  refine ss_cons ?_ ?_
  refine ss_ret ?_
  refine se_add ?_ ?_
  refine SE.toB ?_
  refine se_add ?_ ?_
  refine SE.toB ?_
  refine se_add ?_ ?_
  refine SE.toB ?_
  refine se_ix ?_ ?_
  exact sb_v (pv 0)
  refine SE.toB ?_
  exact se_int
  refine SE.toB ?_
  exact se_str
  refine SE.toB ?_
  refine se_join ?_ ?_
  refine SE.toB ?_
  exact se_str
  refine SE.toB ?_
  refine se_cut ?_ ?_ ?_
  exact sb_v (pv 0)
  refine so_at ?_
  refine SE.toB ?_
  exact se_int
  exact so_no
  refine SE.toB ?_
  exact se_str
  exact ss_nil
theorem okG_l_text {P : Program} {w : World} {K : PySem.W.Frag} {mg : Str → Option Value} {base : Heap} {cl : ClsP} (T : Fs P w K mg cl) : ∀ r, OkG_l_text T base (1 + r) (g_l_text r)
  | 0 => fnOk_stuck
  | r + 1 => okS_l_text T (okG_l_text T r)
theorem ok_l_text {P : Program} {w : World} {K : PySem.W.Frag} {mg : Str → Option Value} {base : Heap} {cl : ClsP} (T : Fs P w K mg cl) : FnOk P w K mg base (L2N.CX P w) 25 T.a_l_text T.d_l_text ["_law_term_here"] (spOf K cl [true] m_l_text) := (okG_l_text T 24)
def OkG_l_marks {P : Program} {w : World} {K : PySem.W.Frag} {mg : Str → Option Value} {cl : ClsP} (T : Fs P w K mg cl) (base : Heap) (n : Nat) (q : Nat → Fn) : Prop := (FnOk P w K mg base (L2N.CX P w) n T.a_l_marks T.d_l_marks ["_law_term_here"] (spOf K cl [true] (q 0)))
theorem sc_l_marks : FnScope ["_law_term_here", "_law_found", "_law_part"] ["_law_term_here"] (defScope (top 20)) := ⟨rfl, rfl, rfl, by decide +kernel, rfl, by decide +kernel, by decide +kernel⟩
theorem okS_l_marks {P : Program} {w : World} {K : PySem.W.Frag} {mg : Str → Option Value} {base : Heap} {cl : ClsP} (T : Fs P w K mg cl) {r : Nat} {q : Nat → Fn} (hq : OkG_l_marks T base (1 + r) q) : FnOk P w K mg base (L2N.CX P w) (1 + r + 1) T.a_l_marks T.d_l_marks ["_law_term_here"] (spOf K cl [true] (mkFn [true] 2 (c_l_marks q))) := by
  have nd := sc_l_marks.nd
  refine fn_ok (k := 2) (body := c_l_marks q) T.F_l_marks sc_l_marks rfl rfl fun cdv A outer s H E hr tk => ?_
  refine ss_cons ?_ ?_
  refine ss_if ?_ ?_ ?_
  refine st_eq hr.units ?_ ?_
  refine SE.toB ?_
  refine se_ix ?_ ?_
  exact sb_v (pv 0)
  refine SE.toB ?_
  exact se_int
  refine SE.toB ?_
  exact se_str
  refine ss_cons ?_ ?_
  refine ss_retN ?_
  refine sn_lst (bm := [false]) ?_
  refine sa_f ?_ ?_
  refine se_ix ?_ ?_
  exact sb_v (pv 0)
  refine SE.toB ?_
  exact se_int
  exact sa_nil
  exact ss_nil
  exact ss_nil
  refine ss_cons ?_ ?_
  refine ss_if ?_ ?_ ?_
  refine st_nin hr.u65 ?_ ?_ (by rfl)
  refine SE.toB ?_
  refine se_ix ?_ ?_
  exact sb_v (pv 0)
  refine SE.toB ?_
  exact se_int
  refine SE.toB ?_
  refine se_tup (bm := [false, false, false]) ?_
  refine sa_f ?_ ?_
  exact se_str
  refine sa_f ?_ ?_
  exact se_str
  refine sa_f ?_ ?_
  exact se_str
  exact sa_nil
  refine ss_cons ?_ ?_
  refine ss_retN ?_
  refine sx_callTy pnM call_list_of cs_list (by rfl) T.n_list (by decide +kernel) ?_
  refine sa_b ?_ ?_
  refine SE.toB ?_
  refine se_cut ?_ ?_ ?_
  exact sb_v (pv 0)
  refine so_at ?_
  refine SE.toB ?_
  exact se_int
  exact so_no
  exact sa_nil
  exact ss_nil
  exact ss_nil
  refine ss_cons ?_ ?_
  refine ss_set (i := 1) nd (by rfl) (Or.inl rfl) ?_
  refine SN.toE ?_
  refine sn_lst (bm := []) ?_
  exact sa_nil
  refine ss_wipe ?_
  refine ss_cons ?_ ?_
  refine ss_for (by exact passes_of rfl) (by rfl) ?_ (pg_name (i := 2) nd (by rfl) (by first | exact Or.inl rfl | exact Or.inr rfl)) (tg_name) ?_
  refine si_tup ?_
  refine se_cut ?_ ?_ ?_
  exact sb_v (pv 0)
  refine so_at ?_
  refine SE.toB ?_
  exact se_int
  exact so_no
  refine ss_cons ?_ ?_
  refine ss_set (i := 1) nd (by rfl) (Or.inl rfl) ?_
  refine se_add ?_ ?_
  exact sb_v (pv 1)
  refine SE.toB ?_
  refine se_call hq (hr.mono (by omega)) (by rfl) T.g_l_marks T.F_l_marks.kp T.b_l_marks tk ?_
  refine sa_b ?_ ?_
  exact sb_v (pv 2)
  exact sa_nil
  refine ss_wipe ?_
  exact ss_nil
  refine ss_cons ?_ ?_
  refine ss_ret ?_
  exact se_v (pv 1)
  exact ss_nil
theorem okG_l_marks {P : Program} {w : World} {K : PySem.W.Frag} {mg : Str → Option Value} {base : Heap} {cl : ClsP} (T : Fs P w K mg cl) : ∀ r, OkG_l_marks T base (1 + r) (g_l_marks r)
  | 0 => fnOk_stuck
  | r + 1 => okS_l_marks T (okG_l_marks T r)
theorem ok_l_marks {P : Program} {w : World} {K : PySem.W.Frag} {mg : Str → Option Value} {base : Heap} {cl : ClsP} (T : Fs P w K mg cl) : FnOk P w K mg base (L2N.CX P w) 25 T.a_l_marks T.d_l_marks ["_law_term_here"] (spOf K cl [true] m_l_marks) := (okG_l_marks T 24)
def OkG_l_grows {P : Program} {w : World} {K : PySem.W.Frag} {mg : Str → Option Value} {cl : ClsP} (T : Fs P w K mg cl) (base : Heap) (n : Nat) (q : Nat → Fn) : Prop := (FnOk P w K mg base (L2N.CX P w) n T.a_l_grows T.d_l_grows ["_law_term_here"] (spOf K cl [true] (q 0)))
theorem sc_l_grows : FnScope ["_law_term_here", "_law_part"] ["_law_term_here"] (defScope (top 21)) := ⟨rfl, rfl, rfl, by decide +kernel, rfl, by decide +kernel, by decide +kernel⟩
theorem okS_l_grows {P : Program} {w : World} {K : PySem.W.Frag} {mg : Str → Option Value} {base : Heap} {cl : ClsP} (T : Fs P w K mg cl) {r : Nat} {q : Nat → Fn} (hq : OkG_l_grows T base (1 + r) q) : FnOk P w K mg base (L2N.CX P w) (1 + r + 1) T.a_l_grows T.d_l_grows ["_law_term_here"] (spOf K cl [true] (mkFn [true] 1 (c_l_grows q))) := by
  have nd := sc_l_grows.nd
  refine fn_ok (k := 1) (body := c_l_grows q) T.F_l_grows sc_l_grows rfl rfl fun cdv A outer s H E hr tk => ?_
  refine ss_cons ?_ ?_
  refine ss_if ?_ ?_ ?_
  refine st_in hr.u65 ?_ ?_ (by rfl)
  refine SE.toB ?_
  refine se_ix ?_ ?_
  exact sb_v (pv 0)
  refine SE.toB ?_
  exact se_int
  refine SE.toB ?_
  refine se_tup (bm := [false, false]) ?_
  refine sa_f ?_ ?_
  exact se_str
  refine sa_f ?_ ?_
  exact se_str
  exact sa_nil
  refine ss_cons ?_ ?_
  refine ss_ret ?_
  exact se_bl
  exact ss_nil
  exact ss_nil
  refine ss_cons ?_ ?_
  refine ss_if ?_ ?_ ?_
  refine st_nin hr.u65 ?_ ?_ (by rfl)
  refine SE.toB ?_
  refine se_ix ?_ ?_
  exact sb_v (pv 0)
  refine SE.toB ?_
  exact se_int
  refine SE.toB ?_
  refine se_tup (bm := [false, false]) ?_
  refine sa_f ?_ ?_
  exact se_str
  refine sa_f ?_ ?_
  exact se_str
  exact sa_nil
  refine ss_cons ?_ ?_
  refine ss_ret ?_
  exact se_bl
  exact ss_nil
  exact ss_nil
  refine ss_cons ?_ ?_
  refine ss_ret ?_
  refine sx_callB pfM (cr_all rfl) cs_all (by rfl) T.n_all (by decide +kernel) ?_
  refine sa_b ?_ ?_
  refine SE.toB ?_
  refine SN.toE ?_
  refine sn_lc (own := [("_law_part", 1)]) rfl nd ?_ ?_ (fun _ _ _ _ _ => pg_name (i := 1) nd (by rfl) (by first | exact Or.inl rfl | exact Or.inr rfl)) (tg_name) (tgo_name (by decide)) ?_ ?_
  refine si_tup ?_
  refine se_cut ?_ ?_ ?_
  exact sb_v (pv 0)
  refine so_at ?_
  refine SE.toB ?_
  exact se_int
  exact so_no
  exact blkOk_by (N := ["_law_term_here", "_law_part"]) (sc := defScope (top 21)) (own := [("_law_part", 1)]) (by decide +kernel)
  intro _ _ _ _ _
  exact sts_nil
  intro _ _ _ _ _
  refine se_call hq (hr.mono (by omega)) (by rfl) T.g_l_grows T.F_l_grows.kp T.b_l_grows takes0 ?_
  refine sa_b ?_ ?_
  exact sb_v (pv 1)
  exact sa_nil
  exact sa_nil
  exact ss_nil
theorem okG_l_grows {P : Program} {w : World} {K : PySem.W.Frag} {mg : Str → Option Value} {base : Heap} {cl : ClsP} (T : Fs P w K mg cl) : ∀ r, OkG_l_grows T base (1 + r) (g_l_grows r)
  | 0 => fnOk_stuck
  | r + 1 => okS_l_grows T (okG_l_grows T r)
theorem ok_l_grows {P : Program} {w : World} {K : PySem.W.Frag} {mg : Str → Option Value} {base : Heap} {cl : ClsP} (T : Fs P w K mg cl) : FnOk P w K mg base (L2N.CX P w) 25 T.a_l_grows T.d_l_grows ["_law_term_here"] (spOf K cl [true] m_l_grows) := (okG_l_grows T 24)
def OkG_l_fault {P : Program} {w : World} {K : PySem.W.Frag} {mg : Str → Option Value} {cl : ClsP} (T : Fs P w K mg cl) (base : Heap) (n : Nat) (q : Nat → Fn) : Prop := (FnOk P w K mg base (L2N.CX P w) n T.a_l_fault T.d_l_fault ["_law_term_here", "_law_lists"] (spOf K cl [true, true] (q 0)))
theorem sc_l_fault : FnScope ["_law_term_here", "_law_lists", "_law_parts", "_law_part"] ["_law_term_here", "_law_lists"] (defScope (top 22)) := ⟨rfl, rfl, rfl, by decide +kernel, rfl, by decide +kernel, by decide +kernel⟩
theorem okS_l_fault {P : Program} {w : World} {K : PySem.W.Frag} {mg : Str → Option Value} {base : Heap} {cl : ClsP} (T : Fs P w K mg cl) {r : Nat} {q : Nat → Fn} (hq : OkG_l_fault T base (5 + r) q) : FnOk P w K mg base (L2N.CX P w) (5 + r + 1) T.a_l_fault T.d_l_fault ["_law_term_here", "_law_lists"] (spOf K cl [true, true] (mkFn [true, true] 2 (c_l_fault q))) := by
  have nd := sc_l_fault.nd
  refine fn_ok (k := 2) (body := c_l_fault q) T.F_l_fault sc_l_fault rfl rfl fun cdv A outer s H E hr tk => ?_
  refine ss_cons ?_ ?_
  refine ss_if ?_ ?_ ?_
  refine st_eq hr.units ?_ ?_
  refine SE.toB ?_
  refine se_ix ?_ ?_
  exact sb_v (pv 0)
  refine SE.toB ?_
  exact se_int
  refine SE.toB ?_
  exact se_str
  refine ss_cons ?_ ?_
  refine ss_retN ?_
  refine sn_make T.mk_Has (ok_p_Has_init T 14) (hr.mono (by omega)) (by rfl) T.gc_Has T.b_p_Has_init tk ?_
  refine sa_f ?_ ?_
  refine se_ix ?_ ?_
  exact sb_v (pv 0)
  refine SE.toB ?_
  exact se_int
  exact sa_nil
  exact ss_nil
  exact ss_nil
  refine ss_cons ?_ ?_
  refine ss_if ?_ ?_ ?_
  refine st_eq hr.units ?_ ?_
  refine SE.toB ?_
  refine se_ix ?_ ?_
  exact sb_v (pv 0)
  refine SE.toB ?_
  exact se_int
  refine SE.toB ?_
  exact se_str
  refine ss_cons ?_ ?_
  refine ss_retN ?_
  refine sn_make T.mk_Many (ok_p_Many_init T 15) (hr.mono (by omega)) (by rfl) T.gc_Many T.b_p_Many_init tk ?_
  refine sa_f ?_ ?_
  refine se_ix ?_ ?_
  exact sb_v (pv 0)
  refine SE.toB ?_
  exact se_int
  refine sa_f ?_ ?_
  refine se_ix ?_ ?_
  exact sb_v (pv 0)
  refine SE.toB ?_
  exact se_int
  exact sa_nil
  exact ss_nil
  exact ss_nil
  refine ss_cons ?_ ?_
  refine ss_if ?_ ?_ ?_
  refine st_eq hr.units ?_ ?_
  refine SE.toB ?_
  refine se_ix ?_ ?_
  exact sb_v (pv 0)
  refine SE.toB ?_
  exact se_int
  refine SE.toB ?_
  exact se_str
  refine ss_cons ?_ ?_
  refine ss_retN ?_
  refine sn_make T.mk_Before (ok_p_Pair_init T 17) (hr.mono (by omega)) (by rfl) T.gc_Before T.b_p_Pair_init tk ?_
  refine sa_f ?_ ?_
  refine se_ix ?_ ?_
  exact sb_v (pv 0)
  refine SE.toB ?_
  exact se_int
  refine sa_f ?_ ?_
  refine se_ix ?_ ?_
  exact sb_v (pv 0)
  refine SE.toB ?_
  exact se_int
  exact sa_nil
  exact ss_nil
  exact ss_nil
  refine ss_cons ?_ ?_
  refine ss_if ?_ ?_ ?_
  refine st_eq hr.units ?_ ?_
  refine SE.toB ?_
  refine se_ix ?_ ?_
  exact sb_v (pv 0)
  refine SE.toB ?_
  exact se_int
  refine SE.toB ?_
  exact se_str
  refine ss_cons ?_ ?_
  refine ss_retN ?_
  refine sn_make T.mk_Under (ok_p_Pair_init T 18) (hr.mono (by omega)) (by rfl) T.gc_Under T.b_p_Pair_init tk ?_
  refine sa_f ?_ ?_
  refine se_ix ?_ ?_
  exact sb_v (pv 0)
  refine SE.toB ?_
  exact se_int
  refine sa_f ?_ ?_
  refine se_ix ?_ ?_
  exact sb_v (pv 0)
  refine SE.toB ?_
  exact se_int
  exact sa_nil
  exact ss_nil
  exact ss_nil
  refine ss_cons ?_ ?_
  refine ss_if ?_ ?_ ?_
  refine st_eq hr.units ?_ ?_
  refine SE.toB ?_
  refine se_ix ?_ ?_
  exact sb_v (pv 0)
  refine SE.toB ?_
  exact se_int
  refine SE.toB ?_
  exact se_str
  refine ss_cons ?_ ?_
  refine ss_retN ?_
  refine sn_make T.mk_Beside (ok_p_Pair_init T 19) (hr.mono (by omega)) (by rfl) T.gc_Beside T.b_p_Pair_init tk ?_
  refine sa_f ?_ ?_
  refine se_ix ?_ ?_
  exact sb_v (pv 0)
  refine SE.toB ?_
  exact se_int
  refine sa_f ?_ ?_
  refine se_ix ?_ ?_
  exact sb_v (pv 0)
  refine SE.toB ?_
  exact se_int
  exact sa_nil
  exact ss_nil
  exact ss_nil
  refine ss_cons ?_ ?_
  refine ss_if ?_ ?_ ?_
  refine st_eq hr.units ?_ ?_
  refine SE.toB ?_
  refine se_ix ?_ ?_
  exact sb_v (pv 0)
  refine SE.toB ?_
  exact se_int
  refine SE.toB ?_
  exact se_str
  refine ss_cons ?_ ?_
  refine ss_retN ?_
  refine sn_make T.mk_Not (ok_p_Not_init T 23) (hr.mono (by omega)) (by rfl) T.gc_Not T.b_p_Not_init tk ?_
  refine sa_f ?_ ?_
  refine se_call hq (hr.mono (by omega)) (by rfl) T.g_l_fault T.F_l_fault.kp T.b_l_fault tk ?_
  refine sa_b ?_ ?_
  refine SE.toB ?_
  refine se_ix ?_ ?_
  exact sb_v (pv 0)
  refine SE.toB ?_
  exact se_int
  refine sa_b ?_ ?_
  exact sb_v (pv 1)
  exact sa_nil
  exact sa_nil
  exact ss_nil
  exact ss_nil
  refine ss_cons ?_ ?_
  refine ss_setLcBx (own := [("_law_part", 3)]) rfl nd (i := 2) rfl rfl (sw_true rfl rfl rfl (by decide +kernel)) ?_ ?_ (fun _ _ _ _ _ => pg_name (i := 3) nd (by rfl) (by first | exact Or.inl rfl | exact Or.inr rfl)) (tg_name) (tgo_name (by decide)) ?_ ?_
  refine si_tup ?_
  refine se_cut ?_ ?_ ?_
  exact sb_v (pv 0)
  refine so_at ?_
  refine SE.toB ?_
  exact se_int
  exact so_no
  exact blkOk_by (N := ["_law_term_here", "_law_lists", "_law_parts", "_law_part"]) (sc := defScope (top 22)) (own := [("_law_part", 3)]) (by decide +kernel)
  intro _ _ _ _ _
  exact sts_nil
  intro _ _ _ _ _
  refine se_call hq (hr.mono (by omega)) (by rfl) T.g_l_fault T.F_l_fault.kp T.b_l_fault takes0 ?_
  refine sa_b ?_ ?_
  exact sb_v (pv 3)
  refine sa_b ?_ ?_
  exact sb_v (pv 1)
  exact sa_nil
  refine ss_cons ?_ ?_
  refine ss_lmS PySem.F.slot_list_append PySem.F.type_list_append mt_append lm_append ?_ ?_
  exact sb_v (pv 1)
  refine sa_f ?_ ?_
  exact se_v (pv 2)
  exact sa_nil
  refine ss_cons ?_ ?_
  refine ss_if ?_ ?_ ?_
  refine st_eq hr.units ?_ ?_
  refine SE.toB ?_
  refine se_ix ?_ ?_
  exact sb_v (pv 0)
  refine SE.toB ?_
  exact se_int
  refine SE.toB ?_
  exact se_str
  refine ss_cons ?_ ?_
  refine ss_retN ?_
  refine sn_make T.mk_All (ok_p_Group_init T 21) (hr.mono (by omega)) (by rfl) T.gc_All T.b_p_Group_init tk ?_
  refine sa_b ?_ ?_
  exact sb_v (pv 2)
  exact sa_nil
  exact ss_nil
  exact ss_nil
  refine ss_cons ?_ ?_
  refine ss_retN ?_
  refine sn_make T.mk_Any (ok_p_Group_init T 22) (hr.mono (by omega)) (by rfl) T.gc_Any T.b_p_Group_init tk ?_
  refine sa_b ?_ ?_
  exact sb_v (pv 2)
  exact sa_nil
  exact ss_nil
theorem okG_l_fault {P : Program} {w : World} {K : PySem.W.Frag} {mg : Str → Option Value} {base : Heap} {cl : ClsP} (T : Fs P w K mg cl) : ∀ r, OkG_l_fault T base (5 + r) (g_l_fault r)
  | 0 => fnOk_stuck
  | r + 1 => okS_l_fault T (okG_l_fault T r)
theorem ok_l_fault {P : Program} {w : World} {K : PySem.W.Frag} {mg : Str → Option Value} {base : Heap} {cl : ClsP} (T : Fs P w K mg cl) : FnOk P w K mg base (L2N.CX P w) 29 T.a_l_fault T.d_l_fault ["_law_term_here", "_law_lists"] (spOf K cl [true, true] m_l_fault) := (okG_l_fault T 24)
theorem sc_p_law : FnScope ["_law_script", "_law_names_here", "_law_term_here", "_law_lists", "_law_fault_here", "_law_parts", "_law_due", "_law_k", "_law_great", "_law_told", "_law_found"] ["_law_script"] (defScope (top 23)) := ⟨rfl, rfl, rfl, by decide +kernel, rfl, by decide +kernel, by decide +kernel⟩
theorem ok_p_law {P : Program} {w : World} {K : PySem.W.Frag} {mg : Str → Option Value} {base : Heap} {cl : ClsP} (T : Fs P w K mg cl) : FnOk P w K mg base (L2N.CX P w) 30 T.a_p_law T.d_p_law ["_law_script"] (spOf K cl [true] m_p_law) := by
  have nd := sc_p_law.nd
  refine fn_ok (k := 10) (body := c_p_law) T.F_p_law sc_p_law rfl rfl fun cdv A outer s H E hr tk => ?_
  refine ss_cons ?_ ?_
  refine ss_set (i := 1) nd (by rfl) (Or.inl rfl) ?_
  refine se_call (ok_l_names T) (hr.mono (by decide)) (by rfl) T.g_l_names T.F_l_names.kp T.b_l_names tk ?_
  refine sa_b ?_ ?_
  refine SE.toB ?_
  refine se_call (ok_l_cell_at T) (hr.mono (by decide)) (by rfl) T.g_l_cell_at T.F_l_cell_at.kp T.b_l_cell_at tk ?_
  refine sa_b ?_ ?_
  exact sb_v (pv 0)
  refine sa_b ?_ ?_
  refine SE.toB ?_
  exact se_int
  exact sa_nil
  refine sa_b ?_ ?_
  refine SE.toB ?_
  exact se_int
  exact sa_nil
  refine ss_cons ?_ ?_
  refine ss_set (i := 2) nd (by rfl) (Or.inl rfl) ?_
  refine se_call (ok_l_term T) (hr.mono (by decide)) (by rfl) T.g_l_term T.F_l_term.kp T.b_l_term tk ?_
  refine sa_b ?_ ?_
  exact sb_v (pv 0)
  refine sa_b ?_ ?_
  refine SE.toB ?_
  exact se_int
  refine sa_b ?_ ?_
  refine SE.toB ?_
  refine se_add ?_ ?_
  refine SE.toB ?_
  exact se_int
  refine SE.toB ?_
  refine se_mod ?_ ?_
  refine SE.toB ?_
  refine se_call (ok_l_cell_at T) (hr.mono (by decide)) (by rfl) T.g_l_cell_at T.F_l_cell_at.kp T.b_l_cell_at tk ?_
  refine sa_b ?_ ?_
  exact sb_v (pv 0)
  refine sa_b ?_ ?_
  refine SE.toB ?_
  exact se_int
  exact sa_nil
  refine SE.toB ?_
  exact se_int
  refine sa_b ?_ ?_
  exact sb_v (pv 1)
  exact sa_nil
  refine ss_cons ?_ ?_
  refine ss_set (i := 3) nd (by rfl) (Or.inl rfl) ?_
  refine se_box ?_
  refine sn_lst (bm := []) ?_
  exact sa_nil
  refine ss_cons ?_ ?_
  refine ss_set (i := 4) nd (by rfl) (Or.inl rfl) ?_
  refine se_call (ok_l_fault T) (hr.mono (by decide)) (by rfl) T.g_l_fault T.F_l_fault.kp T.b_l_fault tk ?_
  refine sa_b ?_ ?_
  exact sb_v (pv 2)
  refine sa_b ?_ ?_
  exact sb_v (pv 3)
  exact sa_nil
  refine ss_wipe ?_
  refine ss_cons ?_ ?_
  refine ss_forG (by exact passes_of rfl) (by rfl) ?_ (pg_name (i := 5) nd (by rfl) (by first | exact Or.inl rfl | exact Or.inr rfl)) (tg_name) ?_
  exact sb_v (pv 3)
  refine ss_cons ?_ ?_
  refine ss_lmS0 PySem.F.slot_list_reverse PySem.F.type_list_reverse mt_reverse lm_reverse ?_
  exact sb_v (pv 5)
  refine ss_cons ?_ ?_
  refine ss_popS0 ?_
  exact sb_v (pv 5)
  refine ss_wipe ?_
  exact ss_nil
  refine ss_cons ?_ ?_
  refine ss_set (i := 6) nd (by rfl) (Or.inl rfl) ?_
  refine SN.toE ?_
  refine sn_sortSet rfl (by rfl) T.n_sorted (by rfl) T.n_set ?_
  refine SE.toB ?_
  refine se_call (ok_l_marks T) (hr.mono (by decide)) (by rfl) T.g_l_marks T.F_l_marks.kp T.b_l_marks tk ?_
  refine sa_b ?_ ?_
  exact sb_v (pv 2)
  exact sa_nil
  refine ss_wipe ?_
  refine ss_cons ?_ ?_
  refine ss_for (by exact passes_of rfl) (by rfl) ?_ (pg_name (i := 7) nd (by rfl) (by first | exact Or.inl rfl | exact Or.inr rfl)) (tg_name) ?_
  refine si_range1 (by rfl) T.n_range ?_
  refine sa_b ?_ ?_
  refine SE.toB ?_
  exact se_int
  exact sa_nil
  refine ss_cons ?_ ?_
  refine ss_setN (i := 10) nd (by rfl) (Or.inl rfl) ?_
  refine sn_meth0 (mtok_marks T (hr.mono (by decide))) ?_ tk
  exact sb_v (pv 4)
  refine ss_cons ?_ ?_
  refine ss_if ?_ ?_ ?_
  refine st_w ?_
  refine sw_or ?_ ?_
  refine st_not ?_
  refine st_val ?_ (fun _ => rfl)
  refine SE.toB ?_
  refine se_isT (by decide) (by rfl) T.n_isinstance (by decide +kernel) ?_ (by rfl) T.n_list (by decide +kernel)
  exact sb_v (pv 10)
  refine sw_or1 ?_
  refine st_ne hr.units ?_ ?_
  exact sb_v (pv 10)
  exact sb_v (pv 6)
  refine ss_cons ?_ ?_
  refine ss_ret ?_
  exact se_bl
  exact ss_nil
  exact ss_nil
  refine ss_cons ?_ ?_
  refine ss_lm PySem.F.slot_list_append PySem.F.type_list_append mt_append lm_append (pv 10) ?_
  refine sa_f ?_ ?_
  exact se_str
  exact sa_nil
  refine ss_wipe ?_
  exact ss_nil
  refine ss_cons ?_ ?_
  refine ss_set (i := 8) nd (by rfl) (Or.inl rfl) ?_
  refine se_add ?_ ?_
  refine SE.toB ?_
  refine se_pow ?_ ?_
  refine SE.toB ?_
  exact se_int
  refine SE.toB ?_
  exact se_int
  refine SE.toB ?_
  refine se_mod ?_ ?_
  refine SE.toB ?_
  refine se_call (ok_l_cell_at T) (hr.mono (by decide)) (by rfl) T.g_l_cell_at T.F_l_cell_at.kp T.b_l_cell_at tk ?_
  refine sa_b ?_ ?_
  exact sb_v (pv 0)
  refine sa_b ?_ ?_
  refine SE.toB ?_
  exact se_int
  exact sa_nil
  refine SE.toB ?_
  refine se_pow ?_ ?_
  refine SE.toB ?_
  exact se_int
  refine SE.toB ?_
  exact se_int
  refine ss_cons ?_ ?_
  refine ss_if ?_ ?_ ?_
  refine st_ne hr.units ?_ ?_
  refine SE.toB ?_
  refine se_meth0 (mtok_shown T (hr.mono (by decide))) ?_ tk
  refine SE.toB ?_
  refine SN.toE ?_
  refine sn_make T.mk_Many (ok_p_Many_init T 15) (hr.mono (by decide)) (by rfl) T.gc_Many T.b_p_Many_init tk ?_
  refine sa_f ?_ ?_
  exact se_v (pv 8)
  refine sa_f ?_ ?_
  refine se_ix ?_ ?_
  exact sb_v (pv 1)
  refine SE.toB ?_
  exact se_int
  exact sa_nil
  refine SE.toB ?_
  refine se_add ?_ ?_
  refine SE.toB ?_
  refine se_add ?_ ?_
  refine SE.toB ?_
  refine se_add ?_ ?_
  refine SE.toB ?_
  refine se_add ?_ ?_
  refine SE.toB ?_
  exact se_str
  refine SE.toB ?_
  refine sx_callTy pfM call_str_int cs_str (by rfl) T.n_str (by decide +kernel) ?_
  refine sa_b ?_ ?_
  exact sb_v (pv 8)
  exact sa_nil
  refine SE.toB ?_
  exact se_str
  refine SE.toB ?_
  refine se_ix ?_ ?_
  exact sb_v (pv 1)
  refine SE.toB ?_
  exact se_int
  refine SE.toB ?_
  exact se_str
  refine ss_cons ?_ ?_
  refine ss_ret ?_
  exact se_bl
  exact ss_nil
  exact ss_nil
  refine ss_cons ?_ ?_
  refine ss_set (i := 9) nd (by rfl) (Or.inl rfl) ?_
  refine se_meth0 (mtok_grows T (hr.mono (by decide))) ?_ tk
  exact sb_v (pv 4)
  refine ss_cons ?_ ?_
  refine ss_if ?_ ?_ ?_
  refine st_w ?_
  refine sw_or ?_ ?_
  refine st_not ?_
  refine st_val ?_ (fun _ => rfl)
  refine SE.toB ?_
  refine se_isT (by decide) (by rfl) T.n_isinstance (by decide +kernel) ?_ (by rfl) T.n_bool (by decide +kernel)
  exact sb_v (pv 9)
  refine sw_or1 ?_
  refine st_ne hr.units ?_ ?_
  exact sb_v (pv 9)
  refine SE.toB ?_
  refine se_call (ok_l_grows T) (hr.mono (by decide)) (by rfl) T.g_l_grows T.F_l_grows.kp T.b_l_grows tk ?_
  refine sa_b ?_ ?_
  exact sb_v (pv 2)
  exact sa_nil
  refine ss_cons ?_ ?_
  refine ss_ret ?_
  exact se_bl
  exact ss_nil
  exact ss_nil
  refine ss_cons ?_ ?_
  refine ss_ret ?_
  refine se_eq hr.units ?_ ?_
  refine SE.toB ?_
  refine se_meth0 (mtok_shown T (hr.mono (by decide))) ?_ tk
  exact sb_v (pv 4)
  refine SE.toB ?_
  refine se_call (ok_l_text T) (hr.mono (by decide)) (by rfl) T.g_l_text T.F_l_text.kp T.b_l_text tk ?_
  refine sa_b ?_ ?_
  exact sb_v (pv 2)
  exact sa_nil
  exact ss_nil
theorem all_mk {l : PySem.W.OpenLaw} {w : World} {K : PySem.W.Frag} {h : Heap} {mg : Str → Option Value} {fa : Addr} (X : K.In h) (G : h.Ns mainGlobals mg) (hfa : mg "law" = some (.ref fa))
    {c_Has : Addr}
    {c_Many : Addr}
    {c_Before : Addr}
    {c_Under : Addr}
    {c_Beside : Addr}
    {c_Group : Addr}
    {c_All : Addr}
    {c_Any : Addr}
    {c_Not : Addr}
    {a_p_Has_marks : Addr} {od_p_Has_marks an_p_Has_marks : Option Addr} {sl_p_Has_marks : Array (Option Value)} {oc_p_Has_marks kV_p_Has_marks dc_p_Has_marks pm_p_Has_marks cd_p_Has_marks ct_p_Has_marks : Value}
    {a_p_Many_marks : Addr} {od_p_Many_marks an_p_Many_marks : Option Addr} {sl_p_Many_marks : Array (Option Value)} {oc_p_Many_marks kV_p_Many_marks dc_p_Many_marks pm_p_Many_marks cd_p_Many_marks ct_p_Many_marks : Value}
    {a_p_Pair_marks : Addr} {od_p_Pair_marks an_p_Pair_marks : Option Addr} {sl_p_Pair_marks : Array (Option Value)} {oc_p_Pair_marks kV_p_Pair_marks dc_p_Pair_marks pm_p_Pair_marks cd_p_Pair_marks ct_p_Pair_marks : Value}
    {a_p_sorted_marks : Addr} {od_p_sorted_marks an_p_sorted_marks : Option Addr} {sl_p_sorted_marks : Array (Option Value)} {oc_p_sorted_marks kV_p_sorted_marks dc_p_sorted_marks pm_p_sorted_marks cd_p_sorted_marks ct_p_sorted_marks : Value}
    {a_p_Group_marks : Addr} {od_p_Group_marks an_p_Group_marks : Option Addr} {sl_p_Group_marks : Array (Option Value)} {oc_p_Group_marks kV_p_Group_marks dc_p_Group_marks pm_p_Group_marks cd_p_Group_marks ct_p_Group_marks : Value}
    {a_p_Fault_grows : Addr} {od_p_Fault_grows an_p_Fault_grows : Option Addr} {sl_p_Fault_grows : Array (Option Value)} {oc_p_Fault_grows kV_p_Fault_grows dc_p_Fault_grows pm_p_Fault_grows cd_p_Fault_grows ct_p_Fault_grows : Value}
    {a_p_Has_init : Addr} {od_p_Has_init an_p_Has_init : Option Addr} {sl_p_Has_init : Array (Option Value)} {oc_p_Has_init kV_p_Has_init dc_p_Has_init pm_p_Has_init cd_p_Has_init ct_p_Has_init : Value}
    {a_p_Has_shown : Addr} {od_p_Has_shown an_p_Has_shown : Option Addr} {sl_p_Has_shown : Array (Option Value)} {oc_p_Has_shown kV_p_Has_shown dc_p_Has_shown pm_p_Has_shown cd_p_Has_shown ct_p_Has_shown : Value}
    {a_p_Many_init : Addr} {od_p_Many_init an_p_Many_init : Option Addr} {sl_p_Many_init : Array (Option Value)} {oc_p_Many_init kV_p_Many_init dc_p_Many_init pm_p_Many_init cd_p_Many_init ct_p_Many_init : Value}
    {a_p_Many_shown : Addr} {od_p_Many_shown an_p_Many_shown : Option Addr} {sl_p_Many_shown : Array (Option Value)} {oc_p_Many_shown kV_p_Many_shown dc_p_Many_shown pm_p_Many_shown cd_p_Many_shown ct_p_Many_shown : Value}
    {a_p_Pair_init : Addr} {od_p_Pair_init an_p_Pair_init : Option Addr} {sl_p_Pair_init : Array (Option Value)} {oc_p_Pair_init kV_p_Pair_init dc_p_Pair_init pm_p_Pair_init cd_p_Pair_init ct_p_Pair_init : Value}
    {a_p_All_word : Addr} {od_p_All_word an_p_All_word : Option Addr} {sl_p_All_word : Array (Option Value)} {oc_p_All_word kV_p_All_word dc_p_All_word pm_p_All_word cd_p_All_word ct_p_All_word : Value}
    {a_p_Any_word : Addr} {od_p_Any_word an_p_Any_word : Option Addr} {sl_p_Any_word : Array (Option Value)} {oc_p_Any_word kV_p_Any_word dc_p_Any_word pm_p_Any_word cd_p_Any_word ct_p_Any_word : Value}
    {a_p_Before_word : Addr} {od_p_Before_word an_p_Before_word : Option Addr} {sl_p_Before_word : Array (Option Value)} {oc_p_Before_word kV_p_Before_word dc_p_Before_word pm_p_Before_word cd_p_Before_word ct_p_Before_word : Value}
    {a_p_Beside_word : Addr} {od_p_Beside_word an_p_Beside_word : Option Addr} {sl_p_Beside_word : Array (Option Value)} {oc_p_Beside_word kV_p_Beside_word dc_p_Beside_word pm_p_Beside_word cd_p_Beside_word ct_p_Beside_word : Value}
    {a_p_Not_word : Addr} {od_p_Not_word an_p_Not_word : Option Addr} {sl_p_Not_word : Array (Option Value)} {oc_p_Not_word kV_p_Not_word dc_p_Not_word pm_p_Not_word cd_p_Not_word ct_p_Not_word : Value}
    {a_p_Under_word : Addr} {od_p_Under_word an_p_Under_word : Option Addr} {sl_p_Under_word : Array (Option Value)} {oc_p_Under_word kV_p_Under_word dc_p_Under_word pm_p_Under_word cd_p_Under_word ct_p_Under_word : Value}
    {a_p_Pair_shown : Addr} {od_p_Pair_shown an_p_Pair_shown : Option Addr} {sl_p_Pair_shown : Array (Option Value)} {oc_p_Pair_shown kV_p_Pair_shown dc_p_Pair_shown pm_p_Pair_shown cd_p_Pair_shown ct_p_Pair_shown : Value}
    {a_p_Beside_grows : Addr} {od_p_Beside_grows an_p_Beside_grows : Option Addr} {sl_p_Beside_grows : Array (Option Value)} {oc_p_Beside_grows kV_p_Beside_grows dc_p_Beside_grows pm_p_Beside_grows cd_p_Beside_grows ct_p_Beside_grows : Value}
    {a_p_Group_init : Addr} {od_p_Group_init an_p_Group_init : Option Addr} {sl_p_Group_init : Array (Option Value)} {oc_p_Group_init kV_p_Group_init dc_p_Group_init pm_p_Group_init cd_p_Group_init ct_p_Group_init : Value}
    {a_p_Group_shown : Addr} {od_p_Group_shown an_p_Group_shown : Option Addr} {sl_p_Group_shown : Array (Option Value)} {oc_p_Group_shown kV_p_Group_shown dc_p_Group_shown pm_p_Group_shown cd_p_Group_shown ct_p_Group_shown : Value}
    {a_p_Not_grows : Addr} {od_p_Not_grows an_p_Not_grows : Option Addr} {sl_p_Not_grows : Array (Option Value)} {oc_p_Not_grows kV_p_Not_grows dc_p_Not_grows pm_p_Not_grows cd_p_Not_grows ct_p_Not_grows : Value}
    {a_p_Group_grows : Addr} {od_p_Group_grows an_p_Group_grows : Option Addr} {sl_p_Group_grows : Array (Option Value)} {oc_p_Group_grows kV_p_Group_grows dc_p_Group_grows pm_p_Group_grows cd_p_Group_grows ct_p_Group_grows : Value}
    {a_p_Not_init : Addr} {od_p_Not_init an_p_Not_init : Option Addr} {sl_p_Not_init : Array (Option Value)} {oc_p_Not_init kV_p_Not_init dc_p_Not_init pm_p_Not_init cd_p_Not_init ct_p_Not_init : Value}
    {a_l_cell_at : Addr} {od_l_cell_at an_l_cell_at : Option Addr} {sl_l_cell_at : Array (Option Value)} {oc_l_cell_at kV_l_cell_at dc_l_cell_at pm_l_cell_at cd_l_cell_at ct_l_cell_at : Value}
    {a_l_names : Addr} {od_l_names an_l_names : Option Addr} {sl_l_names : Array (Option Value)} {oc_l_names kV_l_names dc_l_names pm_l_names cd_l_names ct_l_names : Value}
    {a_l_leaf : Addr} {od_l_leaf an_l_leaf : Option Addr} {sl_l_leaf : Array (Option Value)} {oc_l_leaf kV_l_leaf dc_l_leaf pm_l_leaf cd_l_leaf ct_l_leaf : Value}
    {a_l_term : Addr} {od_l_term an_l_term : Option Addr} {sl_l_term : Array (Option Value)} {oc_l_term kV_l_term dc_l_term pm_l_term cd_l_term ct_l_term : Value}
    {a_l_text : Addr} {od_l_text an_l_text : Option Addr} {sl_l_text : Array (Option Value)} {oc_l_text kV_l_text dc_l_text pm_l_text cd_l_text ct_l_text : Value}
    {a_l_marks : Addr} {od_l_marks an_l_marks : Option Addr} {sl_l_marks : Array (Option Value)} {oc_l_marks kV_l_marks dc_l_marks pm_l_marks cd_l_marks ct_l_marks : Value}
    {a_l_grows : Addr} {od_l_grows an_l_grows : Option Addr} {sl_l_grows : Array (Option Value)} {oc_l_grows kV_l_grows dc_l_grows pm_l_grows cd_l_grows ct_l_grows : Value}
    {a_l_fault : Addr} {od_l_fault an_l_fault : Option Addr} {sl_l_fault : Array (Option Value)} {oc_l_fault kV_l_fault dc_l_fault pm_l_fault cd_l_fault ct_l_fault : Value}
    {a_p_law : Addr} {od_p_law an_p_law : Option Addr} {sl_p_law : Array (Option Value)} {oc_p_law kV_p_law dc_p_law pm_p_law cd_p_law ct_p_law : Value}
    (n_sorted : PySem.W.nsIn K mainGlobals "sorted" = some none)
    (n_str : PySem.W.nsIn K mainGlobals "str" = some none)
    (n_list : PySem.W.nsIn K mainGlobals "list" = some none)
    (n_all : PySem.W.nsIn K mainGlobals "all" = some none)
    (n_len : PySem.W.nsIn K mainGlobals "len" = some none)
    (n_int : PySem.W.nsIn K mainGlobals "int" = some none)
    (n_range : PySem.W.nsIn K mainGlobals "range" = some none)
    (n_min : PySem.W.nsIn K mainGlobals "min" = some none)
    (n_tuple : PySem.W.nsIn K mainGlobals "tuple" = some none)
    (n_set : PySem.W.nsIn K mainGlobals "set" = some none)
    (n_isinstance : PySem.W.nsIn K mainGlobals "isinstance" = some none)
    (n_bool : PySem.W.nsIn K mainGlobals "bool" = some none)
    (gc_Has : PySem.W.nsIn K mainGlobals "Has" = some (some (.ref c_Has)))
    (gc_Many : PySem.W.nsIn K mainGlobals "Many" = some (some (.ref c_Many)))
    (gc_Before : PySem.W.nsIn K mainGlobals "Before" = some (some (.ref c_Before)))
    (gc_Under : PySem.W.nsIn K mainGlobals "Under" = some (some (.ref c_Under)))
    (gc_Beside : PySem.W.nsIn K mainGlobals "Beside" = some (some (.ref c_Beside)))
    (gc_Group : PySem.W.nsIn K mainGlobals "Group" = some (some (.ref c_Group)))
    (gc_All : PySem.W.nsIn K mainGlobals "All" = some (some (.ref c_All)))
    (gc_Any : PySem.W.nsIn K mainGlobals "Any" = some (some (.ref c_Any)))
    (gc_Not : PySem.W.nsIn K mainGlobals "Not" = some (some (.ref c_Not)))
    (me_Has_marks : PySem.W.findIn K (.ref c_Has) "marks" = some (some (.ref a_p_Has_marks)))
    (fn_p_Has_marks : PySem.W.isFn K (.ref a_p_Has_marks) = true)
    (l_p_Has_marks : K.lookup a_p_Has_marks = some ⟨oc_p_Has_marks, od_p_Has_marks, .func (PySem.W.fnOf "marks" "Has.marks" (defArgs (inClass (top 4) 2)) (defBody (inClass (top 4) 2)) (defScope (inClass (top 4) 2)) .none kV_p_Has_marks dc_p_Has_marks pm_p_Has_marks an_p_Has_marks cd_p_Has_marks ct_p_Has_marks), sl_p_Has_marks⟩)
    (c_p_Has_marks : PySem.W.codeIn K cd_p_Has_marks "Has.marks" = true)
    (p_p_Has_marks : PySem.W.keepIn K (.ref a_p_Has_marks) = true)
    (me_Many_marks : PySem.W.findIn K (.ref c_Many) "marks" = some (some (.ref a_p_Many_marks)))
    (fn_p_Many_marks : PySem.W.isFn K (.ref a_p_Many_marks) = true)
    (l_p_Many_marks : K.lookup a_p_Many_marks = some ⟨oc_p_Many_marks, od_p_Many_marks, .func (PySem.W.fnOf "marks" "Many.marks" (defArgs (inClass (top 5) 2)) (defBody (inClass (top 5) 2)) (defScope (inClass (top 5) 2)) .none kV_p_Many_marks dc_p_Many_marks pm_p_Many_marks an_p_Many_marks cd_p_Many_marks ct_p_Many_marks), sl_p_Many_marks⟩)
    (c_p_Many_marks : PySem.W.codeIn K cd_p_Many_marks "Many.marks" = true)
    (p_p_Many_marks : PySem.W.keepIn K (.ref a_p_Many_marks) = true)
    (me_Before_marks : PySem.W.findIn K (.ref c_Before) "marks" = some (some (.ref a_p_Pair_marks)))
    (me_Under_marks : PySem.W.findIn K (.ref c_Under) "marks" = some (some (.ref a_p_Pair_marks)))
    (me_Beside_marks : PySem.W.findIn K (.ref c_Beside) "marks" = some (some (.ref a_p_Pair_marks)))
    (fn_p_Pair_marks : PySem.W.isFn K (.ref a_p_Pair_marks) = true)
    (l_p_Pair_marks : K.lookup a_p_Pair_marks = some ⟨oc_p_Pair_marks, od_p_Pair_marks, .func (PySem.W.fnOf "marks" "Pair.marks" (defArgs (inClass (top 6) 1)) (defBody (inClass (top 6) 1)) (defScope (inClass (top 6) 1)) .none kV_p_Pair_marks dc_p_Pair_marks pm_p_Pair_marks an_p_Pair_marks cd_p_Pair_marks ct_p_Pair_marks), sl_p_Pair_marks⟩)
    (c_p_Pair_marks : PySem.W.codeIn K cd_p_Pair_marks "Pair.marks" = true)
    (p_p_Pair_marks : PySem.W.keepIn K (.ref a_p_Pair_marks) = true)
    (g_p_sorted_marks : PySem.W.nsIn K mainGlobals "sorted_marks" = some (some (.ref a_p_sorted_marks)))
    (l_p_sorted_marks : K.lookup a_p_sorted_marks = some ⟨oc_p_sorted_marks, od_p_sorted_marks, .func (PySem.W.fnOf "sorted_marks" "sorted_marks" (defArgs (top 2)) (defBody (top 2)) (defScope (top 2)) .none kV_p_sorted_marks dc_p_sorted_marks pm_p_sorted_marks an_p_sorted_marks cd_p_sorted_marks ct_p_sorted_marks), sl_p_sorted_marks⟩)
    (c_p_sorted_marks : PySem.W.codeIn K cd_p_sorted_marks "sorted_marks" = true)
    (p_p_sorted_marks : PySem.W.keepIn K (.ref a_p_sorted_marks) = true)
    (me_All_marks : PySem.W.findIn K (.ref c_All) "marks" = some (some (.ref a_p_Group_marks)))
    (me_Any_marks : PySem.W.findIn K (.ref c_Any) "marks" = some (some (.ref a_p_Group_marks)))
    (me_Not_marks : PySem.W.findIn K (.ref c_Not) "marks" = some (some (.ref a_p_Group_marks)))
    (fn_p_Group_marks : PySem.W.isFn K (.ref a_p_Group_marks) = true)
    (l_p_Group_marks : K.lookup a_p_Group_marks = some ⟨oc_p_Group_marks, od_p_Group_marks, .func (PySem.W.fnOf "marks" "Group.marks" (defArgs (inClass (top 10) 1)) (defBody (inClass (top 10) 1)) (defScope (inClass (top 10) 1)) .none kV_p_Group_marks dc_p_Group_marks pm_p_Group_marks an_p_Group_marks cd_p_Group_marks ct_p_Group_marks), sl_p_Group_marks⟩)
    (c_p_Group_marks : PySem.W.codeIn K cd_p_Group_marks "Group.marks" = true)
    (p_p_Group_marks : PySem.W.keepIn K (.ref a_p_Group_marks) = true)
    (me_Has_grows : PySem.W.findIn K (.ref c_Has) "grows" = some (some (.ref a_p_Fault_grows)))
    (me_Many_grows : PySem.W.findIn K (.ref c_Many) "grows" = some (some (.ref a_p_Fault_grows)))
    (me_Before_grows : PySem.W.findIn K (.ref c_Before) "grows" = some (some (.ref a_p_Fault_grows)))
    (me_Under_grows : PySem.W.findIn K (.ref c_Under) "grows" = some (some (.ref a_p_Fault_grows)))
    (fn_p_Fault_grows : PySem.W.isFn K (.ref a_p_Fault_grows) = true)
    (l_p_Fault_grows : K.lookup a_p_Fault_grows = some ⟨oc_p_Fault_grows, od_p_Fault_grows, .func (PySem.W.fnOf "grows" "Fault.grows" (defArgs (inClass (top 3) 3)) (defBody (inClass (top 3) 3)) (defScope (inClass (top 3) 3)) .none kV_p_Fault_grows dc_p_Fault_grows pm_p_Fault_grows an_p_Fault_grows cd_p_Fault_grows ct_p_Fault_grows), sl_p_Fault_grows⟩)
    (c_p_Fault_grows : PySem.W.codeIn K cd_p_Fault_grows "Fault.grows" = true)
    (p_p_Fault_grows : PySem.W.keepIn K (.ref a_p_Fault_grows) = true)
    (in_Has : PySem.W.findIn K (.ref c_Has) "__init__" = some (some (.ref a_p_Has_init)))
    (fn_p_Has_init : PySem.W.isFn K (.ref a_p_Has_init) = true)
    (l_p_Has_init : K.lookup a_p_Has_init = some ⟨oc_p_Has_init, od_p_Has_init, .func (PySem.W.fnOf "__init__" "Has.__init__" (defArgs (inClass (top 4) 0)) (defBody (inClass (top 4) 0)) (defScope (inClass (top 4) 0)) .none kV_p_Has_init dc_p_Has_init pm_p_Has_init an_p_Has_init cd_p_Has_init ct_p_Has_init), sl_p_Has_init⟩)
    (c_p_Has_init : PySem.W.codeIn K cd_p_Has_init "Has.__init__" = true)
    (p_p_Has_init : PySem.W.keepIn K (.ref a_p_Has_init) = true)
    (me_Has_shown : PySem.W.findIn K (.ref c_Has) "shown" = some (some (.ref a_p_Has_shown)))
    (fn_p_Has_shown : PySem.W.isFn K (.ref a_p_Has_shown) = true)
    (l_p_Has_shown : K.lookup a_p_Has_shown = some ⟨oc_p_Has_shown, od_p_Has_shown, .func (PySem.W.fnOf "shown" "Has.shown" (defArgs (inClass (top 4) 3)) (defBody (inClass (top 4) 3)) (defScope (inClass (top 4) 3)) .none kV_p_Has_shown dc_p_Has_shown pm_p_Has_shown an_p_Has_shown cd_p_Has_shown ct_p_Has_shown), sl_p_Has_shown⟩)
    (c_p_Has_shown : PySem.W.codeIn K cd_p_Has_shown "Has.shown" = true)
    (p_p_Has_shown : PySem.W.keepIn K (.ref a_p_Has_shown) = true)
    (in_Many : PySem.W.findIn K (.ref c_Many) "__init__" = some (some (.ref a_p_Many_init)))
    (fn_p_Many_init : PySem.W.isFn K (.ref a_p_Many_init) = true)
    (l_p_Many_init : K.lookup a_p_Many_init = some ⟨oc_p_Many_init, od_p_Many_init, .func (PySem.W.fnOf "__init__" "Many.__init__" (defArgs (inClass (top 5) 0)) (defBody (inClass (top 5) 0)) (defScope (inClass (top 5) 0)) .none kV_p_Many_init dc_p_Many_init pm_p_Many_init an_p_Many_init cd_p_Many_init ct_p_Many_init), sl_p_Many_init⟩)
    (c_p_Many_init : PySem.W.codeIn K cd_p_Many_init "Many.__init__" = true)
    (p_p_Many_init : PySem.W.keepIn K (.ref a_p_Many_init) = true)
    (me_Many_shown : PySem.W.findIn K (.ref c_Many) "shown" = some (some (.ref a_p_Many_shown)))
    (fn_p_Many_shown : PySem.W.isFn K (.ref a_p_Many_shown) = true)
    (l_p_Many_shown : K.lookup a_p_Many_shown = some ⟨oc_p_Many_shown, od_p_Many_shown, .func (PySem.W.fnOf "shown" "Many.shown" (defArgs (inClass (top 5) 3)) (defBody (inClass (top 5) 3)) (defScope (inClass (top 5) 3)) .none kV_p_Many_shown dc_p_Many_shown pm_p_Many_shown an_p_Many_shown cd_p_Many_shown ct_p_Many_shown), sl_p_Many_shown⟩)
    (c_p_Many_shown : PySem.W.codeIn K cd_p_Many_shown "Many.shown" = true)
    (p_p_Many_shown : PySem.W.keepIn K (.ref a_p_Many_shown) = true)
    (in_Before : PySem.W.findIn K (.ref c_Before) "__init__" = some (some (.ref a_p_Pair_init)))
    (in_Under : PySem.W.findIn K (.ref c_Under) "__init__" = some (some (.ref a_p_Pair_init)))
    (in_Beside : PySem.W.findIn K (.ref c_Beside) "__init__" = some (some (.ref a_p_Pair_init)))
    (fn_p_Pair_init : PySem.W.isFn K (.ref a_p_Pair_init) = true)
    (l_p_Pair_init : K.lookup a_p_Pair_init = some ⟨oc_p_Pair_init, od_p_Pair_init, .func (PySem.W.fnOf "__init__" "Pair.__init__" (defArgs (inClass (top 6) 0)) (defBody (inClass (top 6) 0)) (defScope (inClass (top 6) 0)) .none kV_p_Pair_init dc_p_Pair_init pm_p_Pair_init an_p_Pair_init cd_p_Pair_init ct_p_Pair_init), sl_p_Pair_init⟩)
    (c_p_Pair_init : PySem.W.codeIn K cd_p_Pair_init "Pair.__init__" = true)
    (p_p_Pair_init : PySem.W.keepIn K (.ref a_p_Pair_init) = true)
    (me_All_word : PySem.W.findIn K (.ref c_All) "word" = some (some (.ref a_p_All_word)))
    (fn_p_All_word : PySem.W.isFn K (.ref a_p_All_word) = true)
    (l_p_All_word : K.lookup a_p_All_word = some ⟨oc_p_All_word, od_p_All_word, .func (PySem.W.fnOf "word" "All.word" (defArgs (inClass (top 11) 1)) (defBody (inClass (top 11) 1)) (defScope (inClass (top 11) 1)) .none kV_p_All_word dc_p_All_word pm_p_All_word an_p_All_word cd_p_All_word ct_p_All_word), sl_p_All_word⟩)
    (c_p_All_word : PySem.W.codeIn K cd_p_All_word "All.word" = true)
    (p_p_All_word : PySem.W.keepIn K (.ref a_p_All_word) = true)
    (me_Any_word : PySem.W.findIn K (.ref c_Any) "word" = some (some (.ref a_p_Any_word)))
    (fn_p_Any_word : PySem.W.isFn K (.ref a_p_Any_word) = true)
    (l_p_Any_word : K.lookup a_p_Any_word = some ⟨oc_p_Any_word, od_p_Any_word, .func (PySem.W.fnOf "word" "Any.word" (defArgs (inClass (top 12) 1)) (defBody (inClass (top 12) 1)) (defScope (inClass (top 12) 1)) .none kV_p_Any_word dc_p_Any_word pm_p_Any_word an_p_Any_word cd_p_Any_word ct_p_Any_word), sl_p_Any_word⟩)
    (c_p_Any_word : PySem.W.codeIn K cd_p_Any_word "Any.word" = true)
    (p_p_Any_word : PySem.W.keepIn K (.ref a_p_Any_word) = true)
    (me_Before_word : PySem.W.findIn K (.ref c_Before) "word" = some (some (.ref a_p_Before_word)))
    (fn_p_Before_word : PySem.W.isFn K (.ref a_p_Before_word) = true)
    (l_p_Before_word : K.lookup a_p_Before_word = some ⟨oc_p_Before_word, od_p_Before_word, .func (PySem.W.fnOf "word" "Before.word" (defArgs (inClass (top 7) 1)) (defBody (inClass (top 7) 1)) (defScope (inClass (top 7) 1)) .none kV_p_Before_word dc_p_Before_word pm_p_Before_word an_p_Before_word cd_p_Before_word ct_p_Before_word), sl_p_Before_word⟩)
    (c_p_Before_word : PySem.W.codeIn K cd_p_Before_word "Before.word" = true)
    (p_p_Before_word : PySem.W.keepIn K (.ref a_p_Before_word) = true)
    (me_Beside_word : PySem.W.findIn K (.ref c_Beside) "word" = some (some (.ref a_p_Beside_word)))
    (fn_p_Beside_word : PySem.W.isFn K (.ref a_p_Beside_word) = true)
    (l_p_Beside_word : K.lookup a_p_Beside_word = some ⟨oc_p_Beside_word, od_p_Beside_word, .func (PySem.W.fnOf "word" "Beside.word" (defArgs (inClass (top 9) 1)) (defBody (inClass (top 9) 1)) (defScope (inClass (top 9) 1)) .none kV_p_Beside_word dc_p_Beside_word pm_p_Beside_word an_p_Beside_word cd_p_Beside_word ct_p_Beside_word), sl_p_Beside_word⟩)
    (c_p_Beside_word : PySem.W.codeIn K cd_p_Beside_word "Beside.word" = true)
    (p_p_Beside_word : PySem.W.keepIn K (.ref a_p_Beside_word) = true)
    (me_Not_word : PySem.W.findIn K (.ref c_Not) "word" = some (some (.ref a_p_Not_word)))
    (fn_p_Not_word : PySem.W.isFn K (.ref a_p_Not_word) = true)
    (l_p_Not_word : K.lookup a_p_Not_word = some ⟨oc_p_Not_word, od_p_Not_word, .func (PySem.W.fnOf "word" "Not.word" (defArgs (inClass (top 13) 2)) (defBody (inClass (top 13) 2)) (defScope (inClass (top 13) 2)) .none kV_p_Not_word dc_p_Not_word pm_p_Not_word an_p_Not_word cd_p_Not_word ct_p_Not_word), sl_p_Not_word⟩)
    (c_p_Not_word : PySem.W.codeIn K cd_p_Not_word "Not.word" = true)
    (p_p_Not_word : PySem.W.keepIn K (.ref a_p_Not_word) = true)
    (me_Under_word : PySem.W.findIn K (.ref c_Under) "word" = some (some (.ref a_p_Under_word)))
    (fn_p_Under_word : PySem.W.isFn K (.ref a_p_Under_word) = true)
    (l_p_Under_word : K.lookup a_p_Under_word = some ⟨oc_p_Under_word, od_p_Under_word, .func (PySem.W.fnOf "word" "Under.word" (defArgs (inClass (top 8) 1)) (defBody (inClass (top 8) 1)) (defScope (inClass (top 8) 1)) .none kV_p_Under_word dc_p_Under_word pm_p_Under_word an_p_Under_word cd_p_Under_word ct_p_Under_word), sl_p_Under_word⟩)
    (c_p_Under_word : PySem.W.codeIn K cd_p_Under_word "Under.word" = true)
    (p_p_Under_word : PySem.W.keepIn K (.ref a_p_Under_word) = true)
    (me_Before_shown : PySem.W.findIn K (.ref c_Before) "shown" = some (some (.ref a_p_Pair_shown)))
    (me_Under_shown : PySem.W.findIn K (.ref c_Under) "shown" = some (some (.ref a_p_Pair_shown)))
    (me_Beside_shown : PySem.W.findIn K (.ref c_Beside) "shown" = some (some (.ref a_p_Pair_shown)))
    (fn_p_Pair_shown : PySem.W.isFn K (.ref a_p_Pair_shown) = true)
    (l_p_Pair_shown : K.lookup a_p_Pair_shown = some ⟨oc_p_Pair_shown, od_p_Pair_shown, .func (PySem.W.fnOf "shown" "Pair.shown" (defArgs (inClass (top 6) 3)) (defBody (inClass (top 6) 3)) (defScope (inClass (top 6) 3)) .none kV_p_Pair_shown dc_p_Pair_shown pm_p_Pair_shown an_p_Pair_shown cd_p_Pair_shown ct_p_Pair_shown), sl_p_Pair_shown⟩)
    (c_p_Pair_shown : PySem.W.codeIn K cd_p_Pair_shown "Pair.shown" = true)
    (p_p_Pair_shown : PySem.W.keepIn K (.ref a_p_Pair_shown) = true)
    (me_Beside_grows : PySem.W.findIn K (.ref c_Beside) "grows" = some (some (.ref a_p_Beside_grows)))
    (fn_p_Beside_grows : PySem.W.isFn K (.ref a_p_Beside_grows) = true)
    (l_p_Beside_grows : K.lookup a_p_Beside_grows = some ⟨oc_p_Beside_grows, od_p_Beside_grows, .func (PySem.W.fnOf "grows" "Beside.grows" (defArgs (inClass (top 9) 2)) (defBody (inClass (top 9) 2)) (defScope (inClass (top 9) 2)) .none kV_p_Beside_grows dc_p_Beside_grows pm_p_Beside_grows an_p_Beside_grows cd_p_Beside_grows ct_p_Beside_grows), sl_p_Beside_grows⟩)
    (c_p_Beside_grows : PySem.W.codeIn K cd_p_Beside_grows "Beside.grows" = true)
    (p_p_Beside_grows : PySem.W.keepIn K (.ref a_p_Beside_grows) = true)
    (in_All : PySem.W.findIn K (.ref c_All) "__init__" = some (some (.ref a_p_Group_init)))
    (in_Any : PySem.W.findIn K (.ref c_Any) "__init__" = some (some (.ref a_p_Group_init)))
    (fn_p_Group_init : PySem.W.isFn K (.ref a_p_Group_init) = true)
    (l_p_Group_init : K.lookup a_p_Group_init = some ⟨oc_p_Group_init, od_p_Group_init, .func (PySem.W.fnOf "__init__" "Group.__init__" (defArgs (inClass (top 10) 0)) (defBody (inClass (top 10) 0)) (defScope (inClass (top 10) 0)) .none kV_p_Group_init dc_p_Group_init pm_p_Group_init an_p_Group_init cd_p_Group_init ct_p_Group_init), sl_p_Group_init⟩)
    (c_p_Group_init : PySem.W.codeIn K cd_p_Group_init "Group.__init__" = true)
    (p_p_Group_init : PySem.W.keepIn K (.ref a_p_Group_init) = true)
    (me_All_shown : PySem.W.findIn K (.ref c_All) "shown" = some (some (.ref a_p_Group_shown)))
    (me_Any_shown : PySem.W.findIn K (.ref c_Any) "shown" = some (some (.ref a_p_Group_shown)))
    (me_Not_shown : PySem.W.findIn K (.ref c_Not) "shown" = some (some (.ref a_p_Group_shown)))
    (fn_p_Group_shown : PySem.W.isFn K (.ref a_p_Group_shown) = true)
    (l_p_Group_shown : K.lookup a_p_Group_shown = some ⟨oc_p_Group_shown, od_p_Group_shown, .func (PySem.W.fnOf "shown" "Group.shown" (defArgs (inClass (top 10) 3)) (defBody (inClass (top 10) 3)) (defScope (inClass (top 10) 3)) .none kV_p_Group_shown dc_p_Group_shown pm_p_Group_shown an_p_Group_shown cd_p_Group_shown ct_p_Group_shown), sl_p_Group_shown⟩)
    (c_p_Group_shown : PySem.W.codeIn K cd_p_Group_shown "Group.shown" = true)
    (p_p_Group_shown : PySem.W.keepIn K (.ref a_p_Group_shown) = true)
    (me_Not_grows : PySem.W.findIn K (.ref c_Not) "grows" = some (some (.ref a_p_Not_grows)))
    (fn_p_Not_grows : PySem.W.isFn K (.ref a_p_Not_grows) = true)
    (l_p_Not_grows : K.lookup a_p_Not_grows = some ⟨oc_p_Not_grows, od_p_Not_grows, .func (PySem.W.fnOf "grows" "Not.grows" (defArgs (inClass (top 13) 3)) (defBody (inClass (top 13) 3)) (defScope (inClass (top 13) 3)) .none kV_p_Not_grows dc_p_Not_grows pm_p_Not_grows an_p_Not_grows cd_p_Not_grows ct_p_Not_grows), sl_p_Not_grows⟩)
    (c_p_Not_grows : PySem.W.codeIn K cd_p_Not_grows "Not.grows" = true)
    (p_p_Not_grows : PySem.W.keepIn K (.ref a_p_Not_grows) = true)
    (me_All_grows : PySem.W.findIn K (.ref c_All) "grows" = some (some (.ref a_p_Group_grows)))
    (me_Any_grows : PySem.W.findIn K (.ref c_Any) "grows" = some (some (.ref a_p_Group_grows)))
    (fn_p_Group_grows : PySem.W.isFn K (.ref a_p_Group_grows) = true)
    (l_p_Group_grows : K.lookup a_p_Group_grows = some ⟨oc_p_Group_grows, od_p_Group_grows, .func (PySem.W.fnOf "grows" "Group.grows" (defArgs (inClass (top 10) 4)) (defBody (inClass (top 10) 4)) (defScope (inClass (top 10) 4)) .none kV_p_Group_grows dc_p_Group_grows pm_p_Group_grows an_p_Group_grows cd_p_Group_grows ct_p_Group_grows), sl_p_Group_grows⟩)
    (c_p_Group_grows : PySem.W.codeIn K cd_p_Group_grows "Group.grows" = true)
    (p_p_Group_grows : PySem.W.keepIn K (.ref a_p_Group_grows) = true)
    (in_Not : PySem.W.findIn K (.ref c_Not) "__init__" = some (some (.ref a_p_Not_init)))
    (fn_p_Not_init : PySem.W.isFn K (.ref a_p_Not_init) = true)
    (l_p_Not_init : K.lookup a_p_Not_init = some ⟨oc_p_Not_init, od_p_Not_init, .func (PySem.W.fnOf "__init__" "Not.__init__" (defArgs (inClass (top 13) 0)) (defBody (inClass (top 13) 0)) (defScope (inClass (top 13) 0)) .none kV_p_Not_init dc_p_Not_init pm_p_Not_init an_p_Not_init cd_p_Not_init ct_p_Not_init), sl_p_Not_init⟩)
    (c_p_Not_init : PySem.W.codeIn K cd_p_Not_init "Not.__init__" = true)
    (p_p_Not_init : PySem.W.keepIn K (.ref a_p_Not_init) = true)
    (g_l_cell_at : PySem.W.nsIn K mainGlobals "_law_cell_at" = some (some (.ref a_l_cell_at)))
    (l_l_cell_at : K.lookup a_l_cell_at = some ⟨oc_l_cell_at, od_l_cell_at, .func (PySem.W.fnOf "_law_cell_at" "_law_cell_at" (defArgs (top 15)) (defBody (top 15)) (defScope (top 15)) .none kV_l_cell_at dc_l_cell_at pm_l_cell_at an_l_cell_at cd_l_cell_at ct_l_cell_at), sl_l_cell_at⟩)
    (c_l_cell_at : PySem.W.codeIn K cd_l_cell_at "_law_cell_at" = true)
    (p_l_cell_at : PySem.W.keepIn K (.ref a_l_cell_at) = true)
    (g_l_names : PySem.W.nsIn K mainGlobals "_law_names" = some (some (.ref a_l_names)))
    (l_l_names : K.lookup a_l_names = some ⟨oc_l_names, od_l_names, .func (PySem.W.fnOf "_law_names" "_law_names" (defArgs (top 16)) (defBody (top 16)) (defScope (top 16)) .none kV_l_names dc_l_names pm_l_names an_l_names cd_l_names ct_l_names), sl_l_names⟩)
    (c_l_names : PySem.W.codeIn K cd_l_names "_law_names" = true)
    (p_l_names : PySem.W.keepIn K (.ref a_l_names) = true)
    (g_l_leaf : PySem.W.nsIn K mainGlobals "_law_leaf" = some (some (.ref a_l_leaf)))
    (l_l_leaf : K.lookup a_l_leaf = some ⟨oc_l_leaf, od_l_leaf, .func (PySem.W.fnOf "_law_leaf" "_law_leaf" (defArgs (top 17)) (defBody (top 17)) (defScope (top 17)) .none kV_l_leaf dc_l_leaf pm_l_leaf an_l_leaf cd_l_leaf ct_l_leaf), sl_l_leaf⟩)
    (c_l_leaf : PySem.W.codeIn K cd_l_leaf "_law_leaf" = true)
    (p_l_leaf : PySem.W.keepIn K (.ref a_l_leaf) = true)
    (g_l_term : PySem.W.nsIn K mainGlobals "_law_term" = some (some (.ref a_l_term)))
    (l_l_term : K.lookup a_l_term = some ⟨oc_l_term, od_l_term, .func (PySem.W.fnOf "_law_term" "_law_term" (defArgs (top 18)) (defBody (top 18)) (defScope (top 18)) .none kV_l_term dc_l_term pm_l_term an_l_term cd_l_term ct_l_term), sl_l_term⟩)
    (c_l_term : PySem.W.codeIn K cd_l_term "_law_term" = true)
    (p_l_term : PySem.W.keepIn K (.ref a_l_term) = true)
    (g_l_text : PySem.W.nsIn K mainGlobals "_law_text" = some (some (.ref a_l_text)))
    (l_l_text : K.lookup a_l_text = some ⟨oc_l_text, od_l_text, .func (PySem.W.fnOf "_law_text" "_law_text" (defArgs (top 19)) (defBody (top 19)) (defScope (top 19)) .none kV_l_text dc_l_text pm_l_text an_l_text cd_l_text ct_l_text), sl_l_text⟩)
    (c_l_text : PySem.W.codeIn K cd_l_text "_law_text" = true)
    (p_l_text : PySem.W.keepIn K (.ref a_l_text) = true)
    (g_l_marks : PySem.W.nsIn K mainGlobals "_law_marks" = some (some (.ref a_l_marks)))
    (l_l_marks : K.lookup a_l_marks = some ⟨oc_l_marks, od_l_marks, .func (PySem.W.fnOf "_law_marks" "_law_marks" (defArgs (top 20)) (defBody (top 20)) (defScope (top 20)) .none kV_l_marks dc_l_marks pm_l_marks an_l_marks cd_l_marks ct_l_marks), sl_l_marks⟩)
    (c_l_marks : PySem.W.codeIn K cd_l_marks "_law_marks" = true)
    (p_l_marks : PySem.W.keepIn K (.ref a_l_marks) = true)
    (g_l_grows : PySem.W.nsIn K mainGlobals "_law_grows" = some (some (.ref a_l_grows)))
    (l_l_grows : K.lookup a_l_grows = some ⟨oc_l_grows, od_l_grows, .func (PySem.W.fnOf "_law_grows" "_law_grows" (defArgs (top 21)) (defBody (top 21)) (defScope (top 21)) .none kV_l_grows dc_l_grows pm_l_grows an_l_grows cd_l_grows ct_l_grows), sl_l_grows⟩)
    (c_l_grows : PySem.W.codeIn K cd_l_grows "_law_grows" = true)
    (p_l_grows : PySem.W.keepIn K (.ref a_l_grows) = true)
    (g_l_fault : PySem.W.nsIn K mainGlobals "_law_fault" = some (some (.ref a_l_fault)))
    (l_l_fault : K.lookup a_l_fault = some ⟨oc_l_fault, od_l_fault, .func (PySem.W.fnOf "_law_fault" "_law_fault" (defArgs (top 22)) (defBody (top 22)) (defScope (top 22)) .none kV_l_fault dc_l_fault pm_l_fault an_l_fault cd_l_fault ct_l_fault), sl_l_fault⟩)
    (c_l_fault : PySem.W.codeIn K cd_l_fault "_law_fault" = true)
    (p_l_fault : PySem.W.keepIn K (.ref a_l_fault) = true)
    (g_p_law : PySem.W.nsIn K mainGlobals "law" = some (some (.ref a_p_law)))
    (l_p_law : K.lookup a_p_law = some ⟨oc_p_law, od_p_law, .func (PySem.W.fnOf "law" "law" (defArgs (top 23)) (defBody (top 23)) (defScope (top 23)) .none kV_p_law dc_p_law pm_p_law an_p_law cd_p_law ct_p_law), sl_p_law⟩)
    (c_p_law : PySem.W.codeIn K cd_p_law "law" = true)
    (p_p_law : PySem.W.keepIn K (.ref a_p_law) = true)
    (rb_Group : PySem.W.readsIn K c_Group (.type "type") = true)
    (rg_Group : PySem.W.specialIn K (.ref c_Group) "__getattribute__" = some (some (.builtin "type.__getattribute__")))
    (rf_Group : PySem.W.findCls K (.ref c_Group) (.type "type") "__init__" = some (.val (.ref a_p_Group_init)))
    (pg_Has : PySem.W.plainGet K c_Has Str.empty = true)
    (hd_Has : PySem.W.hasDictIn K c_Has = true)
    (po_Has : PySem.W.plainOver K c_Has = true)
    (sa_Has : PySem.W.findIn K (.ref c_Has) "__setattr__" = some (some (.builtin "object.__setattr__")))
    (mk_Has : PySem.W.makesIn K c_Has = true)
    (kp_Has : PySem.W.keepIn K (.ref c_Has) = true)
    (na_Has_mark : PySem.W.findIn K (.ref c_Has) "mark" = some none)
    (pg_Many : PySem.W.plainGet K c_Many Str.empty = true)
    (hd_Many : PySem.W.hasDictIn K c_Many = true)
    (po_Many : PySem.W.plainOver K c_Many = true)
    (sa_Many : PySem.W.findIn K (.ref c_Many) "__setattr__" = some (some (.builtin "object.__setattr__")))
    (mk_Many : PySem.W.makesIn K c_Many = true)
    (kp_Many : PySem.W.keepIn K (.ref c_Many) = true)
    (na_Many_number : PySem.W.findIn K (.ref c_Many) "number" = some none)
    (na_Many_mark : PySem.W.findIn K (.ref c_Many) "mark" = some none)
    (pg_Before : PySem.W.plainGet K c_Before Str.empty = true)
    (hd_Before : PySem.W.hasDictIn K c_Before = true)
    (po_Before : PySem.W.plainOver K c_Before = true)
    (sa_Before : PySem.W.findIn K (.ref c_Before) "__setattr__" = some (some (.builtin "object.__setattr__")))
    (mk_Before : PySem.W.makesIn K c_Before = true)
    (kp_Before : PySem.W.keepIn K (.ref c_Before) = true)
    (na_Before_one : PySem.W.findIn K (.ref c_Before) "one" = some none)
    (na_Before_other : PySem.W.findIn K (.ref c_Before) "other" = some none)
    (pg_Under : PySem.W.plainGet K c_Under Str.empty = true)
    (hd_Under : PySem.W.hasDictIn K c_Under = true)
    (po_Under : PySem.W.plainOver K c_Under = true)
    (sa_Under : PySem.W.findIn K (.ref c_Under) "__setattr__" = some (some (.builtin "object.__setattr__")))
    (mk_Under : PySem.W.makesIn K c_Under = true)
    (kp_Under : PySem.W.keepIn K (.ref c_Under) = true)
    (na_Under_one : PySem.W.findIn K (.ref c_Under) "one" = some none)
    (na_Under_other : PySem.W.findIn K (.ref c_Under) "other" = some none)
    (pg_Beside : PySem.W.plainGet K c_Beside Str.empty = true)
    (hd_Beside : PySem.W.hasDictIn K c_Beside = true)
    (po_Beside : PySem.W.plainOver K c_Beside = true)
    (sa_Beside : PySem.W.findIn K (.ref c_Beside) "__setattr__" = some (some (.builtin "object.__setattr__")))
    (mk_Beside : PySem.W.makesIn K c_Beside = true)
    (kp_Beside : PySem.W.keepIn K (.ref c_Beside) = true)
    (na_Beside_one : PySem.W.findIn K (.ref c_Beside) "one" = some none)
    (na_Beside_other : PySem.W.findIn K (.ref c_Beside) "other" = some none)
    (pg_All : PySem.W.plainGet K c_All Str.empty = true)
    (hd_All : PySem.W.hasDictIn K c_All = true)
    (po_All : PySem.W.plainOver K c_All = true)
    (sa_All : PySem.W.findIn K (.ref c_All) "__setattr__" = some (some (.builtin "object.__setattr__")))
    (mk_All : PySem.W.makesIn K c_All = true)
    (kp_All : PySem.W.keepIn K (.ref c_All) = true)
    (na_All_parts : PySem.W.findIn K (.ref c_All) "parts" = some none)
    (pg_Any : PySem.W.plainGet K c_Any Str.empty = true)
    (hd_Any : PySem.W.hasDictIn K c_Any = true)
    (po_Any : PySem.W.plainOver K c_Any = true)
    (sa_Any : PySem.W.findIn K (.ref c_Any) "__setattr__" = some (some (.builtin "object.__setattr__")))
    (mk_Any : PySem.W.makesIn K c_Any = true)
    (kp_Any : PySem.W.keepIn K (.ref c_Any) = true)
    (na_Any_parts : PySem.W.findIn K (.ref c_Any) "parts" = some none)
    (pg_Not : PySem.W.plainGet K c_Not Str.empty = true)
    (hd_Not : PySem.W.hasDictIn K c_Not = true)
    (po_Not : PySem.W.plainOver K c_Not = true)
    (sa_Not : PySem.W.findIn K (.ref c_Not) "__setattr__" = some (some (.builtin "object.__setattr__")))
    (mk_Not : PySem.W.makesIn K c_Not = true)
    (kp_Not : PySem.W.keepIn K (.ref c_Not) = true)
    (na_Not_parts : PySem.W.findIn K (.ref c_Not) "parts" = some none)
    : ∃ fd : FuncData, (∀ (s : Shared) (v : Value), BindsTo s fd ⟨[v], []⟩ [("_law_script", v)]) ∧ ∀ base : Heap, K.In base → base.Ns mainGlobals mg → FnOk l.prog w K mg base (L2N.CX l.prog w) 30 fa fd ["_law_script"] (spOf K ⟨clOf K clsN, l.prog, w⟩ [true] m_p_law) := by
  have e := hfa.symm.trans (PySem.W.mg_of X G g_p_law)
  cases e
  have e_Has : clOf K clsN 14 = c_Has := clOf_eq rfl gc_Has
  subst e_Has
  have e_Many : clOf K clsN 15 = c_Many := clOf_eq rfl gc_Many
  subst e_Many
  have e_Before : clOf K clsN 17 = c_Before := clOf_eq rfl gc_Before
  subst e_Before
  have e_Under : clOf K clsN 18 = c_Under := clOf_eq rfl gc_Under
  subst e_Under
  have e_Beside : clOf K clsN 19 = c_Beside := clOf_eq rfl gc_Beside
  subst e_Beside
  have e_Group : clOf K clsN 20 = c_Group := clOf_eq rfl gc_Group
  subst e_Group
  have e_All : clOf K clsN 21 = c_All := clOf_eq rfl gc_All
  subst e_All
  have e_Any : clOf K clsN 22 = c_Any := clOf_eq rfl gc_Any
  subst e_Any
  have e_Not : clOf K clsN 23 = c_Not := clOf_eq rfl gc_Not
  subst e_Not
  let T : Fs l.prog w K mg ⟨clOf K clsN, l.prog, w⟩ := {
    hP := rfl
    hw := rfl
    n_sorted := PySem.W.mg_none_of X G n_sorted
    n_str := PySem.W.mg_none_of X G n_str
    n_list := PySem.W.mg_none_of X G n_list
    n_all := PySem.W.mg_none_of X G n_all
    n_len := PySem.W.mg_none_of X G n_len
    n_int := PySem.W.mg_none_of X G n_int
    n_range := PySem.W.mg_none_of X G n_range
    n_min := PySem.W.mg_none_of X G n_min
    n_tuple := PySem.W.mg_none_of X G n_tuple
    n_set := PySem.W.mg_none_of X G n_set
    n_isinstance := PySem.W.mg_none_of X G n_isinstance
    n_bool := PySem.W.mg_none_of X G n_bool
    a_p_Has_marks := a_p_Has_marks
    d_p_Has_marks := _
    F_p_Has_marks := fun_mk l_p_Has_marks c_p_Has_marks p_p_Has_marks
    b_p_Has_marks := (fun_mk (st := inClass (top 4) 2) l_p_Has_marks c_p_Has_marks p_p_Has_marks).binds (ps := ["self"]) fun _ _ _ _ _ _ us hl => match us, hl with | [_], _ => rfl
    a_p_Many_marks := a_p_Many_marks
    d_p_Many_marks := _
    F_p_Many_marks := fun_mk l_p_Many_marks c_p_Many_marks p_p_Many_marks
    b_p_Many_marks := (fun_mk (st := inClass (top 5) 2) l_p_Many_marks c_p_Many_marks p_p_Many_marks).binds (ps := ["self"]) fun _ _ _ _ _ _ us hl => match us, hl with | [_], _ => rfl
    a_p_Pair_marks := a_p_Pair_marks
    d_p_Pair_marks := _
    F_p_Pair_marks := fun_mk l_p_Pair_marks c_p_Pair_marks p_p_Pair_marks
    b_p_Pair_marks := (fun_mk (st := inClass (top 6) 1) l_p_Pair_marks c_p_Pair_marks p_p_Pair_marks).binds (ps := ["self"]) fun _ _ _ _ _ _ us hl => match us, hl with | [_], _ => rfl
    a_p_sorted_marks := a_p_sorted_marks
    d_p_sorted_marks := _
    F_p_sorted_marks := fun_mk l_p_sorted_marks c_p_sorted_marks p_p_sorted_marks
    b_p_sorted_marks := (fun_mk (st := top 2) l_p_sorted_marks c_p_sorted_marks p_p_sorted_marks).binds (ps := ["parts"]) fun _ _ _ _ _ _ us hl => match us, hl with | [_], _ => rfl
    g_p_sorted_marks := PySem.W.mg_of X G g_p_sorted_marks
    a_p_Group_marks := a_p_Group_marks
    d_p_Group_marks := _
    F_p_Group_marks := fun_mk l_p_Group_marks c_p_Group_marks p_p_Group_marks
    b_p_Group_marks := (fun_mk (st := inClass (top 10) 1) l_p_Group_marks c_p_Group_marks p_p_Group_marks).binds (ps := ["self"]) fun _ _ _ _ _ _ us hl => match us, hl with | [_], _ => rfl
    a_p_Fault_grows := a_p_Fault_grows
    d_p_Fault_grows := _
    F_p_Fault_grows := fun_mk l_p_Fault_grows c_p_Fault_grows p_p_Fault_grows
    b_p_Fault_grows := (fun_mk (st := inClass (top 3) 3) l_p_Fault_grows c_p_Fault_grows p_p_Fault_grows).binds (ps := ["self"]) fun _ _ _ _ _ _ us hl => match us, hl with | [_], _ => rfl
    a_p_Has_init := a_p_Has_init
    d_p_Has_init := _
    F_p_Has_init := fun_mk l_p_Has_init c_p_Has_init p_p_Has_init
    b_p_Has_init := (fun_mk (st := inClass (top 4) 0) l_p_Has_init c_p_Has_init p_p_Has_init).binds (ps := ["self", "mark"]) fun _ _ _ _ _ _ us hl => match us, hl with | [_, _], _ => rfl
    a_p_Has_shown := a_p_Has_shown
    d_p_Has_shown := _
    F_p_Has_shown := fun_mk l_p_Has_shown c_p_Has_shown p_p_Has_shown
    b_p_Has_shown := (fun_mk (st := inClass (top 4) 3) l_p_Has_shown c_p_Has_shown p_p_Has_shown).binds (ps := ["self"]) fun _ _ _ _ _ _ us hl => match us, hl with | [_], _ => rfl
    a_p_Many_init := a_p_Many_init
    d_p_Many_init := _
    F_p_Many_init := fun_mk l_p_Many_init c_p_Many_init p_p_Many_init
    b_p_Many_init := (fun_mk (st := inClass (top 5) 0) l_p_Many_init c_p_Many_init p_p_Many_init).binds (ps := ["self", "number", "mark"]) fun _ _ _ _ _ _ us hl => match us, hl with | [_, _, _], _ => rfl
    a_p_Many_shown := a_p_Many_shown
    d_p_Many_shown := _
    F_p_Many_shown := fun_mk l_p_Many_shown c_p_Many_shown p_p_Many_shown
    b_p_Many_shown := (fun_mk (st := inClass (top 5) 3) l_p_Many_shown c_p_Many_shown p_p_Many_shown).binds (ps := ["self"]) fun _ _ _ _ _ _ us hl => match us, hl with | [_], _ => rfl
    a_p_Pair_init := a_p_Pair_init
    d_p_Pair_init := _
    F_p_Pair_init := fun_mk l_p_Pair_init c_p_Pair_init p_p_Pair_init
    b_p_Pair_init := (fun_mk (st := inClass (top 6) 0) l_p_Pair_init c_p_Pair_init p_p_Pair_init).binds (ps := ["self", "one", "other"]) fun _ _ _ _ _ _ us hl => match us, hl with | [_, _, _], _ => rfl
    a_p_All_word := a_p_All_word
    d_p_All_word := _
    F_p_All_word := fun_mk l_p_All_word c_p_All_word p_p_All_word
    b_p_All_word := (fun_mk (st := inClass (top 11) 1) l_p_All_word c_p_All_word p_p_All_word).binds (ps := ["self"]) fun _ _ _ _ _ _ us hl => match us, hl with | [_], _ => rfl
    a_p_Any_word := a_p_Any_word
    d_p_Any_word := _
    F_p_Any_word := fun_mk l_p_Any_word c_p_Any_word p_p_Any_word
    b_p_Any_word := (fun_mk (st := inClass (top 12) 1) l_p_Any_word c_p_Any_word p_p_Any_word).binds (ps := ["self"]) fun _ _ _ _ _ _ us hl => match us, hl with | [_], _ => rfl
    a_p_Before_word := a_p_Before_word
    d_p_Before_word := _
    F_p_Before_word := fun_mk l_p_Before_word c_p_Before_word p_p_Before_word
    b_p_Before_word := (fun_mk (st := inClass (top 7) 1) l_p_Before_word c_p_Before_word p_p_Before_word).binds (ps := ["self"]) fun _ _ _ _ _ _ us hl => match us, hl with | [_], _ => rfl
    a_p_Beside_word := a_p_Beside_word
    d_p_Beside_word := _
    F_p_Beside_word := fun_mk l_p_Beside_word c_p_Beside_word p_p_Beside_word
    b_p_Beside_word := (fun_mk (st := inClass (top 9) 1) l_p_Beside_word c_p_Beside_word p_p_Beside_word).binds (ps := ["self"]) fun _ _ _ _ _ _ us hl => match us, hl with | [_], _ => rfl
    a_p_Not_word := a_p_Not_word
    d_p_Not_word := _
    F_p_Not_word := fun_mk l_p_Not_word c_p_Not_word p_p_Not_word
    b_p_Not_word := (fun_mk (st := inClass (top 13) 2) l_p_Not_word c_p_Not_word p_p_Not_word).binds (ps := ["self"]) fun _ _ _ _ _ _ us hl => match us, hl with | [_], _ => rfl
    a_p_Under_word := a_p_Under_word
    d_p_Under_word := _
    F_p_Under_word := fun_mk l_p_Under_word c_p_Under_word p_p_Under_word
    b_p_Under_word := (fun_mk (st := inClass (top 8) 1) l_p_Under_word c_p_Under_word p_p_Under_word).binds (ps := ["self"]) fun _ _ _ _ _ _ us hl => match us, hl with | [_], _ => rfl
    a_p_Pair_shown := a_p_Pair_shown
    d_p_Pair_shown := _
    F_p_Pair_shown := fun_mk l_p_Pair_shown c_p_Pair_shown p_p_Pair_shown
    b_p_Pair_shown := (fun_mk (st := inClass (top 6) 3) l_p_Pair_shown c_p_Pair_shown p_p_Pair_shown).binds (ps := ["self"]) fun _ _ _ _ _ _ us hl => match us, hl with | [_], _ => rfl
    a_p_Beside_grows := a_p_Beside_grows
    d_p_Beside_grows := _
    F_p_Beside_grows := fun_mk l_p_Beside_grows c_p_Beside_grows p_p_Beside_grows
    b_p_Beside_grows := (fun_mk (st := inClass (top 9) 2) l_p_Beside_grows c_p_Beside_grows p_p_Beside_grows).binds (ps := ["self"]) fun _ _ _ _ _ _ us hl => match us, hl with | [_], _ => rfl
    a_p_Group_init := a_p_Group_init
    d_p_Group_init := _
    F_p_Group_init := fun_mk l_p_Group_init c_p_Group_init p_p_Group_init
    b_p_Group_init := (fun_mk (st := inClass (top 10) 0) l_p_Group_init c_p_Group_init p_p_Group_init).binds (ps := ["self", "parts"]) fun _ _ _ _ _ _ us hl => match us, hl with | [_, _], _ => rfl
    a_p_Group_shown := a_p_Group_shown
    d_p_Group_shown := _
    F_p_Group_shown := fun_mk l_p_Group_shown c_p_Group_shown p_p_Group_shown
    b_p_Group_shown := (fun_mk (st := inClass (top 10) 3) l_p_Group_shown c_p_Group_shown p_p_Group_shown).binds (ps := ["self"]) fun _ _ _ _ _ _ us hl => match us, hl with | [_], _ => rfl
    a_p_Not_grows := a_p_Not_grows
    d_p_Not_grows := _
    F_p_Not_grows := fun_mk l_p_Not_grows c_p_Not_grows p_p_Not_grows
    b_p_Not_grows := (fun_mk (st := inClass (top 13) 3) l_p_Not_grows c_p_Not_grows p_p_Not_grows).binds (ps := ["self"]) fun _ _ _ _ _ _ us hl => match us, hl with | [_], _ => rfl
    a_p_Group_grows := a_p_Group_grows
    d_p_Group_grows := _
    F_p_Group_grows := fun_mk l_p_Group_grows c_p_Group_grows p_p_Group_grows
    b_p_Group_grows := (fun_mk (st := inClass (top 10) 4) l_p_Group_grows c_p_Group_grows p_p_Group_grows).binds (ps := ["self"]) fun _ _ _ _ _ _ us hl => match us, hl with | [_], _ => rfl
    a_p_Not_init := a_p_Not_init
    d_p_Not_init := _
    F_p_Not_init := fun_mk l_p_Not_init c_p_Not_init p_p_Not_init
    b_p_Not_init := (fun_mk (st := inClass (top 13) 0) l_p_Not_init c_p_Not_init p_p_Not_init).binds (ps := ["self", "part"]) fun _ _ _ _ _ _ us hl => match us, hl with | [_, _], _ => rfl
    a_l_cell_at := a_l_cell_at
    d_l_cell_at := _
    F_l_cell_at := fun_mk l_l_cell_at c_l_cell_at p_l_cell_at
    b_l_cell_at := (fun_mk (st := top 15) l_l_cell_at c_l_cell_at p_l_cell_at).binds (ps := ["_law_script", "_law_k"]) fun _ _ _ _ _ _ us hl => match us, hl with | [_, _], _ => rfl
    g_l_cell_at := PySem.W.mg_of X G g_l_cell_at
    a_l_names := a_l_names
    d_l_names := _
    F_l_names := fun_mk l_l_names c_l_names p_l_names
    b_l_names := (fun_mk (st := top 16) l_l_names c_l_names p_l_names).binds (ps := ["_law_cell", "_law_many"]) fun _ _ _ _ _ _ us hl => match us, hl with | [_, _], _ => rfl
    g_l_names := PySem.W.mg_of X G g_l_names
    a_l_leaf := a_l_leaf
    d_l_leaf := _
    F_l_leaf := fun_mk l_l_leaf c_l_leaf p_l_leaf
    b_l_leaf := (fun_mk (st := top 17) l_l_leaf c_l_leaf p_l_leaf).binds (ps := ["_law_cell", "_law_names_here"]) fun _ _ _ _ _ _ us hl => match us, hl with | [_, _], _ => rfl
    g_l_leaf := PySem.W.mg_of X G g_l_leaf
    a_l_term := a_l_term
    d_l_term := _
    F_l_term := fun_mk l_l_term c_l_term p_l_term
    b_l_term := (fun_mk (st := top 18) l_l_term c_l_term p_l_term).binds (ps := ["_law_script", "_law_begin", "_law_many", "_law_names_here"]) fun _ _ _ _ _ _ us hl => match us, hl with | [_, _, _, _], _ => rfl
    g_l_term := PySem.W.mg_of X G g_l_term
    a_l_text := a_l_text
    d_l_text := _
    F_l_text := fun_mk l_l_text c_l_text p_l_text
    b_l_text := (fun_mk (st := top 19) l_l_text c_l_text p_l_text).binds (ps := ["_law_term_here"]) fun _ _ _ _ _ _ us hl => match us, hl with | [_], _ => rfl
    g_l_text := PySem.W.mg_of X G g_l_text
    a_l_marks := a_l_marks
    d_l_marks := _
    F_l_marks := fun_mk l_l_marks c_l_marks p_l_marks
    b_l_marks := (fun_mk (st := top 20) l_l_marks c_l_marks p_l_marks).binds (ps := ["_law_term_here"]) fun _ _ _ _ _ _ us hl => match us, hl with | [_], _ => rfl
    g_l_marks := PySem.W.mg_of X G g_l_marks
    a_l_grows := a_l_grows
    d_l_grows := _
    F_l_grows := fun_mk l_l_grows c_l_grows p_l_grows
    b_l_grows := (fun_mk (st := top 21) l_l_grows c_l_grows p_l_grows).binds (ps := ["_law_term_here"]) fun _ _ _ _ _ _ us hl => match us, hl with | [_], _ => rfl
    g_l_grows := PySem.W.mg_of X G g_l_grows
    a_l_fault := a_l_fault
    d_l_fault := _
    F_l_fault := fun_mk l_l_fault c_l_fault p_l_fault
    b_l_fault := (fun_mk (st := top 22) l_l_fault c_l_fault p_l_fault).binds (ps := ["_law_term_here", "_law_lists"]) fun _ _ _ _ _ _ us hl => match us, hl with | [_, _], _ => rfl
    g_l_fault := PySem.W.mg_of X G g_l_fault
    a_p_law := fa
    d_p_law := _
    F_p_law := fun_mk l_p_law c_p_law p_p_law
    b_p_law := (fun_mk (st := top 23) l_p_law c_p_law p_p_law).binds (ps := ["_law_script"]) fun _ _ _ _ _ _ us hl => match us, hl with | [_], _ => rfl
    g_p_law := PySem.W.mg_of X G g_p_law
    gc_Has := PySem.W.mg_of X G gc_Has
    gc_Many := PySem.W.mg_of X G gc_Many
    gc_Before := PySem.W.mg_of X G gc_Before
    gc_Under := PySem.W.mg_of X G gc_Under
    gc_Beside := PySem.W.mg_of X G gc_Beside
    gc_Group := PySem.W.mg_of X G gc_Group
    gc_All := PySem.W.mg_of X G gc_All
    gc_Any := PySem.W.mg_of X G gc_Any
    gc_Not := PySem.W.mg_of X G gc_Not
    rb_Group := rb_Group
    rg_Group := rg_Group
    rf_Group := rf_Group
    cls_Has := ⟨pg_Has, hd_Has, po_Has, sa_Has⟩
    mk_Has := ⟨mk_Has, in_Has, fn_p_Has_init, kp_Has⟩
    na_Has_mark := na_Has_mark
    cls_Many := ⟨pg_Many, hd_Many, po_Many, sa_Many⟩
    mk_Many := ⟨mk_Many, in_Many, fn_p_Many_init, kp_Many⟩
    na_Many_number := na_Many_number
    na_Many_mark := na_Many_mark
    cls_Before := ⟨pg_Before, hd_Before, po_Before, sa_Before⟩
    mk_Before := ⟨mk_Before, in_Before, fn_p_Pair_init, kp_Before⟩
    na_Before_one := na_Before_one
    na_Before_other := na_Before_other
    cls_Under := ⟨pg_Under, hd_Under, po_Under, sa_Under⟩
    mk_Under := ⟨mk_Under, in_Under, fn_p_Pair_init, kp_Under⟩
    na_Under_one := na_Under_one
    na_Under_other := na_Under_other
    cls_Beside := ⟨pg_Beside, hd_Beside, po_Beside, sa_Beside⟩
    mk_Beside := ⟨mk_Beside, in_Beside, fn_p_Pair_init, kp_Beside⟩
    na_Beside_one := na_Beside_one
    na_Beside_other := na_Beside_other
    cls_All := ⟨pg_All, hd_All, po_All, sa_All⟩
    mk_All := ⟨mk_All, in_All, fn_p_Group_init, kp_All⟩
    na_All_parts := na_All_parts
    cls_Any := ⟨pg_Any, hd_Any, po_Any, sa_Any⟩
    mk_Any := ⟨mk_Any, in_Any, fn_p_Group_init, kp_Any⟩
    na_Any_parts := na_Any_parts
    cls_Not := ⟨pg_Not, hd_Not, po_Not, sa_Not⟩
    mk_Not := ⟨mk_Not, in_Not, fn_p_Not_init, kp_Not⟩
    na_Not_parts := na_Not_parts
    me_Has_grows := ⟨me_Has_grows, fn_p_Fault_grows, p_p_Fault_grows⟩
    me_Many_grows := ⟨me_Many_grows, fn_p_Fault_grows, p_p_Fault_grows⟩
    me_Before_grows := ⟨me_Before_grows, fn_p_Fault_grows, p_p_Fault_grows⟩
    me_Under_grows := ⟨me_Under_grows, fn_p_Fault_grows, p_p_Fault_grows⟩
    me_Beside_grows := ⟨me_Beside_grows, fn_p_Beside_grows, p_p_Beside_grows⟩
    me_All_grows := ⟨me_All_grows, fn_p_Group_grows, p_p_Group_grows⟩
    me_Any_grows := ⟨me_Any_grows, fn_p_Group_grows, p_p_Group_grows⟩
    me_Not_grows := ⟨me_Not_grows, fn_p_Not_grows, p_p_Not_grows⟩
    me_Has_marks := ⟨me_Has_marks, fn_p_Has_marks, p_p_Has_marks⟩
    me_Many_marks := ⟨me_Many_marks, fn_p_Many_marks, p_p_Many_marks⟩
    me_Before_marks := ⟨me_Before_marks, fn_p_Pair_marks, p_p_Pair_marks⟩
    me_Under_marks := ⟨me_Under_marks, fn_p_Pair_marks, p_p_Pair_marks⟩
    me_Beside_marks := ⟨me_Beside_marks, fn_p_Pair_marks, p_p_Pair_marks⟩
    me_All_marks := ⟨me_All_marks, fn_p_Group_marks, p_p_Group_marks⟩
    me_Any_marks := ⟨me_Any_marks, fn_p_Group_marks, p_p_Group_marks⟩
    me_Not_marks := ⟨me_Not_marks, fn_p_Group_marks, p_p_Group_marks⟩
    me_Has_shown := ⟨me_Has_shown, fn_p_Has_shown, p_p_Has_shown⟩
    me_Many_shown := ⟨me_Many_shown, fn_p_Many_shown, p_p_Many_shown⟩
    me_Before_shown := ⟨me_Before_shown, fn_p_Pair_shown, p_p_Pair_shown⟩
    me_Under_shown := ⟨me_Under_shown, fn_p_Pair_shown, p_p_Pair_shown⟩
    me_Beside_shown := ⟨me_Beside_shown, fn_p_Pair_shown, p_p_Pair_shown⟩
    me_All_shown := ⟨me_All_shown, fn_p_Group_shown, p_p_Group_shown⟩
    me_Any_shown := ⟨me_Any_shown, fn_p_Group_shown, p_p_Group_shown⟩
    me_Not_shown := ⟨me_Not_shown, fn_p_Group_shown, p_p_Group_shown⟩
    me_Before_word := ⟨me_Before_word, fn_p_Before_word, p_p_Before_word⟩
    me_Under_word := ⟨me_Under_word, fn_p_Under_word, p_p_Under_word⟩
    me_Beside_word := ⟨me_Beside_word, fn_p_Beside_word, p_p_Beside_word⟩
    me_All_word := ⟨me_All_word, fn_p_All_word, p_p_All_word⟩
    me_Any_word := ⟨me_Any_word, fn_p_Any_word, p_p_Any_word⟩
    me_Not_word := ⟨me_Not_word, fn_p_Not_word, p_p_Not_word⟩ }
  exact ⟨T.d_p_law, fun s v => .of_eq rfl, fun base _ _ => ok_p_law T⟩
theorem walk {l : PySem.W.OpenLaw} {q : Program} {loose : List Str} {XP : (Str → Option Value) → Heap → Prop} {YP : World → Heap → Prop} {d : DefRec} {K : Params → PySem.W.Frag} (hlaw : LawOk) (hn : l.most = some 63) (hdf : d.params.defaults = [])
    (hY : ∀ (w : World) (h : Heap), YP w h → (K w.params).In h)
    (F : ∀ (w : World) (mg : Str → Option Value) (fa : Addr) (h : Heap), (K w.params).In h → h.Ns mainGlobals mg → mg d.name = some (.ref fa) →
      ∃ fd : FuncData, (∀ (s : Shared) (u : Value), BindsTo s fd ⟨[u], []⟩ [("_law_script", u)]) ∧ ∀ base : Heap, (K w.params).In base → base.Ns mainGlobals mg → FnOk l.prog w (K w.params) mg base (L2N.CX l.prog w) 30 fa fd ["_law_script"] (spOf (K w.params) ⟨clOf (K w.params) clsN, l.prog, w⟩ [true] m_p_law)) :
    PySem.W.WalkO q loose XP YP l.row.toRowW d [] (fun f vs => PySem.call f vs) :=
  L2.walk_of (n := 63) (k := 30) (x := "_law_script") (CX := fun w => L2N.CX l.prog w) (sp := fun w => spOf (K w.params) ⟨clOf (K w.params) clsN, l.prog, w⟩ [true] m_p_law) hn (by decide) hdf ⟨rfl, by decide, by decide⟩ hY F (fun w H a ns hl hO hS => sp_startR [true] (by simp) (hlaw ns hl) hS) fun _ _ _ _ _ z => cx_end z
end PM
open PySem PySem.W PyProof.Rows
set_option maxRecDepth 100000 in
set_option maxHeartbeats 0 in
theorem PySem.Challenge.cw_shrinkhouse_k11_told_of_a_fault_holds : PySem.Challenge.rw_shrinkhouse_k11_told_of_a_fault.Holds := by
  refine PM.top_ ?_
  k_fill
  refine PM.walk (l := PySem.Challenge.rw_shrinkhouse_k11_told_of_a_fault) PM.law_ok rfl rfl (fun w h Y => PySem.W.kIn_of Y) ?F
  case F =>
    intro w mg fa h KX G hmg
    refine' PM.all_mk KX G hmg ?n_sorted ?n_str ?n_list ?n_all ?n_len ?n_int ?n_range ?n_min ?n_tuple ?n_set ?n_isinstance ?n_bool ?gc_Has ?gc_Many ?gc_Before ?gc_Under ?gc_Beside ?gc_Group ?gc_All ?gc_Any ?gc_Not ?me_Has_marks ?fn_p_Has_marks ?l_p_Has_marks ?c_p_Has_marks ?p_p_Has_marks ?me_Many_marks ?fn_p_Many_marks ?l_p_Many_marks ?c_p_Many_marks ?p_p_Many_marks ?me_Before_marks ?me_Under_marks ?me_Beside_marks ?fn_p_Pair_marks ?l_p_Pair_marks ?c_p_Pair_marks ?p_p_Pair_marks ?g_p_sorted_marks ?l_p_sorted_marks ?c_p_sorted_marks ?p_p_sorted_marks ?me_All_marks ?me_Any_marks ?me_Not_marks ?fn_p_Group_marks ?l_p_Group_marks ?c_p_Group_marks ?p_p_Group_marks ?me_Has_grows ?me_Many_grows ?me_Before_grows ?me_Under_grows ?fn_p_Fault_grows ?l_p_Fault_grows ?c_p_Fault_grows ?p_p_Fault_grows ?in_Has ?fn_p_Has_init ?l_p_Has_init ?c_p_Has_init ?p_p_Has_init ?me_Has_shown ?fn_p_Has_shown ?l_p_Has_shown ?c_p_Has_shown ?p_p_Has_shown ?in_Many ?fn_p_Many_init ?l_p_Many_init ?c_p_Many_init ?p_p_Many_init ?me_Many_shown ?fn_p_Many_shown ?l_p_Many_shown ?c_p_Many_shown ?p_p_Many_shown ?in_Before ?in_Under ?in_Beside ?fn_p_Pair_init ?l_p_Pair_init ?c_p_Pair_init ?p_p_Pair_init ?me_All_word ?fn_p_All_word ?l_p_All_word ?c_p_All_word ?p_p_All_word ?me_Any_word ?fn_p_Any_word ?l_p_Any_word ?c_p_Any_word ?p_p_Any_word ?me_Before_word ?fn_p_Before_word ?l_p_Before_word ?c_p_Before_word ?p_p_Before_word ?me_Beside_word ?fn_p_Beside_word ?l_p_Beside_word ?c_p_Beside_word ?p_p_Beside_word ?me_Not_word ?fn_p_Not_word ?l_p_Not_word ?c_p_Not_word ?p_p_Not_word ?me_Under_word ?fn_p_Under_word ?l_p_Under_word ?c_p_Under_word ?p_p_Under_word ?me_Before_shown ?me_Under_shown ?me_Beside_shown ?fn_p_Pair_shown ?l_p_Pair_shown ?c_p_Pair_shown ?p_p_Pair_shown ?me_Beside_grows ?fn_p_Beside_grows ?l_p_Beside_grows ?c_p_Beside_grows ?p_p_Beside_grows ?in_All ?in_Any ?fn_p_Group_init ?l_p_Group_init ?c_p_Group_init ?p_p_Group_init ?me_All_shown ?me_Any_shown ?me_Not_shown ?fn_p_Group_shown ?l_p_Group_shown ?c_p_Group_shown ?p_p_Group_shown ?me_Not_grows ?fn_p_Not_grows ?l_p_Not_grows ?c_p_Not_grows ?p_p_Not_grows ?me_All_grows ?me_Any_grows ?fn_p_Group_grows ?l_p_Group_grows ?c_p_Group_grows ?p_p_Group_grows ?in_Not ?fn_p_Not_init ?l_p_Not_init ?c_p_Not_init ?p_p_Not_init ?g_l_cell_at ?l_l_cell_at ?c_l_cell_at ?p_l_cell_at ?g_l_names ?l_l_names ?c_l_names ?p_l_names ?g_l_leaf ?l_l_leaf ?c_l_leaf ?p_l_leaf ?g_l_term ?l_l_term ?c_l_term ?p_l_term ?g_l_text ?l_l_text ?c_l_text ?p_l_text ?g_l_marks ?l_l_marks ?c_l_marks ?p_l_marks ?g_l_grows ?l_l_grows ?c_l_grows ?p_l_grows ?g_l_fault ?l_l_fault ?c_l_fault ?p_l_fault ?g_p_law ?l_p_law ?c_p_law ?p_p_law ?rb_Group ?rg_Group ?rf_Group ?pg_Has ?hd_Has ?po_Has ?sa_Has ?mk_Has ?kp_Has ?na_Has_mark ?pg_Many ?hd_Many ?po_Many ?sa_Many ?mk_Many ?kp_Many ?na_Many_number ?na_Many_mark ?pg_Before ?hd_Before ?po_Before ?sa_Before ?mk_Before ?kp_Before ?na_Before_one ?na_Before_other ?pg_Under ?hd_Under ?po_Under ?sa_Under ?mk_Under ?kp_Under ?na_Under_one ?na_Under_other ?pg_Beside ?hd_Beside ?po_Beside ?sa_Beside ?mk_Beside ?kp_Beside ?na_Beside_one ?na_Beside_other ?pg_All ?hd_All ?po_All ?sa_All ?mk_All ?kp_All ?na_All_parts ?pg_Any ?hd_Any ?po_Any ?sa_Any ?mk_Any ?kp_Any ?na_Any_parts ?pg_Not ?hd_Not ?po_Not ?sa_Not ?mk_Not ?kp_Not ?na_Not_parts
    (case n_sorted => k_is)
    (case n_str => k_is)
    (case n_list => k_is)
    (case n_all => k_is)
    (case n_len => k_is)
    (case n_int => k_is)
    (case n_range => k_is)
    (case n_min => k_is)
    (case n_tuple => k_is)
    (case n_set => k_is)
    (case n_isinstance => k_is)
    (case n_bool => k_is)
    (case gc_Has => k_is)
    (case gc_Many => k_is)
    (case gc_Before => k_is)
    (case gc_Under => k_is)
    (case gc_Beside => k_is)
    (case gc_Group => k_is)
    (case gc_All => k_is)
    (case gc_Any => k_is)
    (case gc_Not => k_is)
    (case me_Has_marks => k_is)
    (case fn_p_Has_marks => k_is)
    (case l_p_Has_marks => k_is)
    (case c_p_Has_marks => k_is)
    (case p_p_Has_marks => k_is)
    (case me_Many_marks => k_is)
    (case fn_p_Many_marks => k_is)
    (case l_p_Many_marks => k_is)
    (case c_p_Many_marks => k_is)
    (case p_p_Many_marks => k_is)
    (case me_Before_marks => k_is)
    (case me_Under_marks => k_is)
    (case me_Beside_marks => k_is)
    (case fn_p_Pair_marks => k_is)
    (case l_p_Pair_marks => k_is)
    (case c_p_Pair_marks => k_is)
    (case p_p_Pair_marks => k_is)
    (case g_p_sorted_marks => k_is)
    (case l_p_sorted_marks => k_is)
    (case c_p_sorted_marks => k_is)
    (case p_p_sorted_marks => k_is)
    (case me_All_marks => k_is)
    (case me_Any_marks => k_is)
    (case me_Not_marks => k_is)
    (case fn_p_Group_marks => k_is)
    (case l_p_Group_marks => k_is)
    (case c_p_Group_marks => k_is)
    (case p_p_Group_marks => k_is)
    (case me_Has_grows => k_is)
    (case me_Many_grows => k_is)
    (case me_Before_grows => k_is)
    (case me_Under_grows => k_is)
    (case fn_p_Fault_grows => k_is)
    (case l_p_Fault_grows => k_is)
    (case c_p_Fault_grows => k_is)
    (case p_p_Fault_grows => k_is)
    (case in_Has => k_is)
    (case fn_p_Has_init => k_is)
    (case l_p_Has_init => k_is)
    (case c_p_Has_init => k_is)
    (case p_p_Has_init => k_is)
    (case me_Has_shown => k_is)
    (case fn_p_Has_shown => k_is)
    (case l_p_Has_shown => k_is)
    (case c_p_Has_shown => k_is)
    (case p_p_Has_shown => k_is)
    (case in_Many => k_is)
    (case fn_p_Many_init => k_is)
    (case l_p_Many_init => k_is)
    (case c_p_Many_init => k_is)
    (case p_p_Many_init => k_is)
    (case me_Many_shown => k_is)
    (case fn_p_Many_shown => k_is)
    (case l_p_Many_shown => k_is)
    (case c_p_Many_shown => k_is)
    (case p_p_Many_shown => k_is)
    (case in_Before => k_is)
    (case in_Under => k_is)
    (case in_Beside => k_is)
    (case fn_p_Pair_init => k_is)
    (case l_p_Pair_init => k_is)
    (case c_p_Pair_init => k_is)
    (case p_p_Pair_init => k_is)
    (case me_All_word => k_is)
    (case fn_p_All_word => k_is)
    (case l_p_All_word => k_is)
    (case c_p_All_word => k_is)
    (case p_p_All_word => k_is)
    (case me_Any_word => k_is)
    (case fn_p_Any_word => k_is)
    (case l_p_Any_word => k_is)
    (case c_p_Any_word => k_is)
    (case p_p_Any_word => k_is)
    (case me_Before_word => k_is)
    (case fn_p_Before_word => k_is)
    (case l_p_Before_word => k_is)
    (case c_p_Before_word => k_is)
    (case p_p_Before_word => k_is)
    (case me_Beside_word => k_is)
    (case fn_p_Beside_word => k_is)
    (case l_p_Beside_word => k_is)
    (case c_p_Beside_word => k_is)
    (case p_p_Beside_word => k_is)
    (case me_Not_word => k_is)
    (case fn_p_Not_word => k_is)
    (case l_p_Not_word => k_is)
    (case c_p_Not_word => k_is)
    (case p_p_Not_word => k_is)
    (case me_Under_word => k_is)
    (case fn_p_Under_word => k_is)
    (case l_p_Under_word => k_is)
    (case c_p_Under_word => k_is)
    (case p_p_Under_word => k_is)
    (case me_Before_shown => k_is)
    (case me_Under_shown => k_is)
    (case me_Beside_shown => k_is)
    (case fn_p_Pair_shown => k_is)
    (case l_p_Pair_shown => k_is)
    (case c_p_Pair_shown => k_is)
    (case p_p_Pair_shown => k_is)
    (case me_Beside_grows => k_is)
    (case fn_p_Beside_grows => k_is)
    (case l_p_Beside_grows => k_is)
    (case c_p_Beside_grows => k_is)
    (case p_p_Beside_grows => k_is)
    (case in_All => k_is)
    (case in_Any => k_is)
    (case fn_p_Group_init => k_is)
    (case l_p_Group_init => k_is)
    (case c_p_Group_init => k_is)
    (case p_p_Group_init => k_is)
    (case me_All_shown => k_is)
    (case me_Any_shown => k_is)
    (case me_Not_shown => k_is)
    (case fn_p_Group_shown => k_is)
    (case l_p_Group_shown => k_is)
    (case c_p_Group_shown => k_is)
    (case p_p_Group_shown => k_is)
    (case me_Not_grows => k_is)
    (case fn_p_Not_grows => k_is)
    (case l_p_Not_grows => k_is)
    (case c_p_Not_grows => k_is)
    (case p_p_Not_grows => k_is)
    (case me_All_grows => k_is)
    (case me_Any_grows => k_is)
    (case fn_p_Group_grows => k_is)
    (case l_p_Group_grows => k_is)
    (case c_p_Group_grows => k_is)
    (case p_p_Group_grows => k_is)
    (case in_Not => k_is)
    (case fn_p_Not_init => k_is)
    (case l_p_Not_init => k_is)
    (case c_p_Not_init => k_is)
    (case p_p_Not_init => k_is)
    (case g_l_cell_at => k_is)
    (case l_l_cell_at => k_is)
    (case c_l_cell_at => k_is)
    (case p_l_cell_at => k_is)
    (case g_l_names => k_is)
    (case l_l_names => k_is)
    (case c_l_names => k_is)
    (case p_l_names => k_is)
    (case g_l_leaf => k_is)
    (case l_l_leaf => k_is)
    (case c_l_leaf => k_is)
    (case p_l_leaf => k_is)
    (case g_l_term => k_is)
    (case l_l_term => k_is)
    (case c_l_term => k_is)
    (case p_l_term => k_is)
    (case g_l_text => k_is)
    (case l_l_text => k_is)
    (case c_l_text => k_is)
    (case p_l_text => k_is)
    (case g_l_marks => k_is)
    (case l_l_marks => k_is)
    (case c_l_marks => k_is)
    (case p_l_marks => k_is)
    (case g_l_grows => k_is)
    (case l_l_grows => k_is)
    (case c_l_grows => k_is)
    (case p_l_grows => k_is)
    (case g_l_fault => k_is)
    (case l_l_fault => k_is)
    (case c_l_fault => k_is)
    (case p_l_fault => k_is)
    (case g_p_law => k_is)
    (case l_p_law => k_is)
    (case c_p_law => k_is)
    (case p_p_law => k_is)
    (case rb_Group => k_is)
    (case rg_Group => k_is)
    (case rf_Group => k_is)
    (case pg_Has => k_is)
    (case hd_Has => k_is)
    (case po_Has => k_is)
    (case sa_Has => k_is)
    (case mk_Has => k_is)
    (case kp_Has => k_is)
    (case na_Has_mark => k_is)
    (case pg_Many => k_is)
    (case hd_Many => k_is)
    (case po_Many => k_is)
    (case sa_Many => k_is)
    (case mk_Many => k_is)
    (case kp_Many => k_is)
    (case na_Many_number => k_is)
    (case na_Many_mark => k_is)
    (case pg_Before => k_is)
    (case hd_Before => k_is)
    (case po_Before => k_is)
    (case sa_Before => k_is)
    (case mk_Before => k_is)
    (case kp_Before => k_is)
    (case na_Before_one => k_is)
    (case na_Before_other => k_is)
    (case pg_Under => k_is)
    (case hd_Under => k_is)
    (case po_Under => k_is)
    (case sa_Under => k_is)
    (case mk_Under => k_is)
    (case kp_Under => k_is)
    (case na_Under_one => k_is)
    (case na_Under_other => k_is)
    (case pg_Beside => k_is)
    (case hd_Beside => k_is)
    (case po_Beside => k_is)
    (case sa_Beside => k_is)
    (case mk_Beside => k_is)
    (case kp_Beside => k_is)
    (case na_Beside_one => k_is)
    (case na_Beside_other => k_is)
    (case pg_All => k_is)
    (case hd_All => k_is)
    (case po_All => k_is)
    (case sa_All => k_is)
    (case mk_All => k_is)
    (case kp_All => k_is)
    (case na_All_parts => k_is)
    (case pg_Any => k_is)
    (case hd_Any => k_is)
    (case po_Any => k_is)
    (case sa_Any => k_is)
    (case mk_Any => k_is)
    (case kp_Any => k_is)
    (case na_Any_parts => k_is)
    (case pg_Not => k_is)
    (case hd_Not => k_is)
    (case po_Not => k_is)
    (case sa_Not => k_is)
    (case mk_Not => k_is)
    (case kp_Not => k_is)
    (case na_Not_parts => k_is)
