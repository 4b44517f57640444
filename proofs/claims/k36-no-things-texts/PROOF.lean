import PyProof.Rows.All
import HandS.More
import HandS.Dict
import HandS.Words
import KE.KeyNested
import KE.KDictKeyed
import KE.DataEq
import Wide.All
import OpenK.AllK
import Wide.FinOn
import HandS.ForMost
import HandS.Conv
import HandS.Rev
import PyProof.ListNew
import HandS.Exc
import HandS.ExcOwn
import HandS.TryOnly
import HandS.TryMany
import HandS.WordsExc
import HandS.IsInst
import HandS.Deep
import HandS.StrMore
import HandS.TupAny
import HandS.Wide
import HandS.WideBits
import HandS.Flow
import HandS.Style
import HandS.RevRange
import HandS.SortOrd
import HandS.SortInts
import HandS.Replace
import HandS.ExcCtx
import HandS.ExcValue
import HandS.ExcIs
import HandS.SuiteRaise
import HandS.HotCalls
import HandS.EndBits
import HandS.Text
import PyProof.StrBlock2
import PyProof.Rows.StrMul
import HandS.ClsMeth
import HandS.IterVal
import KE.GoesRaise
import HandS.SetFor
import HandS.Hot
import HandS.List
import HandS.ReplaceLit
import KE.KUnpack
import KE.OsRunLaw
import PySem.Challenge.RW_shrinkhouse_k36_no_things_texts
set_option Elab.async false
set_option linter.all false
set_option maxRecDepth 100000
namespace PM
section
open PySem PySem.W PySem.Calls PyProof.Rows
set_option maxHeartbeats 0
def qv : Program := view PySem.Challenge.pw_shrinkhouse_k36_no_things_texts [46]
def loose_ : List PySem.Str := (["_wall", "ShrinkError", "NoThing", "NoPlace", "NoFault", "NoRule", "Spent", "Healthy", "NoText", "NoRow", "LETTERS", "MOST_LETTERS", "is_whole", "is_mark", "MOST_PLACES", "MOST_DEEP", "MOST_LINES", "are_marks", "are_nodes", "are_lines", "Thing", "Row", "Forest", "Table", "read_line", "read_lines", "read_nodes", "thing_of", "read_thing", "_law_cell_at", "_law_mix", "_law_how_many"] : List PySem.Str) ++ (["_law_marks", "_law_pick", "_law_nodes", "_law_forest_text", "_law_refused", "_law_wrong_by_any", "_law_wrong_table", "_law_lines_text", "_law_wrong_forest"] : List PySem.Str)
local macro_rules | `(tactic| k_head) => `(tactic| k_headL)
local macro_rules | `(tactic| o_headL $H:term) => `(tactic| (refine holds_open (r := OpenLaw.row PySem.Challenge.rw_shrinkhouse_k36_no_things_texts) (q := qv) (loose := loose_) (Xt := fun s => xlAt qv [] s && recOk (RowW.records (OpenRow.toRowW (OpenLaw.row PySem.Challenge.rw_shrinkhouse_k36_no_things_texts))) s) (XP := XL qv []) (Yf := Hook.obs $H) (Ya := Hook.val $H) (YP := Hook.says $H) (N := 20700) ?hl (Hook.of $H) (Hook.keeps $H) (fun s e => xl_of s (Bool.and_eq_true_iff.mp e).1) XL.keeps (by rfl) (by rfl) (by rfl) (fun s e => recFacts_of (Bool.and_eq_true_iff.mp e).2) (by rfl) (by first | assumption | decide +kernel) (by decide +kernel) ⟨rfl, rfl, rfl, rfl, rfl, by decide +kernel⟩ ?hw ?hc; (case hl => (refine HeadRun.left_oneK (M := 20000) (by kernel_rfl) (by rfl) (fun s => by kernel_rfl) (by rfl) ?_; intro w os; kernel_rfl))))
open_top top_ for PySem.Challenge.rw_shrinkhouse_k36_no_things_texts
end
end PM
namespace PM
open PySem PySem.Spec PyProof.Rows L2
structure ClsP where
  f : Nat → Addr
  P : Program
  w : World
instance : CoeFun ClsP fun _ => Nat → Addr := ⟨ClsP.f⟩
mutual
theorem nested_of_reads {h : Heap} : ∀ (k : NestedKey) (v : Value) (as : List Addr), Reads h v k.data as → NestedIs h k v
  | .none, _, _, r => by cases r; exact .none
  | .num i, _, _, r => by cases r; exact .int _ _
  | .text x, _, _, r => by cases r; exact .text _ _
  | .tup ks, _, _, r => by
    cases r with
    | tuple h1 h2 h3 h4 => exact .tup h1 h2 h3 (nested_of_readsAll ks _ _ h4)
theorem nested_of_readsAll {h : Heap} : ∀ (ks : List NestedKey) (vs : List Value) (as : List Addr), ReadsAll h vs (NestedKey.datas ks) as → NestedAll h ks vs
  | [], _, _, r => by cases r; exact .nil
  | k :: ks, _, _, r => by
    cases r with
    | cons h1 h2 => exact .cons (nested_of_reads k _ _ h1) (nested_of_readsAll ks _ _ h2)
end
mutual
theorem dp_mono {K : PySem.W.Frag} {Z Z' : Hp} (hz : Same Z Z') : ∀ (p : PyData) (v : V), Dp K Z v p → Dp K Z' v p
  | .none, _, h => by cases h; exact .non
  | .bool _, _, h => by cases h; exact .bl _
  | .int _, _, h => by cases h; exact .int _
  | .str _, _, h => by cases h; exact .str _
  | .list ds, _, h => by
    cases h with
    | lst h1 h2 => exact .lst (hz.seq h1) (dpAll_mono hz ds _ h2)
  | .tuple ds, _, h => by
    cases h with
    | tup h1 h2 =>
      refine .tup ?_ (dpAll_mono hz ds _ h2)
      rcases h1 with (h | ⟨o, h⟩) | h
      · exact .inl (.inl (hz _ _ h))
      · exact .inl (.inr ⟨o, hz _ _ h⟩)
      · exact .inr h
  | .dict _, _, h => by cases h
theorem dpAll_mono {K : PySem.W.Frag} {Z Z' : Hp} (hz : Same Z Z') : ∀ (ps : List PyData) (vs : List V), DpAll K Z vs ps → DpAll K Z' vs ps
  | [], _, h => by cases h; exact .nil
  | p :: ps, _, h => by
    cases h with
    | cons h1 h2 => exact .cons (dp_mono hz p _ h1) (dpAll_mono hz ps _ h2)
end
theorem KeyAt.mono' {K : PySem.W.Frag} {Z Z' : Hp} (hz : Same Z Z') {k : NestedKey} {b : Addr} (h : Dp K Z (.ref b) k.data ∧ k.depth ≤ 8) : Dp K Z' (.ref b) k.data ∧ k.depth ≤ 8 := ⟨dp_mono hz _ _ h.1, h.2⟩
abbrev NRow := NestedKey × Addr × V
def NR : List NRow → List (NestedKey × Addr × Value) → Prop := Paired fun p q => p.1 = q.1 ∧ p.2.1 = q.2.1 ∧ RelV p.2.2 q.2.2
def atN (vs : List NRow) (k : NestedKey) : Option V := (vs.find? fun x => decide (x.1 = k)).map (·.2.2)
def putN (vs : List NRow) (k : NestedKey) (b : Addr) (v : V) : List NRow := if (atN vs k).isSome = true then vs.map (fun x => if x.1 = k then (x.1, x.2.1, v) else x) else vs ++ [(k, b, v)]
theorem NR.at {vs : List NRow} {ys : List (NestedKey × Addr × Value)} (r : NR vs ys) (k : NestedKey) : RelO (atN vs k) ((atKey ys k).map (·.2)) := by
  induction r with
  | nil => trivial
  | @cons p q ps qs hq t ih =>
    unfold atN atKey at ih ⊢
    rw [List.find?_cons, List.find?_cons]
    by_cases e : p.1 = k
    · rw [decide_eq_true e, decide_eq_true (hq.1 ▸ e)]
      exact hq.2.2
    · rw [decide_eq_false e, decide_eq_false (fun z => e (hq.1.trans z))]
      exact ih
theorem NR.snoc {vs : List NRow} {ys : List (NestedKey × Addr × Value)} (r : NR vs ys) {x : NRow} {y : NestedKey × Addr × Value} (h : x.1 = y.1 ∧ x.2.1 = y.2.1 ∧ RelV x.2.2 y.2.2) : NR (vs ++ [x]) (ys ++ [y]) := Paired.snoc r h
theorem NR.repl {vs : List NRow} {ys : List (NestedKey × Addr × Value)} (r : NR vs ys) (k : NestedKey) {v : V} {u : Value} (rv : RelV v u) : NR (vs.map fun x => if x.1 = k then (x.1, x.2.1, v) else x) (ys.map (putAt k u)) := by
  induction r with
  | nil => exact .nil
  | @cons p q ps qs hq t ih =>
    refine .cons ?_ ih
    unfold putAt
    show (if p.1 = k then (p.1, p.2.1, v) else p).1 = _ ∧ (if p.1 = k then (p.1, p.2.1, v) else p).2.1 = _ ∧ L2.RelV (if p.1 = k then (p.1, p.2.1, v) else p).2.2 _
    by_cases e : p.1 = k
    · rw [if_pos e, if_pos (hq.1 ▸ e)]
      exact ⟨hq.1, hq.2.1, rv⟩
    · rw [if_neg e, if_neg (fun z => e (hq.1.trans z))]
      exact hq
theorem NR.put {vs : List NRow} {ys : List (NestedKey × Addr × Value)} (r : NR vs ys) (k : NestedKey) {b : Addr} {v : V} {u : Value} (rv : RelV v u) : NR (putN vs k b v) (storedH ys k b u) := by
  have e : (atN vs k).isSome = (atKey ys k).isSome := by
    have := (r.at k).isSome_eq
    rw [Option.isSome_map] at this
    exact this
  unfold putN storedH
  rw [e]
  split
  · exact r.repl k rv
  · exact r.snoc ⟨rfl, rfl, rv⟩
def nestφ (P : Program) (w : World) (a : Addr) (vs : List NRow) : Heap → Prop := fun h => vs.length ≤ sizeLine ∧ (a == sysModules) = false ∧ ∃ ys, NR vs ys ∧
  ∃ o es ep, h.get? a = some o ∧ o.ExactDict ∧ o.data = .dict es ep ∧ es.toList = ys.map (entryOfKey (nestedKind P w)) ∧ (ys.map (·.1)).Nodup
abbrev nestO (P : Program) (w : World) (a : Addr) (vs : List NRow) : HO := .ext (nestφ P w a vs)
theorem nestφ.stay {P : Program} {w : World} {a : Addr} {vs : List NRow} (h1 h2 : Heap) (x : nestφ P w a vs h1) (k : ∀ o, h1.get? a = some o → h2.get? a = some o) : nestφ P w a vs h2 := by
  obtain ⟨z, y, ys, r, o, es, ep, e1, e2, e3, e4, e5⟩ := x
  exact ⟨z, y, ys, r, o, es, ep, k _ e1, e2, e3, e4, e5⟩
theorem nestφ.ok {P : Program} {w : World} {a : Addr} {vs : List NRow} {H : Hp} {h : Heap} (x : nestφ P w a vs h) : ObjOk P w H h a (nestO P w a vs) := by
  have x' := x
  obtain ⟨z, y, ys, r, o, es, ep, e1, _⟩ := x'
  exact ⟨x, ⟨o, e1⟩, fun h1 h2 y k => nestφ.stay h1 h2 y k⟩
def KeyAt (K : PySem.W.Frag) (H : Hp) (k : NestedKey) (b : Addr) : Prop := Dp K H (.ref b) k.data ∧ k.depth ≤ 8
structure NDict (P : Program) (w : World) (K : PySem.W.Frag) (H : Hp) (a : Addr) (vs : List NRow) : Prop where
  at' : H a = some (nestO P w a vs)
  keys : ∀ x ∈ vs, KeyAt K H x.1 x.2.1
section
variable {X : Cx} {pins : List (Addr × Obj)} {σ : L2.St} {H : Hp} {s : Shared} {a b : Addr} {vs : List NRow} {k : NestedKey} {v : V} {A : Around} {E : Value → Shared → Prop}
theorem KeyAt.is (I : Inv X pins σ H s) (h : KeyAt X.K H k b) : (nestedKind X.prog X.w).is s.heap k b := by
  obtain ⟨as, r⟩ := Dp.reads I _ _ _ h.1 (show RelV (.ref b) (.ref b) from rfl)
  exact ⟨nested_of_reads k _ _ r, h.2⟩
theorem NDict.of (I : Inv X pins σ H s) (g : NDict X.prog X.w X.K H a vs) : vs.length ≤ sizeLine ∧ (a == sysModules) = false ∧ ∃ ys, NR vs ys ∧ s.heap.DictOfH (nestedKind X.prog X.w) a ys := by
  obtain ⟨x, _, _⟩ := (show ObjOk X.prog X.w H s.heap a (nestO X.prog X.w a vs) from I.hok a _ g.at')
  obtain ⟨z, y, ys, r, o, es, ep, e1, e2, e3, e4, e5⟩ := x
  refine ⟨z, y, ys, r, o, es, ep, e1, e2, e3, e4, ?_, e5⟩
  have all : ∀ {l : List NRow} {m : List (NestedKey × Addr × Value)}, NR l m → (∀ x ∈ l, KeyAt X.K H x.1 x.2.1) → ∀ x ∈ m, (nestedKind X.prog X.w).is s.heap x.1 x.2.1 := by
    intro l m q
    induction q with
    | nil => intro _ x hx; exact nomatch hx
    | @cons p q ps qs hq t ih =>
      intro hall x hx
      rcases List.mem_cons.mp hx with e | hx
      · subst e
        rw [← hq.1, ← hq.2.1]
        exact (hall p (by simp)).is I
      · exact ih (fun y hy => hall y (List.mem_cons_of_mem _ hy)) x hx
  exact all r g.keys
end
section
variable {X : Cx} {pos : Pos}
end
section
variable {X : Cx} {o i e value : Expr} {pos pos' tpos : Pos} {td ty tv : TE}
end
section
variable {X : Cx} {o e f : Expr} {apos cpos : Pos} {td ty tx : TE}
end
end PM
set_option maxHeartbeats 1000000
namespace PM
open PySem PySem.Spec PyProof.Rows
section
variable {prog : Program} {w : World} {A : Around} {E : Value → Shared → Prop} {s : Shared} {R : Result → Shared → Prop}
end
end PM
namespace PM
open PySem PySem.Spec PyProof.Rows L2
section
variable {X : Cx}
end
end PM
namespace PM
open PySem PySem.Spec PyProof.Rows L2

theorem takes0 {X : Cx} : L2N.Takes X (fun _ _ _ _ => False) := fun _ _ x => by
  obtain ⟨_, _, _, _, _, _, _, _, _, _, _, _, _, _, _, _, z⟩ := x
  exact z.elim
theorem _root_.L2.Fun.okN {P : Program} {w : World} {K : PySem.W.Frag} {mg : Str → Option Value} {base : Heap} {x qual : Str} {st : Stmt} {f : Addr} {fd : FuncData} {N ps : List Str} {k : Nat} {sp : Sp} (F : Fun K x qual st f fd) (S : FnScope N ps (defScope st)) (len : ∀ vs H Q E, sp vs H Q E → vs.length = ps.length)
    (hbody : ∀ (cdv : Value) (A : Around) (outer : List PySem.Env) (s : Shared) (H : Hp) (vs : List V) (Q : VK) (E : XK), Room k (A.deeper (envOfC qual (defScope st) s.heap.objs.size f cdv)) → sp vs H Q E →
      ∃ t, PSs (cxOf (L2N.CX P w) P w K mg base N qual (defScope st) f cdv A outer s H E) (defBody st) t ∧ t { nx := fun _ H' => Q .non H', rt := Q } (L2.start N vs) H) : FnOk P w K mg base (L2N.CX P w) (k + 1) f fd ps sp := by
  obtain ⟨oc, od, kV, doc, pm, an, cdv, ct, osl, rfl, lk, hcd⟩ := F.ex
  exact fn_of lk hcd S len fun A outer s H vs Q E hr hsp => hbody cdv A outer s H vs Q E hr hsp
inductive D where
  | non | bl (b : Bool) | int (i : Int) | str (x : Str)
  | lst (xs : List D) | tup (xs : List D) | dic (kvs : List (Key × D))
  | obj (c : Nat) (fs : List (Str × D))
  | rf (n : Nat)
  | scr (ns : List Int)
  | exn (n : Nat)
  | dit (kvs : List (NestedKey × D))
  /-- a list; where it is owned, what it holds are lists that are owned too, each another -/
  | nst (xs : List D)
def ctxV : Option Addr → Value
  | none => .none
  | some b => .ref b
def exnO (kind : Value) (at_ : Addr) (c : Option Addr) : HO := .ext fun heap => ∃ (ob : Obj) (parts : Array Value), heap.get? at_ = some ob ∧ Zc kind none ob ∧ ob.data = .fields parts ∧ parts[2]? = some (ctxV c)

inductive Lab where
  | slot (i : Nat) | cell (n : Nat) | fld (n k : Nat)
def Lab.st : Lab → Bool
  | .slot _ => false
  | _ => true

structure Gh where
  Z : Hp
  lab : Addr → Option Lab
  mu : List Addr
  me : Option V := none

mutual
inductive Rep (K : PySem.W.Frag) (cl : ClsP) (mu : List Addr) (Z : Hp) : V → D → Prop
  | non : Rep K cl mu Z .non .non
  | bl (b : Bool) : Rep K cl mu Z (.bl b) (.bl b)
  | int (i : Int) : Rep K cl mu Z (.int i) (.int i)
  | str (x : Str) : Rep K cl mu Z (.str x) (.str x)
  | lst {a : Addr} {vs : List V} {ds : List D} : Z a = some (.lst vs) → RepAll K cl mu Z vs ds → Rep K cl mu Z (.ref a) (.lst ds)
  | tup {a : Addr} {vs : List V} {ds : List D} : SqT K Z a vs → RepAll K cl mu Z vs ds → Rep K cl mu Z (.ref a) (.tup ds)
  | dic {a : Addr} {vs : List (Key × V)} {ds : List (Key × D)} : Z a = some (.dK vs) → RepK K cl mu Z vs ds → Rep K cl mu Z (.ref a) (.dic ds)
  | obj {a dx : Addr} {c : Nat} {vs : List (Str × V)} {ds : List (Str × D)} : Z a = some (.ins (cl c) dx vs) → Z dx = some (.own a) → RepF K cl mu Z vs ds → Rep K cl mu Z (.ref a) (.obj c ds)
  | rf {n : Nat} {a : Addr} : mu[n]? = some a → Rep K cl mu Z (.ref a) (.rf n)
  | scr {a : Addr} {ns : List Int} : SqL K Z a (ns.map V.int) → Rep K cl mu Z (.ref a) (.scr ns)
  | exn {a : Addr} {n : Nat} {c : Option Addr} : Z a = some (exnO (.ref (cl n)) a c) → Rep K cl mu Z (.ref a) (.exn n)
  | dit {a : Addr} {vs : List NRow} {ds : List (NestedKey × D)} : Z a = some (nestO cl.P cl.w a vs) → RepN K cl mu Z vs ds → Rep K cl mu Z (.ref a) (.dit ds)
  | nst {a : Addr} {vs : List V} {ds : List D} : Z a = some (.lst vs) → RepAll K cl mu Z vs ds → Rep K cl mu Z (.ref a) (.nst ds)
inductive RepAll (K : PySem.W.Frag) (cl : ClsP) (mu : List Addr) (Z : Hp) : List V → List D → Prop
  | nil : RepAll K cl mu Z [] []
  | cons {v : V} {vs : List V} {d : D} {ds : List D} : Rep K cl mu Z v d → RepAll K cl mu Z vs ds → RepAll K cl mu Z (v :: vs) (d :: ds)
inductive RepK (K : PySem.W.Frag) (cl : ClsP) (mu : List Addr) (Z : Hp) : List (Key × V) → List (Key × D) → Prop
  | nil : RepK K cl mu Z [] []
  | cons {k : Key} {v : V} {vs : List (Key × V)} {d : D} {ds : List (Key × D)} : Rep K cl mu Z v d → RepK K cl mu Z vs ds → RepK K cl mu Z ((k, v) :: vs) ((k, d) :: ds)
inductive RepN (K : PySem.W.Frag) (cl : ClsP) (mu : List Addr) (Z : Hp) : List NRow → List (NestedKey × D) → Prop
  | nil : RepN K cl mu Z [] []
  | cons {k : NestedKey} {b : Addr} {v : V} {vs : List NRow} {d : D} {ds : List (NestedKey × D)} : KeyAt K Z k b → Rep K cl mu Z v d → RepN K cl mu Z vs ds → RepN K cl mu Z ((k, b, v) :: vs) ((k, d) :: ds)
inductive RepF (K : PySem.W.Frag) (cl : ClsP) (mu : List Addr) (Z : Hp) : List (Str × V) → List (Str × D) → Prop
  | nil : RepF K cl mu Z [] []
  | cons {k : Str} {v : V} {vs : List (Str × V)} {d : D} {ds : List (Str × D)} : Rep K cl mu Z v d → RepF K cl mu Z vs ds → RepF K cl mu Z ((k, v) :: vs) ((k, d) :: ds)
end

section
variable {K : PySem.W.Frag} {cl : ClsP} {mu mu' : List Addr} {Z Z' : Hp}
theorem sameT {H H' : Hp} {a : Addr} {xs : List V} (e : Same H H') (h : SqT K H a xs) : SqT K H' a xs := by
  rcases h with (h | ⟨o, h⟩) | h
  · exact .inl (.inl (e _ _ h))
  · exact .inl (.inr ⟨o, e _ _ h⟩)
  · exact .inr h
mutual
theorem Rep.mono (hz : Same Z Z') (hm : ∃ t, mu' = mu ++ t) : ∀ (d : D) (v : V), Rep K cl mu Z v d → Rep K cl mu' Z' v d
  | .non, _, h => by cases h; exact .non
  | .bl _, _, h => by cases h; exact .bl _
  | .int _, _, h => by cases h; exact .int _
  | .str _, _, h => by cases h; exact .str _
  | .lst ds, _, h => by
    cases h with
    | lst hs ha => exact .lst (hz _ _ hs) (RepAll.mono hz hm ds _ ha)
  | .tup ds, _, h => by
    cases h with
    | tup hs ha => exact .tup (sameT hz hs) (RepAll.mono hz hm ds _ ha)
  | .dic ds, _, h => by
    cases h with
    | dic hs ha => exact .dic (hz _ _ hs) (RepK.mono hz hm ds _ ha)
  | .obj c ds, _, h => by
    cases h with
    | obj hs hx ha => exact .obj (hz _ _ hs) (hz _ _ hx) (RepF.mono hz hm ds _ ha)
  | .rf n, _, h => by
    cases h with
    | rf e =>
      obtain ⟨t, rfl⟩ := hm
      exact .rf (by rw [List.getElem?_append_left (List.getElem?_eq_some_iff.mp e).1]; exact e)
  | .scr ns, _, h => by
    cases h with
    | scr hs => exact .scr (hz.seq hs)
  | .exn n, _, h => by
    cases h with
    | exn hs => exact .exn (hz _ _ hs)
  | .dit ds, _, h => by
    cases h with
    | dit hs ha => exact .dit (hz _ _ hs) (RepN.mono hz hm ds _ ha)
  | .nst ds, _, h => by
    cases h with
    | nst hs ha => exact .nst (hz _ _ hs) (RepAll.mono hz hm ds _ ha)
theorem RepAll.mono (hz : Same Z Z') (hm : ∃ t, mu' = mu ++ t) : ∀ (ds : List D) (vs : List V), RepAll K cl mu Z vs ds → RepAll K cl mu' Z' vs ds
  | [], _, h => by cases h; exact .nil
  | d :: ds, _, h => by
    cases h with
    | cons h1 h2 => exact .cons (Rep.mono hz hm d _ h1) (RepAll.mono hz hm ds _ h2)
theorem RepK.mono (hz : Same Z Z') (hm : ∃ t, mu' = mu ++ t) : ∀ (ds : List (Key × D)) (vs : List (Key × V)), RepK K cl mu Z vs ds → RepK K cl mu' Z' vs ds
  | [], _, h => by cases h; exact .nil
  | (k, d) :: ds, _, h => by
    cases h with
    | cons h1 h2 => exact .cons (Rep.mono hz hm d _ h1) (RepK.mono hz hm ds _ h2)
theorem RepN.mono (hz : Same Z Z') (hm : ∃ t, mu' = mu ++ t) : ∀ (ds : List (NestedKey × D)) (vs : List NRow), RepN K cl mu Z vs ds → RepN K cl mu' Z' vs ds
  | [], _, h => by cases h; exact .nil
  | (k, d) :: ds, _, h => by
    cases h with
    | cons h0 h1 h2 => exact .cons (KeyAt.mono' hz h0) (Rep.mono hz hm d _ h1) (RepN.mono hz hm ds _ h2)
theorem RepF.mono (hz : Same Z Z') (hm : ∃ t, mu' = mu ++ t) : ∀ (ds : List (Str × D)) (vs : List (Str × V)), RepF K cl mu Z vs ds → RepF K cl mu' Z' vs ds
  | [], _, h => by cases h; exact .nil
  | (k, d) :: ds, _, h => by
    cases h with
    | cons h1 h2 => exact .cons (Rep.mono hz hm d _ h1) (RepF.mono hz hm ds _ h2)
end
theorem RepAll.length : ∀ {vs : List V} {ds : List D}, RepAll K cl mu Z vs ds → vs.length = ds.length
  | _, _, .nil => rfl
  | _, _, .cons _ t => congrArg (· + 1) (RepAll.length t)
theorem RepAll.get : ∀ {vs : List V} {ds : List D} {i : Nat} {d : D}, RepAll K cl mu Z vs ds → ds[i]? = some d → ∃ v, vs[i]? = some v ∧ Rep K cl mu Z v d
  | _, _, _, _, .nil, e => by simp at e
  | _, _, 0, _, .cons r _, e => by simp at e; subst e; exact ⟨_, rfl, r⟩
  | _, _, i + 1, d, .cons _ t, e => by
    obtain ⟨v, h1, h2⟩ := RepAll.get (i := i) (d := d) t (by simpa using e)
    exact ⟨v, by simpa using h1, h2⟩
theorem RepAll.append : ∀ {vs ws : List V} {ds es : List D}, RepAll K cl mu Z vs ds → RepAll K cl mu Z ws es → RepAll K cl mu Z (vs ++ ws) (ds ++ es)
  | _, _, _, _, .nil, t => t
  | _, _, _, _, .cons r s, t => .cons r (RepAll.append s t)
theorem RepAll.take : ∀ {vs : List V} {ds : List D} (n : Nat), RepAll K cl mu Z vs ds → RepAll K cl mu Z (vs.take n) (ds.take n)
  | _, _, 0, _ => .nil
  | _, _, _ + 1, .nil => .nil
  | _, _, n + 1, .cons r t => .cons r (RepAll.take n t)
theorem RepAll.drop : ∀ {vs : List V} {ds : List D} (n : Nat), RepAll K cl mu Z vs ds → RepAll K cl mu Z (vs.drop n) (ds.drop n)
  | _, _, 0, r => r
  | _, _, _ + 1, .nil => .nil
  | _, _, n + 1, .cons _ t => RepAll.drop n t
theorem RepAll.set {v : V} {d : D} (r : Rep K cl mu Z v d) : ∀ {vs : List V} {ds : List D} (n : Nat), RepAll K cl mu Z vs ds → RepAll K cl mu Z (vs.set n v) (ds.set n d)
  | _, _, _, .nil => .nil
  | _, _, 0, .cons _ t => .cons r t
  | _, _, n + 1, .cons q t => .cons q (RepAll.set r n t)
theorem RepAll.replicate {vs : List V} {ds : List D} (h : RepAll K cl mu Z vs ds) : ∀ n : Nat, RepAll K cl mu Z (List.replicate n vs).flatten (List.replicate n ds).flatten
  | 0 => .nil
  | n + 1 => by
    rw [List.replicate_succ, List.replicate_succ, List.flatten_cons, List.flatten_cons]
    exact h.append (RepAll.replicate h n)
theorem RepAll.dropLast {vs : List V} {ds : List D} (h : RepAll K cl mu Z vs ds) : RepAll K cl mu Z vs.dropLast ds.dropLast := by
  rw [List.dropLast_eq_take, List.dropLast_eq_take, h.length]; exact h.take _
theorem RepAll.ints : ∀ (ns : List Int), RepAll K cl mu Z (ns.map V.int) (ns.map D.int)
  | [] => .nil
  | n :: r => .cons (.int n) (RepAll.ints r)
theorem RepAll.strs : ∀ (ns : List Str), RepAll K cl mu Z (ns.map V.str) (ns.map D.str)
  | [] => .nil
  | n :: r => .cons (.str n) (RepAll.strs r)
theorem RepF.lookup {f : Str} : ∀ {vs : List (Str × V)} {ds : List (Str × D)} {d : D}, RepF K cl mu Z vs ds → ds.lookup f = some d → ∃ v, vs.lookup f = some v ∧ Rep K cl mu Z v d
  | _, _, _, .nil, e => by simp at e
  | _, _, d, @RepF.cons _ _ _ _ k v vs d' ds r t, e => by
    rw [List.lookup_cons] at e ⊢
    cases q : f == k with
    | true => rw [q] at e; simp at e; subst e; exact ⟨v, by simp, r⟩
    | false => rw [q] at e; exact RepF.lookup t e
theorem RepF.lookupN {f : Str} : ∀ {vs : List (Str × V)} {ds : List (Str × D)}, RepF K cl mu Z vs ds → ds.lookup f = none → vs.lookup f = none
  | _, _, .nil, e => rfl
  | _, _, @RepF.cons _ _ _ _ k v vs d' ds r t, e => by
    rw [List.lookup_cons] at e ⊢
    cases q : f == k with
    | true => rw [q] at e; simp at e
    | false => rw [q] at e; exact RepF.lookupN t e
theorem RepF.length : ∀ {vs : List (Str × V)} {ds : List (Str × D)}, RepF K cl mu Z vs ds → vs.length = ds.length
  | _, _, .nil => rfl
  | _, _, .cons _ t => congrArg (· + 1) (RepF.length t)
theorem RepN.length : ∀ {vs : List NRow} {ds : List (NestedKey × D)}, RepN K cl mu Z vs ds → vs.length = ds.length
  | _, _, .nil => rfl
  | _, _, .cons _ _ t => congrArg (· + 1) (RepN.length t)
theorem RepK.length : ∀ {vs : List (Key × V)} {ds : List (Key × D)}, RepK K cl mu Z vs ds → vs.length = ds.length
  | _, _, .nil => rfl
  | _, _, .cons _ t => congrArg (· + 1) (RepK.length t)
end

inductive Inn (K : PySem.W.Frag) (cl : ClsP) (mu : List Addr) (Z H : Hp) : List Addr → List D → Prop
  | nil : Inn K cl mu Z H [] []
  | cons {b : Addr} {bs : List Addr} {vs : List V} {es ds : List D} : H b = some (.lst vs) → RepAll K cl mu Z vs es → Inn K cl mu Z H bs ds → Inn K cl mu Z H (b :: bs) (.lst es :: ds)
inductive Cont (K : PySem.W.Frag) (cl : ClsP) (mu : List Addr) (Z H : Hp) : Addr → D → List Addr → Prop
  | lst {a : Addr} {vs : List V} {ds : List D} : H a = some (.lst vs) → RepAll K cl mu Z vs ds → Cont K cl mu Z H a (.lst ds) [a]
  | dic {a : Addr} {vs : List (Key × V)} {ds : List (Key × D)} : H a = some (.dK vs) → RepK K cl mu Z vs ds → Cont K cl mu Z H a (.dic ds) [a]
  | dit {a : Addr} {vs : List NRow} {ds : List (NestedKey × D)} : H a = some (nestO cl.P cl.w a vs) → RepN K cl mu Z vs ds → Cont K cl mu Z H a (.dit ds) [a]
  | obj {a dx : Addr} {c : Nat} {vs : List (Str × V)} {ds : List (Str × D)} : H a = some (.ins (cl c) dx vs) → H dx = some (.own a) → RepF K cl mu Z vs ds → Cont K cl mu Z H a (.obj c ds) [a, dx]
  | nst {a : Addr} {bs : List Addr} {ds : List D} : H a = some (.lst (bs.map .ref)) → Inn K cl mu Z H bs ds → (a :: bs).Nodup → Cont K cl mu Z H a (.nst ds) (a :: bs)

inductive Slot where
  | un | fr (d : D) | ow (d : D) | bo (d : D) | me (d : D)
inductive Cell where
  | obj (c : Nat) (fs : List (Str × D))
  | box (d : D)
abbrev Store := List Cell
abbrev Env := List Slot

structure Stp (G : Gh) (H : Hp) (G' : Gh) (H' : Hp) : Prop where
  z : Same G.Z G'.Z
  lab : ∀ a l, G.lab a = some l → G'.lab a = some l
  keep : ∀ a o, H a = some o → (∀ l, G.lab a = some l → l.st = false) → H' a = some o
  labn : ∀ a l, G'.lab a = some l → G.lab a = some l ∨ H a = none
  zn : ∀ a o, G'.Z a = some o → G.Z a = some o ∨ H a = none
  mu : ∃ t, G'.mu = G.mu ++ t
  dom : ∀ a, H' a = none → H a = none

theorem Stp.refl (G : Gh) (H : Hp) : Stp G H G H := ⟨Same.refl _, fun _ _ h => h, fun _ _ h _ => h, fun _ _ h => .inl h, fun _ _ h => .inl h, ⟨[], by simp⟩, fun _ h => h⟩
theorem Stp.trans {G G1 G2 : Gh} {H H1 H2 : Hp} (a : Stp G H G1 H1) (b : Stp G1 H1 G2 H2) : Stp G H G2 H2 where
  z := a.z.trans b.z
  lab := fun x l h => b.lab x l (a.lab x l h)
  keep := fun x o h hl => b.keep x o (a.keep x o h hl) fun l e => by
    rcases a.labn x l e with q | q
    · exact hl l q
    · rw [h] at q; cases q
  labn := fun x l h => by
    rcases b.labn x l h with q | q
    · exact a.labn x l q
    · exact .inr (a.dom x q)
  zn := fun x o h => by
    rcases b.zn x o h with q | q
    · exact a.zn x o q
    · exact .inr (a.dom x q)
  mu := by
    obtain ⟨t, h1⟩ := a.mu
    obtain ⟨u, h2⟩ := b.mu
    exact ⟨t ++ u, by rw [h2, h1, List.append_assoc]⟩
  dom := fun x h => a.dom x (b.dom x h)

section
variable (K : PySem.W.Frag) (cl : ClsP)
abbrev RepG (G : Gh) (v : V) (d : D) : Prop := Rep K cl G.mu G.Z v d
abbrev ContG (G : Gh) (H : Hp) (a : Addr) (d : D) (as : List Addr) : Prop := Cont K cl G.mu G.Z H a d as
def OwnAt (G : Gh) (H : Hp) (l : Lab) (v : V) (d : D) : Prop := ∃ a as, v = .ref a ∧ ContG K cl G H a d as ∧ ∀ b ∈ as, G.lab b = some l
def NewAt (G : Gh) (H : Hp) (a : Addr) (d : D) (as : List Addr) : Prop := ContG K cl G H a d as ∧ ∀ b ∈ as, G.lab b = none ∧ G.Z b = none
def BorAt (G : Gh) (G0 : Gh) (H0 : Hp) (v : V) (d : D) : Prop := RepG K cl G v d ∨ ∃ a as, v = .ref a ∧ ContG K cl G H0 a d as ∧ ∀ b ∈ as, G0.lab b = none
def RepT (G : Gh) (H : Hp) (v : V) (d : D) : Prop := RepG K cl G v d ∨ ∃ a as, v = .ref a ∧ ContG K cl G H a d as ∧ ∀ b ∈ as, ∀ l, G.lab b = some l → l.st = false
def RepV (G : Gh) (H : Hp) (v : V) (d : D) : Prop := RepG K cl G v d ∨ ∃ a as, v = .ref a ∧ ContG K cl G H a d as ∧ True
def SlotOk (G0 : Gh) (H0 : Hp) (G : Gh) (H : Hp) (l : Lab) (s : Slot) (o : Option V) : Prop :=
  match s with
  | .un => True
  | .fr d => ∃ v, o = some v ∧ RepG K cl G v d
  | .ow d => ∃ v, o = some v ∧ OwnAt K cl G H l v d
  | .bo d => ∃ v, o = some v ∧ BorAt K cl G G0 H0 v d
  | .me d => ∃ v, o = some v ∧ OwnAt K cl G H l v d ∧ G0.me = some v
def Cell.dat : Cell → D
  | .obj c fs => .obj c fs
  | .box d => d
structure CellOk (G : Gh) (H : Hp) (n : Nat) (c : Cell) : Prop where
  ok : ∃ a as, G.mu[n]? = some a ∧ ContG K cl G H a c.dat as ∧ ∀ b ∈ as, G.lab b = some (.cell n)
structure GOk (S : Store) (G : Gh) (H : Hp) : Prop where
  zsub : Same G.Z H
  labz : ∀ a l, G.lab a = some l → G.Z a = none ∧ ∃ o, H a = some o
  st : ∀ n c, S[n]? = some c → CellOk K cl G H n c
  stn : G.mu.length = S.length
structure Rel (G0 : Gh) (H0 : Hp) (S : Store) (ρ : Env) (G : Gh) (σ : L2.St) (H : Hp) : Prop where
  ok : GOk K cl S G H
  len : ρ.length = σ.length
  slot : ∀ i s, ρ[i]? = some s → ∃ o, σ[i]? = some o ∧ SlotOk K cl G0 H0 G H (.slot i) s o
  stp : Stp G0 H0 G H
  s0 : ∀ a l, G0.lab a = some l → l.st = true
end
end PM
set_option maxHeartbeats 1000000
namespace PM
open PySem PySem.Spec PyProof.Rows L2
section
variable {K : PySem.W.Frag} {cl : ClsP} {G0 G G' G1 : Gh} {H0 H H' H1 : Hp} {S S' : Store} {ρ : Env} {σ : L2.St} {l : Lab} {s : Slot} {o : Option V} {v : V} {d : D} {a p : Addr} {as : List Addr}

theorem RepG.stp (s : Stp G H G' H') (h : RepG K cl G v d) : RepG K cl G' v d := Rep.mono s.z s.mu d v h
theorem Inn.mono {mu mu' : List Addr} {Z Z' : Hp} (hz : Same Z Z') (hm : ∃ t, mu' = mu ++ t) : ∀ {bs : List Addr} {ds : List D}, Inn K cl mu Z H bs ds → (∀ b ∈ bs, ∀ o, H b = some o → H' b = some o) → Inn K cl mu' Z' H' bs ds
  | _, _, .nil, _ => .nil
  | _, _, .cons h r t, hH => .cons (hH _ (by simp) _ h) (RepAll.mono hz hm _ _ r) (Inn.mono hz hm t fun b hb => hH b (List.mem_cons_of_mem _ hb))
theorem Inn.there {mu : List Addr} {Z : Hp} : ∀ {bs : List Addr} {ds : List D}, Inn K cl mu Z H bs ds → ∀ b ∈ bs, ∃ o, H b = some o
  | _, _, .nil, b, hb => by cases hb
  | _, _, .cons h r t, b, hb => by
    rcases List.mem_cons.mp hb with rfl | hb
    · exact ⟨_, h⟩
    · exact Inn.there t b hb
theorem Inn.length {mu : List Addr} {Z : Hp} : ∀ {bs : List Addr} {ds : List D}, Inn K cl mu Z H bs ds → bs.length = ds.length
  | _, _, .nil => rfl
  | _, _, .cons h r t => congrArg (· + 1) (Inn.length t)
theorem Inn.rep {mu : List Addr} {Z Z' : Hp} (hz : Same Z Z') : ∀ {bs : List Addr} {ds : List D}, Inn K cl mu Z H bs ds → (∀ b ∈ bs, ∀ o, H b = some o → Z' b = some o) → RepAll K cl mu Z' (bs.map V.ref) ds
  | _, _, .nil, _ => .nil
  | _, _, .cons h r t, hH => .cons (.lst (hH _ (by simp) _ h) (RepAll.mono hz ⟨[], by simp⟩ _ _ r)) (Inn.rep hz t fun b hb => hH b (List.mem_cons_of_mem _ hb))
theorem Cont.mono {mu mu' : List Addr} {Z Z' : Hp} (c : Cont K cl mu Z H a d as) (hH : ∀ b ∈ as, ∀ o, H b = some o → H' b = some o) (hz : Same Z Z') (hm : ∃ t, mu' = mu ++ t) : Cont K cl mu' Z' H' a d as := by
  cases c with
  | lst h r => exact .lst (hH _ (by simp) _ h) (RepAll.mono hz hm _ _ r)
  | dic h r => exact .dic (hH _ (by simp) _ h) (RepK.mono hz hm _ _ r)
  | dit h r => exact .dit (hH _ (by simp) _ h) (RepN.mono hz hm _ _ r)
  | obj h h2 r => exact .obj (hH _ (by simp) _ h) (hH _ (by simp) _ h2) (RepF.mono hz hm _ _ r)
  | nst h r n => exact .nst (hH _ (by simp) _ h) (r.mono hz hm fun b hb => hH b (List.mem_cons_of_mem _ hb)) n
theorem Cont.there {mu : List Addr} {Z : Hp} (c : Cont K cl mu Z H a d as) : ∀ b ∈ as, ∃ o, H b = some o := by
  cases c with
  | lst h r => intro b hb; simp at hb; subst hb; exact ⟨_, h⟩
  | dic h r => intro b hb; simp at hb; subst hb; exact ⟨_, h⟩
  | dit h r => intro b hb; simp at hb; subst hb; exact ⟨_, h⟩
  | obj h h2 r =>
    intro b hb
    simp at hb
    rcases hb with rfl | rfl
    · exact ⟨_, h⟩
    · exact ⟨_, h2⟩
  | nst h r n =>
    intro b hb
    rcases List.mem_cons.mp hb with rfl | hb
    · exact ⟨_, h⟩
    · exact r.there b hb
theorem Cont.mem {mu : List Addr} {Z : Hp} (c : Cont K cl mu Z H a d as) : a ∈ as := by cases c <;> simp
theorem Cont.rep {mu : List Addr} {Z Z' : Hp} (c : Cont K cl mu Z H a d as) (h : ∀ b ∈ as, ∀ o, H b = some o → Z' b = some o) (hz : Same Z Z') : Rep K cl mu Z' (.ref a) d := by
  cases c with
  | lst h1 r => exact .lst (h _ (by simp) _ h1) (RepAll.mono hz ⟨[], by simp⟩ _ _ r)
  | dic h1 r => exact .dic (h _ (by simp) _ h1) (RepK.mono hz ⟨[], by simp⟩ _ _ r)
  | dit h1 r => exact .dit (h _ (by simp) _ h1) (RepN.mono hz ⟨[], by simp⟩ _ _ r)
  | obj h1 h2 r => exact .obj (h _ (by simp) _ h1) (h _ (by simp) _ h2) (RepF.mono hz ⟨[], by simp⟩ _ _ r)
  | nst h1 r n => exact .nst (h _ (by simp) _ h1) (r.rep hz fun b hb => h b (List.mem_cons_of_mem _ hb))

theorem OwnAt.mono (h : OwnAt K cl G H l v d) (hH : ∀ b, G.lab b = some l → ∀ o, H b = some o → H' b = some o) (hz : Same G.Z G'.Z) (hl : ∀ b, G.lab b = some l → G'.lab b = some l) (hm : ∃ t, G'.mu = G.mu ++ t) : OwnAt K cl G' H' l v d := by
  obtain ⟨a, as, rfl, c, q⟩ := h
  exact ⟨a, as, rfl, c.mono (fun b hb o e => hH b (q b hb) o e) hz hm, fun b hb => hl b (q b hb)⟩
theorem BorAt.mono (h : BorAt K cl G G0 H0 v d) (hz : Same G.Z G'.Z) (hm : ∃ t, G'.mu = G.mu ++ t) : BorAt K cl G' G0 H0 v d := by
  rcases h with h | ⟨a, as, rfl, c, q⟩
  · exact .inl (Rep.mono hz hm d v h)
  · exact .inr ⟨a, as, rfl, c.mono (fun _ _ _ e => e) hz hm, q⟩
theorem SlotOk.mono (h : SlotOk K cl G0 H0 G H l s o) (hH : ∀ b, G.lab b = some l → ∀ o, H b = some o → H' b = some o) (hz : Same G.Z G'.Z) (hl : ∀ b, G.lab b = some l → G'.lab b = some l) (hm : ∃ t, G'.mu = G.mu ++ t) : SlotOk K cl G0 H0 G' H' l s o := by
  cases s with
  | un => trivial
  | fr d => obtain ⟨v, e, r⟩ := h; exact ⟨v, e, Rep.mono hz hm d v r⟩
  | ow d => obtain ⟨v, e, r⟩ := h; exact ⟨v, e, r.mono hH hz hl hm⟩
  | bo d => obtain ⟨v, e, r⟩ := h; exact ⟨v, e, r.mono hz hm⟩
  | me d => obtain ⟨v, e, r, q⟩ := h; exact ⟨v, e, r.mono hH hz hl hm, q⟩
theorem CellOk.mono {n : Nat} {c : Cell} (h : CellOk K cl G H n c) (hH : ∀ b l, G.lab b = some l → l.st = true → ∀ o, H b = some o → H' b = some o) (hz : Same G.Z G'.Z) (hl : ∀ b l, G.lab b = some l → l.st = true → G'.lab b = some l) (hm : ∃ t, G'.mu = G.mu ++ t) : CellOk K cl G' H' n c := by
  obtain ⟨a, as, h1, h2, h3⟩ := h.ok
  refine ⟨a, as, ?_, h2.mono (fun b hb o e => hH b _ (h3 b hb) rfl o e) hz hm, fun b hb => hl _ _ (h3 b hb) rfl⟩
  obtain ⟨t, e⟩ := hm
  rw [e, List.getElem?_append_left (List.getElem?_eq_some_iff.mp h1).1]
  exact h1

theorem Rel.grow (R : Rel K cl G0 H0 S ρ G σ H) (hH : Same H H') (hm : G'.mu = G.mu) (zs : Same G'.Z H') (lz : ∀ a l, G'.lab a = some l → G'.Z a = none ∧ ∃ o, H' a = some o) (st : Stp G H G' H') : Rel K cl G0 H0 S ρ G' σ H' := by
  have hm' : ∃ t, G'.mu = G.mu ++ t := ⟨[], by rw [hm]; simp⟩
  refine ⟨⟨zs, lz, fun n c e => (R.ok.st n c e).mono (fun b _ _ _ o e => hH b o e) st.z (fun b l e _ => st.lab b l e) hm', by rw [hm]; exact R.ok.stn⟩, R.len, fun i s e => ?_, R.stp.trans st, R.s0⟩
  obtain ⟨o, h1, h2⟩ := R.slot i s e
  exact ⟨o, h1, h2.mono (fun b _ o e => hH b o e) st.z (fun b e => st.lab b _ e) hm'⟩
theorem Rel.alloc (R : Rel K cl G0 H0 S ρ G σ H) (hp : H p = none) (x : HO) : Rel K cl G0 H0 S ρ G σ (upd H p x) ∧ Stp G H G (upd H p x) := by
  have sm : Same H (upd H p x) := fun b o e => by rw [upd_ne (ne_of_none e hp)]; exact e
  have st : Stp G H G (upd H p x) := ⟨Same.refl _, fun _ _ e => e, fun a o e _ => sm a o e, fun _ _ e => .inl e, fun _ _ e => .inl e, ⟨[], by simp⟩, fun a e => sm.free e⟩
  refine ⟨R.grow sm rfl (R.ok.zsub.trans sm) (fun a l e => ?_) st, st⟩
  obtain ⟨h1, o, h2⟩ := R.ok.labz a l e
  exact ⟨h1, o, sm a o h2⟩
noncomputable def Gh.fz (G : Gh) (H : Hp) (as : List Addr) : Gh := { G with Z := fun b => if b ∈ as then H b else G.Z b }
theorem Gh.fz_z {as : List Addr} (h : ∀ b ∈ as, G.Z b = none) : Same G.Z (G.fz H as).Z := fun b o e => by
  show (if b ∈ as then H b else G.Z b) = some o
  by_cases hb : b ∈ as
  · rw [h b hb] at e; cases e
  · rw [if_neg hb]; exact e
theorem Rel.fz (R : Rel K cl G0 H0 S ρ G σ H) (s01 : Stp G0 H0 G1 H1) (st : Stp G1 H1 G H) (q : ∀ b ∈ as, G.lab b = none ∧ G.Z b = none) (hn : ∀ b ∈ as, H1 b = none) :
    Rel K cl G0 H0 S ρ (G.fz H as) σ H ∧ Stp G1 H1 (G.fz H as) H := by
  have hz : Same G.Z (G.fz H as).Z := Gh.fz_z fun b hb => (q b hb).2
  have zs : Same (G.fz H as).Z H := fun b o e => by
    have e' : (if b ∈ as then H b else G.Z b) = some o := e
    by_cases hb : b ∈ as
    · rw [if_pos hb] at e'; exact e'
    · rw [if_neg hb] at e'; exact R.ok.zsub b o e'
  have zn : ∀ b o, (G.fz H as).Z b = some o → G.Z b = some o ∨ b ∈ as := fun b o e => by
    have e' : (if b ∈ as then H b else G.Z b) = some o := e
    by_cases hb : b ∈ as
    · exact .inr hb
    · rw [if_neg hb] at e'; exact .inl e'
  have lz : ∀ b l, (G.fz H as).lab b = some l → (G.fz H as).Z b = none ∧ ∃ o, H b = some o := fun b l e => by
    have e' : G.lab b = some l := e
    obtain ⟨h1, h2⟩ := R.ok.labz b l e'
    refine ⟨?_, h2⟩
    show (if b ∈ as then H b else G.Z b) = none
    rw [if_neg (fun hb => by rw [(q b hb).1] at e'; cases e')]
    exact h1
  refine ⟨⟨⟨zs, lz, fun n c e => (R.ok.st n c e).mono (fun _ _ _ _ _ e => e) hz (fun _ _ e _ => e) ⟨[], by simp [Gh.fz]⟩, R.ok.stn⟩, R.len, fun i s e => ?_, ?_, R.s0⟩, ?_⟩
  · obtain ⟨o, h1, h2⟩ := R.slot i s e
    exact ⟨o, h1, h2.mono (fun _ _ _ e => e) hz (fun _ e => e) ⟨[], by simp [Gh.fz]⟩⟩
  · refine ⟨R.stp.z.trans hz, R.stp.lab, R.stp.keep, R.stp.labn, fun b o e => ?_, R.stp.mu, R.stp.dom⟩
    rcases zn b o e with h | h
    · exact R.stp.zn b o h
    · exact .inr (s01.dom b (hn b h))
  · refine ⟨st.z.trans hz, st.lab, st.keep, st.labn, fun b o e => ?_, st.mu, st.dom⟩
    rcases zn b o e with h | h
    · exact st.zn b o h
    · exact .inr (hn b h)
theorem fz_at {as : List Addr} {b : Addr} (hb : b ∈ as) : (G.fz H as).Z b = H b := by
  show (if b ∈ as then H b else G.Z b) = H b
  rw [if_pos hb]
theorem Rel.freeze (R : Rel K cl G0 H0 S ρ G σ H) (s01 : Stp G0 H0 G1 H1) (st : Stp G1 H1 G H) (n : NewAt K cl G H a d as) (hn : ∀ b ∈ as, H1 b = none) :
    Rel K cl G0 H0 S ρ (G.fz H as) σ H ∧ Stp G1 H1 (G.fz H as) H ∧ RepG K cl (G.fz H as) (.ref a) d := by
  obtain ⟨c, q⟩ := n
  obtain ⟨h1, h2⟩ := R.fz s01 st q hn
  exact ⟨h1, h2, c.rep (fun b hb o e => (fz_at hb).trans e) (Gh.fz_z fun b hb => (q b hb).2)⟩
theorem Rel.nobody (R : Rel K cl G0 H0 S ρ G σ H) (hp : H p = none) : G.lab p = none ∧ G.Z p = none := by
  constructor
  · cases e : G.lab p with
    | none => rfl
    | some l =>
      obtain ⟨_, o, h⟩ := R.ok.labz p l e
      rw [hp] at h; cases h
  · exact R.ok.zsub.free hp
theorem Rel.newF (R : Rel K cl G0 H0 S ρ G σ H) (hp : H p = none) (x : HO) : Rel K cl G0 H0 S ρ (G.fz (upd H p x) [p]) σ (upd H p x) ∧ Stp G H (G.fz (upd H p x) [p]) (upd H p x) ∧ (G.fz (upd H p x) [p]).Z p = some x := by
  obtain ⟨R1, s1⟩ := R.alloc hp x
  obtain ⟨h1, h2⟩ := R1.fz (as := [p]) R.stp s1 (fun b hb => by simp at hb; subst hb; exact R.nobody hp) (fun b hb => by simp at hb; subst hb; exact hp)
  exact ⟨h1, h2, by rw [fz_at (by simp)]; exact upd_same⟩
theorem Rel.newL (R : Rel K cl G0 H0 S ρ G σ H) (hp : H p = none) {vs : List V} {ds : List D} (r : RepAll K cl G.mu G.Z vs ds) : Rel K cl G0 H0 S ρ G σ (upd H p (.lst vs)) ∧ Stp G H G (upd H p (.lst vs)) ∧ NewAt K cl G (upd H p (.lst vs)) p (.lst ds) [p] := by
  obtain ⟨R1, s1⟩ := R.alloc hp (.lst vs)
  exact ⟨R1, s1, .lst upd_same r, fun b hb => by simp at hb; subst hb; exact R.nobody hp⟩
end
end PM
set_option maxHeartbeats 1000000
namespace PM
open PySem PySem.Spec PyProof.Rows L2

inductive Res (α : Type) where
  | ok (a : α) (S : Store) | exc (n : Nat) (S : Store) | stuck
def Res.bind {α β : Type} (r : Res α) (f : α → Store → Res β) : Res β :=
  match r with
  | .ok a S => f a S
  | .exc n S => .exc n S
  | .stuck => .stuck
def Res.opt {α : Type} (o : Option α) (S : Store) : Res α :=
  match o with
  | some a => .ok a S
  | none => .stuck
inductive Val where
  | fr (d : D) | ow (d : D)
abbrev Ex := Env → Store → Res D
abbrev Tx := Env → Store → Res Bool
abbrev Ax := Env → Store → Res (List D)
abbrev Fn := List D → Store → Res Val

abbrev Post (α β : Type) := Gh → Hp → Gh → Hp → α → β → Prop
def PostM {α β : Type} (P : Post α β) : Prop := ∀ G H G1 H1 G' H' d v, Stp G H G1 H1 → P G1 H1 G' H' d v → P G H G' H' d v

section
variable (K : PySem.W.Frag) (cl : ClsP)
def Aft {α β : Type} (P : Post α β) (W : WX) (G0 : Gh) (H0 : Hp) (ρ : Env) (σ : L2.St) (G : Gh) (H : Hp) (r : Res α) (Q : β → Hp → Prop) : Prop :=
  match r with
  | .ok d S' => ∀ v G' H', Rel K cl G0 H0 S' ρ G' σ H' → Stp G H G' H' → P G H G' H' d v → Q v H'
  | .exc n S' => ∀ G' H', Rel K cl G0 H0 S' ρ G' σ H' → Stp G H G' H' → W (.ref (cl n)) none σ H'
  | .stuck => False
def tX {α β : Type} (P : Post α β) (W : WX) (c : Env → Store → Res α) : L2.St → Hp → (β → Hp → Prop) → Prop := fun σ H Q =>
  ∃ (G0 : Gh) (H0 : Hp) (S : Store) (ρ : Env) (G : Gh), Rel K cl G0 H0 S ρ G σ H ∧ Aft K cl P W G0 H0 ρ σ G H (c ρ S) Q
def PF : Post D V := fun _ _ G' _ d v => RepG K cl G' v d
def PB : Post D V := fun _ _ G' H' d v => RepT K cl G' H' v d
def PN : Post D V := fun _ H G' H' d v => ∃ a as, v = .ref a ∧ NewAt K cl G' H' a d as ∧ ∀ b ∈ as, H b = none
def PT1 : Post Bool Bool := fun _ _ _ _ d v => v = d
inductive ArgsOk (G : Gh) (H : Hp) : List Bool → List V → List D → Prop
  | nil : ArgsOk G H [] [] []
  | fr {bm : List Bool} {v : V} {vs : List V} {d : D} {ds : List D} : RepG K cl G v d → ArgsOk G H bm vs ds → ArgsOk G H (false :: bm) (v :: vs) (d :: ds)
  | bo {bm : List Bool} {v : V} {vs : List V} {d : D} {ds : List D} : RepT K cl G H v d → ArgsOk G H bm vs ds → ArgsOk G H (true :: bm) (v :: vs) (d :: ds)
def PA1 (bm : List Bool) : Post (List D) (List V) := fun _ _ G' H' ds vs => ArgsOk K cl G' H' bm vs ds
end

section
variable {K : PySem.W.Frag} {cl : ClsP} {W : WX} {α β γ δ : Type} {G0 G G' G1 : Gh} {H0 H H' H1 : Hp} {S S' : Store} {ρ : Env} {σ : L2.St} {v : V} {d : D}
theorem pfM : PostM (PF K cl) := fun _ _ _ _ _ _ _ _ _ h => h
theorem pnM : PostM (PN K cl) := fun _ _ _ _ _ _ _ _ s ⟨a, as, e, n, h⟩ => ⟨a, as, e, n, fun b hb => s.dom b (h b hb)⟩
theorem ptM : PostM PT1 := fun _ _ _ _ _ _ _ _ _ h => h
theorem paM {bm : List Bool} : PostM (PA1 K cl bm) := fun _ _ _ _ _ _ _ _ _ h => h
theorem RepT.vw (h : RepT K cl G H v d) : RepV K cl G H v d := h.imp id fun ⟨a, as, e, c, _⟩ => ⟨a, as, e, c, trivial⟩
theorem RepT.stp (h : RepT K cl G H v d) (s : Stp G H G' H') : RepT K cl G' H' v d := by
  rcases h with h | ⟨a, as, rfl, c, q⟩
  · exact .inl (Rep.mono s.z s.mu d v h)
  · refine .inr ⟨a, as, rfl, c.mono (fun b hb o e => s.keep b o e (q b hb)) s.z s.mu, fun b hb l e => ?_⟩
    rcases s.labn b l e with h | h
    · exact q b hb l h
    · obtain ⟨o, e2⟩ := c.there b hb
      rw [h] at e2; cases e2
theorem ArgsOk.stp (s : Stp G H G' H') : ∀ {bm : List Bool} {vs : List V} {ds : List D}, ArgsOk K cl G H bm vs ds → ArgsOk K cl G' H' bm vs ds
  | _, _, _, .nil => .nil
  | _, _, _, .fr h t => .fr (Rep.mono s.z s.mu _ _ h) (ArgsOk.stp s t)
  | _, _, _, .bo h t => .bo (h.stp s) (ArgsOk.stp s t)
theorem ArgsOk.len : ∀ {bm : List Bool} {vs : List V} {ds : List D}, ArgsOk K cl G H bm vs ds → vs.length = bm.length ∧ ds.length = bm.length
  | _, _, _, .nil => ⟨rfl, rfl⟩
  | _, _, _, .fr h t => ⟨congrArg (· + 1) t.len.1, congrArg (· + 1) t.len.2⟩
  | _, _, _, .bo h t => ⟨congrArg (· + 1) t.len.1, congrArg (· + 1) t.len.2⟩

theorem Aft.pre {P : Post α β} (hP : PostM P) {r : Res α} {Q : β → Hp → Prop} (h : Aft K cl P W G0 H0 ρ σ G H r Q) (s : Stp G H G1 H1) : Aft K cl P W G0 H0 ρ σ G1 H1 r Q := by
  cases r with
  | ok d S' => exact fun v G' H' R s' p => h v G' H' R (s.trans s') (hP _ _ _ _ _ _ _ _ s p)
  | exc n S' => exact fun G' H' R s' => h G' H' R (s.trans s')
  | stuck => exact h
theorem tX.bind {P : Post α β} {Pa : Post γ δ} (hP : PostM P) {ca : Env → Store → Res γ} {f : γ → Store → Res α} {Q : β → Hp → Prop} {M : δ → Hp → Prop} (R : Rel K cl G0 H0 S ρ G σ H)
    (h : Aft K cl P W G0 H0 ρ σ G H ((ca ρ S).bind f) Q)
    (k : ∀ d v S1 G1 H1, Rel K cl G0 H0 S1 ρ G1 σ H1 → Stp G H G1 H1 → Pa G H G1 H1 d v → Aft K cl P W G0 H0 ρ σ G1 H1 (f d S1) Q → M v H1) : tX K cl Pa W ca σ H M := by
  refine ⟨G0, H0, S, ρ, G, R, ?_⟩
  cases e : ca ρ S with
  | ok d S1 =>
    rw [e] at h
    exact fun v G' H' R' s p => k d v S1 G' H' R' s p (Aft.pre hP h s)
  | exc n S1 =>
    rw [e] at h
    exact h
  | stuck =>
    rw [e] at h
    exact h.elim
theorem Aft.here {P : Post α β} {d : α} {Q : β → Hp → Prop} (h : Aft K cl P W G0 H0 ρ σ G H (.ok d S) Q) (R : Rel K cl G0 H0 S ρ G σ H) {v : β} (p : P G H G H d v) : Q v H := h v G H R (Stp.refl _ _) p
end

theorem PE.weak {X : Cx} {e : Expr} {t t' : TE} (h : PE X e t) (w : ∀ σ H Q, t' σ H Q → t σ H Q) : PE X e t' := ⟨fun pins s σ H Q I q => h.run pins s σ H Q I (w σ H Q q)⟩
theorem PT.weak {X : Cx} {e : Expr} {t t' : TT} (h : PT X e t) (w : ∀ σ H Q, t' σ H Q → t σ H Q) : PT X e t' := ⟨fun pins s σ H Q I q => h.run pins s σ H Q I (w σ H Q q)⟩
theorem PW.weak {X : Cx} {e : Expr} {t t' : TT} (h : PW X e t) (w : ∀ σ H Q, t' σ H Q → t σ H Q) : PW X e t' := ⟨fun wh pins s σ H Q I q => h.run wh pins s σ H Q I (w σ H Q q)⟩
theorem PA.weak {X : Cx} {e : List Expr} {t t' : TA} (h : PA X e t) (w : ∀ σ H Q, t' σ H Q → t σ H Q) : PA X e t' := ⟨fun pos pins s σ H Q I q => h.run pos pins s σ H Q I (w σ H Q q)⟩
theorem PS.weak {X : Cx} {e : Stmt} {t t' : TS} (h : PS X e t) (w : ∀ D σ H, t' D σ H → t D σ H) : PS X e t' := ⟨fun pins s σ H D I q => h.run pins s σ H D I (w D σ H q)⟩
theorem PSs.weak {X : Cx} {e : List Stmt} {t t' : TS} (h : PSs X e t) (w : ∀ D σ H, t' D σ H → t D σ H) : PSs X e t' := ⟨fun pins s σ H D I q => h.run pins s σ H D I (w D σ H q)⟩

section
variable (X : Cx) (cl : ClsP) (W : WX)
abbrev SE (e : Expr) (c : Ex) : Prop := PE X e (tX X.K cl (PF X.K cl) W c)
abbrev SB (e : Expr) (c : Ex) : Prop := PE X e (tX X.K cl (PB X.K cl) W c)
abbrev SN (e : Expr) (c : Ex) : Prop := PE X e (tX X.K cl (PN X.K cl) W c)
abbrev STt (e : Expr) (c : Tx) : Prop := PT X e (tX X.K cl PT1 W c)
abbrev SW (e : Expr) (c : Tx) : Prop := PW X e (tX X.K cl PT1 W c)
abbrev SA (bm : List Bool) (es : List Expr) (c : Ax) : Prop := PA X es (tX X.K cl (PA1 X.K cl bm) W c)
end

section
variable {X : Cx} {cl : ClsP} {W : WX} {a b e : Expr} {c ca cb : Ex} {pos : Pos}
theorem SE.toB (h : SE X cl W e c) : SB X cl W e c := PE.weak h fun σ H Q ⟨G0, H0, S, ρ, G, R, q⟩ => by
  refine ⟨G0, H0, S, ρ, G, R, ?_⟩
  cases r : c ρ S with
  | ok d S' => rw [r] at q; exact fun v G' H' R' s p => q v G' H' R' s (.inl p)
  | exc n S' => rw [r] at q; exact q
  | stuck => rw [r] at q; exact q
theorem SN.toE (h : SN X cl W e c) : SE X cl W e c := PE.weak h fun σ H Q ⟨G0, H0, S, ρ, G, R, q⟩ => by
  refine ⟨G0, H0, S, ρ, G, R, ?_⟩
  cases r : c ρ S with
  | ok d S' =>
    rw [r] at q
    rintro v G' H' R' s ⟨a, as, rfl, n, hn⟩
    obtain ⟨R2, s2, rp⟩ := R'.freeze R.stp s n hn
    exact q _ _ _ R2 s2 rp
  | exc n S' => rw [r] at q; exact q
  | stuck => rw [r] at q; exact q

def eC (d : D) : Ex := fun _ S => .ok d S
theorem se_c {v : V} {d : D} (h : PE X e (tC v)) (r : ∀ mu Z, Rep X.K cl mu Z v d) : SE X cl W e (eC d) := PE.weak h fun σ H Q ⟨G0, H0, S, ρ, G, R, q⟩ => q v G H R (Stp.refl _ _) (r _ _)
theorem se_int {i : Int} {j pos} : SE X cl W (.Constant (.int i) j pos) (eC (.int i)) := se_c pe_int fun _ _ => .int i
theorem se_bl {i : Bool} {j pos} : SE X cl W (.Constant (.bool i) j pos) (eC (.bl i)) := se_c pe_bl fun _ _ => .bl i
theorem se_non {j pos} : SE X cl W (.Constant .none j pos) (eC .non) := se_c pe_non fun _ _ => .non
theorem se_str {x : Str} {j pos} : SE X cl W (.Constant (.str x) j pos) (eC (.str x)) := se_c pe_str fun _ _ => .str x
theorem se_gl {x : Str} {v : V} {u : Value} {d : D} {pos : Pos} (hg : Gl X x) (hm : X.mg x = some u) (r : RelV v u) (rp : ∀ mu Z, Rep X.K cl mu Z v d) (hd : (x == ("__debug__" : Str)) = false := by decide) : SE X cl W (.Name x pos) (eC d) := se_c (pe_glob hg hm r hd) rp

def eV (i : Nat) : Ex := fun ρ S => match ρ[i]? with | some (.fr d) => .ok d S | _ => .stuck
def eB (i : Nat) : Ex := fun ρ S => match ρ[i]? with | some (.fr d) => .ok d S | some (.ow d) => .ok d S | some (.bo d) => .ok d S | some (.me d) => .ok d S | _ => .stuck
theorem se_v {i : Nat} {x : Str} (h : PE X (.Name x pos) (tVar i)) : SE X cl W (.Name x pos) (eV i) := PE.weak h fun σ H Q ⟨G0, H0, S, ρ, G, R, q⟩ => by
  cases r : ρ[i]? with
  | none => simp only [eV, r, Aft] at q
  | some s =>
    obtain ⟨o, ho, hs⟩ := R.slot i s r
    cases s with
    | fr d =>
      simp only [eV, r] at q
      obtain ⟨v, rfl, rp⟩ := hs
      exact ⟨v, ho, q v G H R (Stp.refl _ _) rp⟩
    | _ => simp only [eV, r, Aft] at q
theorem sb_v {i : Nat} {x : Str} (h : PE X (.Name x pos) (tVar i)) : SB X cl W (.Name x pos) (eB i) := PE.weak h fun σ H Q ⟨G0, H0, S, ρ, G, R, q⟩ => by
  cases r : ρ[i]? with
  | none => simp only [eB, r, Aft] at q
  | some s =>
    obtain ⟨o, ho, hs⟩ := R.slot i s r
    cases s with
    | fr d =>
      simp only [eB, r] at q
      obtain ⟨v, rfl, rp⟩ := hs
      exact ⟨v, ho, q v G H R (Stp.refl _ _) (.inl rp)⟩
    | ow d =>
      simp only [eB, r] at q
      obtain ⟨v, rfl, a, as, rfl, c, hl⟩ := hs
      refine ⟨_, ho, q _ G H R (Stp.refl _ _) (.inr ⟨a, as, rfl, c, fun b hb l e => ?_⟩)⟩
      rw [hl b hb] at e
      cases e
      rfl
    | bo d =>
      simp only [eB, r] at q
      obtain ⟨v, rfl, hb⟩ := hs
      rcases hb with hb | ⟨a, as, rfl, c, hl⟩
      · exact ⟨_, ho, q _ G H R (Stp.refl _ _) (.inl hb)⟩
      · refine ⟨_, ho, q _ G H R (Stp.refl _ _) (.inr ⟨a, as, rfl, c.mono (fun b hb o e => R.stp.keep b o e fun l e2 => by rw [hl b hb] at e2; cases e2) (Same.refl _) ⟨[], by simp⟩, fun b hb l e => ?_⟩)⟩
        rcases R.stp.labn b l e with h | h
        · rw [hl b hb] at h; cases h
        · obtain ⟨o, e2⟩ := c.there b hb
          rw [h] at e2; cases e2
    | me d =>
      simp only [eB, r] at q
      obtain ⟨v, rfl, ⟨a, as, rfl, c, hl⟩, _⟩ := hs
      refine ⟨_, ho, q _ G H R (Stp.refl _ _) (.inr ⟨a, as, rfl, c, fun b hb l e => ?_⟩)⟩
      rw [hl b hb] at e
      cases e
      rfl
    | un => simp only [eB, r, Aft] at q

def OpS (X : Cx) (cl : ClsP) (r : R2) (f : D → D → Option D) (P : Post D V) : Prop :=
  ∀ {G0 : Gh} {H0 : Hp} {S : Store} {ρ : Env} {G : Gh} {σ : L2.St} {H : Hp} {x y : V} {d e z : D} {Q : VK}, Rel X.K cl G0 H0 S ρ G σ H → RepV X.K cl G H x d → RepV X.K cl G H y e → f d e = some z →
    (∀ v G' H', Rel X.K cl G0 H0 S ρ G' σ H' → Stp G H G' H' → P G H G' H' z v → Q v H') → r x y H Q
def eBin (f : D → D → Option D) (ca cb : Ex) : Ex := fun ρ S => (ca ρ S).bind fun d S => (cb ρ S).bind fun e S => Res.opt (f d e) S
theorem bin_sem {r : R2} {f : D → D → Option D} {P : Post D V} (hP : PostM P) (hs : OpS X cl r f P) {σ : L2.St} {H : Hp} {Q : VK} (h : tX X.K cl P W (eBin f ca cb) σ H Q) : tOp r (tX X.K cl (PB X.K cl) W ca) (tX X.K cl (PB X.K cl) W cb) σ H Q := by
  obtain ⟨G0, H0, S, ρ, G, R, h⟩ := h
  refine tX.bind hP R h fun d x S1 G1 H1 R1 s1 p1 h1 => ?_
  refine tX.bind hP R1 h1 fun e y S2 G2 H2 R2 s2 p2 h2 => ?_
  cases q : f d e with
  | none => rw [q] at h2; exact h2.elim
  | some z =>
    rw [q] at h2
    exact hs R2 (RepT.stp p1 s2).vw (RepT.vw p2) q fun v G' H' R' s' p' => h2 v G' H' R' s' p'
theorem sx_bin {op : Operator} {r : R2} {f : D → D → Option D} {P : Post D V} (hP : PostM P) (ho : OpR X (binaryOp op) r) (hs : OpS X cl r f P) (ha : SB X cl W a ca) (hb : SB X cl W b cb) : PE X (.BinOp a op b pos) (tX X.K cl P W (eBin f ca cb)) :=
  PE.weak (pe_op ho ha hb) fun _ _ _ h => bin_sem hP hs h
theorem se_cmp {op : CmpOp} {r : R2} {f : D → D → Option D} (ho : OpR X (compareOp op) r) (hs : OpS X cl r f (PF X.K cl)) (ha : SB X cl W a ca) (hb : SB X cl W b cb) (hm : behindInMarks op b = false) : SE X cl W (.Compare a [op] [b] pos) (eBin f ca cb) :=
  PE.weak (pe_cmpR ho ha hb hm) fun _ _ _ h => bin_sem pfM hs h
theorem OpS.or {r r' : R2} {f f' : D → D → Option D} {P : Post D V} (h : OpS X cl r f P) (h' : OpS X cl r' f' P) : OpS X cl (fun x y H Q => r x y H Q ∨ r' x y H Q) (fun d e => match f d e with | some z => some z | none => f' d e) P := fun {G0 H0 S ρ G σ H x y d e z Q} R p1 p2 q k => by
  cases fq : f d e with
  | some z' =>
    simp only [fq] at q
    cases q
    exact .inl (h R p1 p2 fq k)
  | none =>
    simp only [fq] at q
    exact .inr (h' R p1 p2 q k)

section
variable {K : PySem.W.Frag} {G : Gh} {H : Hp} {v : V} {mu : List Addr} {Z : Hp}
theorem RepV.int {i : Int} (h : RepV K cl G H v (.int i)) : v = .int i := by
  rcases h with h | ⟨a, as, _, c, _⟩
  · cases h; rfl
  · cases c
theorem RepT.int {i : Int} (h : RepT K cl G H v (.int i)) : v = .int i := RepV.int h.vw
theorem RepV.str {i : Str} (h : RepV K cl G H v (.str i)) : v = .str i := by
  rcases h with h | ⟨a, as, _, c, _⟩
  · cases h; rfl
  · cases c
theorem RepT.str {i : Str} (h : RepT K cl G H v (.str i)) : v = .str i := RepV.str h.vw
theorem RepV.bl {i : Bool} (h : RepV K cl G H v (.bl i)) : v = .bl i := by
  rcases h with h | ⟨a, as, _, c, _⟩
  · cases h; rfl
  · cases c
theorem RepT.bl {i : Bool} (h : RepT K cl G H v (.bl i)) : v = .bl i := RepV.bl h.vw
theorem RepV.non (h : RepV K cl G H v .non) : v = .non := by
  rcases h with h | ⟨a, as, _, c, _⟩
  · cases h; rfl
  · cases c
theorem RepT.non (h : RepT K cl G H v .non) : v = .non := RepV.non h.vw
theorem RepV.lst {ds : List D} (h : RepV K cl G H v (.lst ds)) (zs : Same G.Z H) : ∃ a vs, v = .ref a ∧ H a = some (.lst vs) ∧ RepAll K cl G.mu G.Z vs ds := by
  rcases h with h | ⟨a, as, e, c, _⟩
  · cases h with
    | lst hs ha => exact ⟨_, _, rfl, zs _ _ hs, ha⟩
  · cases c with
    | lst h1 r => exact ⟨a, _, e, h1, r⟩
theorem RepT.lst {ds : List D} (h : RepT K cl G H v (.lst ds)) (zs : Same G.Z H) : ∃ a vs, v = .ref a ∧ H a = some (.lst vs) ∧ RepAll K cl G.mu G.Z vs ds := RepV.lst h.vw zs
theorem RepV.scr {ds : List Int} (h : RepV K cl G H v (.scr ds)) (zs : Same G.Z H) : ∃ a, v = .ref a ∧ SqL K H a (ds.map V.int) := by
  rcases h with h | ⟨a, as, e, c, _⟩
  · cases h with
    | scr hs => exact ⟨_, rfl, zs.seq hs⟩
  · cases c
theorem RepT.scr {ds : List Int} (h : RepT K cl G H v (.scr ds)) (zs : Same G.Z H) : ∃ a, v = .ref a ∧ SqL K H a (ds.map V.int) := RepV.scr h.vw zs
theorem RepV.tup {ds : List D} (h : RepV K cl G H v (.tup ds)) (zs : Same G.Z H) : ∃ a vs, v = .ref a ∧ SqT K H a vs ∧ RepAll K cl G.mu G.Z vs ds := by
  rcases h with h | ⟨a, as, e, c, _⟩
  · cases h with
    | tup hs ha => exact ⟨_, _, rfl, sameT zs hs, ha⟩
  · cases c
theorem RepT.tup {ds : List D} (h : RepT K cl G H v (.tup ds)) (zs : Same G.Z H) : ∃ a vs, v = .ref a ∧ SqT K H a vs ∧ RepAll K cl G.mu G.Z vs ds := RepV.tup h.vw zs
theorem RepV.dic {ds : List (Key × D)} (h : RepV K cl G H v (.dic ds)) (zs : Same G.Z H) : ∃ a vs, v = .ref a ∧ H a = some (.dK vs) ∧ RepK K cl G.mu G.Z vs ds := by
  rcases h with h | ⟨a, as, e, c, _⟩
  · cases h with
    | dic hs ha => exact ⟨_, _, rfl, zs _ _ hs, ha⟩
  · cases c with
    | dic h1 r => exact ⟨a, _, e, h1, r⟩
theorem RepT.dic {ds : List (Key × D)} (h : RepT K cl G H v (.dic ds)) (zs : Same G.Z H) : ∃ a vs, v = .ref a ∧ H a = some (.dK vs) ∧ RepK K cl G.mu G.Z vs ds := RepV.dic h.vw zs
theorem RepV.dit {ds : List (NestedKey × D)} (h : RepV K cl G H v (.dit ds)) (zs : Same G.Z H) : ∃ a vs, v = .ref a ∧ H a = some (nestO cl.P cl.w a vs) ∧ RepN K cl G.mu G.Z vs ds := by
  rcases h with h | ⟨a, as, e, c, _⟩
  · cases h with
    | dit hs ha => exact ⟨_, _, rfl, zs _ _ hs, ha⟩
  · cases c with
    | dit h1 r => exact ⟨a, _, e, h1, r⟩
theorem RepT.dit {ds : List (NestedKey × D)} (h : RepT K cl G H v (.dit ds)) (zs : Same G.Z H) : ∃ a vs, v = .ref a ∧ H a = some (nestO cl.P cl.w a vs) ∧ RepN K cl G.mu G.Z vs ds := RepV.dit h.vw zs
end
end
end PM
set_option maxHeartbeats 1000000
namespace PM
open PySem PySem.Spec PyProof.Rows L2

theorem lim_ok {n : Nat} (h : n ≤ 1000000) : n ≤ sizeLine := Nat.le_trans h (by rw [sizeLine_eq]; decide)
theorem lim_lt {n : Nat} (h : n < 1000000) : n < sizeLine := Nat.lt_of_lt_of_le h (by rw [sizeLine_eq]; decide)

section
variable {X : Cx} {cl : ClsP} {W : WX} {a b e c : Expr} {ca cb cc : Ex} {pos : Pos}

def oAdd : D → D → Option D
  | .int i, .int j => some (.int (i + j))
  | .str x, .str y => if x.length + y.length ≤ 1000000 then some (.str (x ++ y)) else none
  | .lst xs, .lst ys => if xs.length + ys.length ≤ 1000000 then some (.lst (xs ++ ys)) else none
  | .tup xs, .tup ys => if xs.length + ys.length ≤ 1000000 then some (.tup (xs ++ ys)) else none
  | _, _ => none
def oCat : D → D → Option D
  | .lst xs, .lst ys => if xs.length + ys.length ≤ 1000000 then some (.lst (xs ++ ys)) else none
  | _, _ => none
theorem OpS.fz {r : R2} {f : D → D → Option D} (h : OpS X cl r f (PN X.K cl)) : OpS X cl r f (PF X.K cl) := fun R p1 p2 q k => by
  refine h R p1 p2 q fun v G' H' R' s ⟨a, as, e, n, hn⟩ => ?_
  subst e
  obtain ⟨R2, s2, rp⟩ := R'.freeze R.stp s n hn
  exact k _ _ _ R2 s2 rp
theorem os_cat : OpS X cl rCat oCat (PN X.K cl) := fun {G0 H0 S ρ G σ H x y d e z Q} R p1 p2 q k => by
  cases d <;> cases e <;> simp only [oCat, reduceCtorEq] at q
  rename_i xs ys
  split at q
  · cases q
    rename_i hz
    obtain ⟨a1, vs, rfl, h1, r1⟩ := p1.lst R.ok.zsub
    obtain ⟨a2, ws, rfl, h2, r2⟩ := p2.lst R.ok.zsub
    refine ⟨a1, a2, vs, ws, rfl, rfl, h1, h2, by rw [r1.length, r2.length]; exact lim_ok hz, fun p hp => ?_⟩
    obtain ⟨R', s', n⟩ := R.newL hp (r1.append r2)
    exact k _ _ _ R' s' ⟨p, [p], rfl, n, fun b hb => by simp at hb; subst hb; exact hp⟩
  · cases q
def rAddAll (K : PySem.W.Frag) : R2 := fun x y H Q => rI0 (fun i j => .int (i + j)) x y H Q ∨ (∃ i j, x = .str i ∧ y = .str j ∧ i.length + j.length ≤ sizeLine ∧ Q (.str (i ++ j)) H) ∨ rCat x y H Q ∨ rCatA K x y H Q
theorem op_addAll : OpR X (binaryOp .Add) (rAddAll X.K) := op_add.or (op_add_str.or (op_cat.or op_catA))
theorem os_add : OpS X cl (rAddAll X.K) oAdd (PF X.K cl) := fun {G0 H0 S ρ G σ H x y d e z Q} R p1 p2 q k => by
  cases d <;> cases e <;> simp only [oAdd, reduceCtorEq] at q
  · rename_i i j
    cases q
    have e1 := p1.int
    have e2 := p2.int
    exact .inl ⟨i, j, e1, e2, k _ G H R (Stp.refl _ _) (.int _)⟩
  · rename_i i j
    split at q
    · cases q
      rename_i hz
      exact .inr (.inl ⟨i, j, p1.str, p2.str, lim_ok hz, k _ G H R (Stp.refl _ _) (.str _)⟩)
    · cases q
  · rename_i xs ys
    refine .inr (.inr (.inl (OpS.fz os_cat R p1 p2 (z := z) ?_ k)))
    exact q
  · rename_i xs ys
    split at q
    · cases q
      rename_i hz
      obtain ⟨a1, vs, rfl, h1, r1⟩ := p1.tup R.ok.zsub
      obtain ⟨a2, ws, rfl, h2, r2⟩ := p2.tup R.ok.zsub
      refine .inr (.inr (.inr ⟨a1, a2, vs, ws, rfl, rfl, h1, h2, by rw [r1.length, r2.length]; exact lim_ok hz, fun h => ?_, fun _ h => ?_, fun _ _ p hp => ?_⟩))
      · subst h
        cases r1
        rcases p2 with p2 | ⟨_, _, _, c, _⟩
        · exact k _ G H R (Stp.refl _ _) p2
        · cases c
      · subst h
        cases r2
        rw [List.append_nil] at k
        rcases p1 with p1 | ⟨_, _, _, c, _⟩
        · exact k _ G H R (Stp.refl _ _) p1
        · cases c
      · obtain ⟨R', s', n⟩ := R.newF hp (.tup (vs ++ ws))
        exact k _ _ _ R' s' (.tup (.inl (.inl n)) (RepAll.mono s'.z s'.mu _ _ (r1.append r2)))
    · cases q
theorem se_add (ha : SB X cl W a ca) (hb : SB X cl W b cb) : SE X cl W (.BinOp a .Add b pos) (eBin oAdd ca cb) := sx_bin pfM op_addAll os_add ha hb
theorem os_int {C : Int → Int → Prop} {g : Int → Int → D} {gv : Int → Int → V} {f : D → D → Option D} (hf : ∀ d e z, f d e = some z → ∃ i j, d = .int i ∧ e = .int j ∧ C i j ∧ z = g i j) (hg : ∀ i j mu Z, Rep X.K cl mu Z (gv i j) (g i j)) : OpS X cl (rI C gv) f (PF X.K cl) := fun {G0 H0 S ρ G σ H x y d e z Q} R p1 p2 q k => by
  obtain ⟨i, j, rfl, rfl, hc, rfl⟩ := hf d e z q
  exact ⟨i, j, p1.int, p2.int, hc, k _ G H R (Stp.refl _ _) (hg i j _ _)⟩
theorem os_int0 {g : Int → Int → D} {gv : Int → Int → V} {f : D → D → Option D} (hf : ∀ d e z, f d e = some z → ∃ i j, d = .int i ∧ e = .int j ∧ z = g i j) (hg : ∀ i j mu Z, Rep X.K cl mu Z (gv i j) (g i j)) : OpS X cl (rI0 gv) f (PF X.K cl) := fun {G0 H0 S ρ G σ H x y d e z Q} R p1 p2 q k => by
  obtain ⟨i, j, rfl, rfl, rfl⟩ := hf d e z q
  exact ⟨i, j, p1.int, p2.int, k _ G H R (Stp.refl _ _) (hg i j _ _)⟩
def oI (C : Int → Int → Bool) (g : Int → Int → D) : D → D → Option D
  | .int i, .int j => if C i j then some (g i j) else none
  | _, _ => none
theorem oI_some {C : Int → Int → Bool} {g : Int → Int → D} (d e z : D) (h : oI C g d e = some z) : ∃ i j, d = .int i ∧ e = .int j ∧ C i j = true ∧ z = g i j := by
  cases d <;> cases e <;> simp only [oI, reduceCtorEq] at h
  rename_i i j
  split at h
  · cases h
    exact ⟨i, j, rfl, rfl, by assumption, rfl⟩
  · cases h
def oI0 (g : Int → Int → D) : D → D → Option D
  | .int i, .int j => some (g i j)
  | _, _ => none
theorem oI0_some {g : Int → Int → D} (d e z : D) (h : oI0 g d e = some z) : ∃ i j, d = .int i ∧ e = .int j ∧ z = g i j := by
  cases d <;> cases e <;> simp only [oI0, reduceCtorEq] at h
  cases h
  exact ⟨_, _, rfl, rfl, rfl⟩
def cMul (i j : Int) : Bool := decide ((-(2 ^ 64) < i ∧ i < 2 ^ 64) ∨ (-(2 ^ 64) < j ∧ j < 2 ^ 64))
def cDiv (_ j : Int) : Bool := decide (0 < j ∧ j < 1073741824)
def cMod (_ j : Int) : Bool := decide (0 < j)
abbrev oSub := oI0 fun i j => .int (i - j)
abbrev oMulI := oI cMul fun i j => .int (i * j)
abbrev oDiv := oI cDiv fun i j => .int (i / j)
abbrev oMod := oI cMod fun i j => .int (i % j)
abbrev oLt := oI0 fun i j => .bl (decide (i < j))
abbrev oLe := oI0 fun i j => .bl (decide (i ≤ j))
abbrev oGt := oI0 fun i j => .bl (decide (j < i))
theorem os_sub : OpS X cl (rI0 fun i j => .int (i - j)) oSub (PF X.K cl) := os_int0 oI0_some fun _ _ _ _ => .int _
theorem cMul_ok {i j : Int} (h : cMul i j = true) : CMul i j := by
  unfold cMul at h
  unfold CMul
  simpa only [decide_eq_true_eq] using h
theorem cDiv_ok {i j : Int} (h : cDiv i j = true) : CDiv i j := by
  unfold cDiv at h
  unfold CDiv
  simpa only [decide_eq_true_eq] using h
theorem os_mul : OpS X cl (rI CMul fun i j => .int (i * j)) oMulI (PF X.K cl) := os_int (fun d e z h => let ⟨i, j, a, b, c, q⟩ := oI_some d e z h; ⟨i, j, a, b, cMul_ok c, q⟩) fun _ _ _ _ => .int _
theorem os_div : OpS X cl (rI CDiv fun i j => .int (i / j)) oDiv (PF X.K cl) := os_int (fun d e z h => let ⟨i, j, a, b, c, q⟩ := oI_some d e z h; ⟨i, j, a, b, cDiv_ok c, q⟩) fun _ _ _ _ => .int _
theorem os_mod : OpS X cl (rI (fun _ j => 0 < j) fun i j => .int (i % j)) oMod (PF X.K cl) := os_int (fun d e z h => let ⟨i, j, a, b, c, q⟩ := oI_some d e z h; ⟨i, j, a, b, of_decide_eq_true c, q⟩) fun _ _ _ _ => .int _
theorem os_lt : OpS X cl (rI0 fun i j => .bl (decide (i < j))) oLt (PF X.K cl) := os_int0 oI0_some fun _ _ _ _ => .bl _
theorem os_le : OpS X cl (rI0 fun i j => .bl (decide (i ≤ j))) oLe (PF X.K cl) := os_int0 oI0_some fun _ _ _ _ => .bl _
theorem os_gt : OpS X cl (rI0 fun i j => .bl (decide (j < i))) oGt (PF X.K cl) := os_int0 oI0_some fun _ _ _ _ => .bl _
theorem se_sub (ha : SB X cl W a ca) (hb : SB X cl W b cb) : SE X cl W (.BinOp a .Sub b pos) (eBin oSub ca cb) := sx_bin pfM op_sub os_sub ha hb
theorem se_div (ha : SB X cl W a ca) (hb : SB X cl W b cb) : SE X cl W (.BinOp a .FloorDiv b pos) (eBin oDiv ca cb) := sx_bin pfM op_fdiv os_div ha hb
theorem se_mod (ha : SB X cl W a ca) (hb : SB X cl W b cb) : SE X cl W (.BinOp a .Mod b pos) (eBin oMod ca cb) := sx_bin pfM op_mod os_mod ha hb
theorem se_gt (ha : SB X cl W a ca) (hb : SB X cl W b cb) : SE X cl W (.Compare a [.Gt] [b] pos) (eBin oGt ca cb) := se_cmp op_gt os_gt ha hb (nomark _)
theorem se_mul (ha : SB X cl W a ca) (hb : SB X cl W b cb) : SE X cl W (.BinOp a .Mult b pos) (eBin oMulI ca cb) := sx_bin pfM op_mul os_mul ha hb

def eUn (f : D → Option D) (ca : Ex) : Ex := fun ρ S => (ca ρ S).bind fun d S => Res.opt (f d) S
def oNeg : D → Option D
  | .int i => some (.int (-i))
  | _ => none
theorem se_neg (ha : SB X cl W a ca) : SE X cl W (.UnaryOp .USub a pos) (eUn oNeg ca) := PE.weak (pe_un un_neg ha) fun σ H Q ⟨G0, H0, S, ρ, G, R, h⟩ => by
  refine tX.bind pfM R h fun d x S1 G1 H1 R1 s1 p1 h1 => ?_
  cases d <;> simp only [oNeg, Res.opt, Aft] at h1
  rename_i i
  exact ⟨i, RepT.int p1, h1 _ G1 H1 R1 (Stp.refl _ _) (.int _)⟩

mutual
def D.py : D → Option PyData
  | .non => some .none
  | .bl b => some (.bool b)
  | .int i => some (.int i)
  | .str x => some (.str x)
  | .lst xs => (D.pys xs).map .list
  | .tup xs => (D.pys xs).map .tuple
  | _ => none
def D.pys : List D → Option (List PyData)
  | [] => some []
  | d :: ds => match D.py d, D.pys ds with
    | some p, some ps => some (p :: ps)
    | _, _ => none
end
section
variable {K : PySem.W.Frag} {mu : List Addr} {Z H : Hp} {G : Gh} {v : V}
mutual
theorem Rep.dp (hz : Same Z H) : ∀ (d : D) (v : V) (p : PyData), Rep K cl mu Z v d → d.py = some p → Dp K H v p
  | .non, _, _, h, e => by cases h; simp only [D.py] at e; cases e; exact .non
  | .bl _, _, _, h, e => by cases h; simp only [D.py] at e; cases e; exact .bl _
  | .int _, _, _, h, e => by cases h; simp only [D.py] at e; cases e; exact .int _
  | .str _, _, _, h, e => by cases h; simp only [D.py] at e; cases e; exact .str _
  | .lst ds, _, p, h, e => by
    cases h with
    | lst hs ha =>
      simp only [D.py] at e
      cases q : D.pys ds with
      | none => rw [q] at e; cases e
      | some ps =>
        rw [q] at e
        cases e
        exact .lst (.inl (.inl (hz _ _ hs))) (RepAll.dp hz ds _ ps ha q)
  | .tup ds, _, p, h, e => by
    cases h with
    | tup hs ha =>
      simp only [D.py] at e
      cases q : D.pys ds with
      | none => rw [q] at e; cases e
      | some ps =>
        rw [q] at e
        cases e
        exact .tup (sameT hz hs) (RepAll.dp hz ds _ ps ha q)
  | .dic _, _, _, _, e => by simp only [D.py] at e; cases e
  | .obj _ _, _, _, _, e => by simp only [D.py] at e; cases e
  | .rf _, _, _, _, e => by simp only [D.py] at e; cases e
  | .scr _, _, _, _, e => by simp only [D.py] at e; cases e
theorem RepAll.dp (hz : Same Z H) : ∀ (ds : List D) (vs : List V) (ps : List PyData), RepAll K cl mu Z vs ds → D.pys ds = some ps → DpAll K H vs ps
  | [], _, _, h, e => by cases h; simp only [D.pys] at e; cases e; exact .nil
  | d :: ds, _, _, h, e => by
    cases h with
    | cons h1 h2 =>
      simp only [D.pys] at e
      cases q1 : d.py with
      | none => rw [q1] at e; cases e
      | some p =>
        cases q2 : D.pys ds with
        | none => rw [q1, q2] at e; cases e
        | some ps =>
          rw [q1, q2] at e
          cases e
          exact .cons (Rep.dp hz d _ p h1 q1) (RepAll.dp hz ds _ ps h2 q2)
end
theorem RepV.dp {d : D} {p : PyData} (h : RepV K cl G H v d) (zs : Same G.Z H) (e : d.py = some p) : Dp K H v p := by
  rcases h with h | ⟨a, as, rfl, c, _⟩
  · exact Rep.dp zs d v p h e
  · cases c with
    | @lst vs ds h1 r =>
      simp only [D.py] at e
      cases q : D.pys ds with
      | none => rw [q] at e; cases e
      | some ps =>
        rw [q] at e
        cases e
        exact .lst (.inl (.inl h1)) (RepAll.dp zs ds _ ps r q)
    | dic h1 r => simp only [D.py] at e; cases e
    | dit h1 r => simp only [D.py] at e; cases e
    | nst h1 r n => simp only [D.py] at e; cases e
    | obj h1 h2 r => simp only [D.py] at e; cases e
theorem RepT.dp {d : D} {p : PyData} (h : RepT K cl G H v d) (zs : Same G.Z H) (e : d.py = some p) : Dp K H v p := RepV.dp h.vw zs e
mutual
theorem D.py_plain : ∀ (d : D) (p : PyData), d.py = some p → p.plain = true
  | .non, _, e => by simp only [D.py] at e; cases e; rfl
  | .bl _, _, e => by simp only [D.py] at e; cases e; rfl
  | .int _, _, e => by simp only [D.py] at e; cases e; rfl
  | .str _, _, e => by simp only [D.py] at e; cases e; rfl
  | .lst ds, _, e => by
    simp only [D.py] at e
    cases q : D.pys ds with
    | none => rw [q] at e; cases e
    | some ps => rw [q] at e; cases e; simp only [PyData.plain]; exact D.pys_plain ds ps q
  | .tup ds, _, e => by
    simp only [D.py] at e
    cases q : D.pys ds with
    | none => rw [q] at e; cases e
    | some ps => rw [q] at e; cases e; simp only [PyData.plain]; exact D.pys_plain ds ps q
  | .dic _, _, e => by simp only [D.py] at e; cases e
  | .obj _ _, _, e => by simp only [D.py] at e; cases e
  | .rf _, _, e => by simp only [D.py] at e; cases e
  | .scr _, _, e => by simp only [D.py] at e; cases e
theorem D.pys_plain : ∀ (ds : List D) (ps : List PyData), D.pys ds = some ps → PyData.plainAll ps = true
  | [], _, e => by simp only [D.pys] at e; cases e; rfl
  | d :: ds, _, e => by
    simp only [D.pys] at e
    cases q1 : d.py with
    | none => rw [q1] at e; cases e
    | some p =>
      cases q2 : D.pys ds with
      | none => rw [q1, q2] at e; cases e
      | some ps =>
        rw [q1, q2] at e
        cases e
        simp only [PyData.plainAll, D.py_plain d p q1, D.pys_plain ds ps q2, Bool.and_self]
end
end
def rEqP (K : PySem.W.Frag) : R2 := fun x y H Q => ∃ d e, Dp K H x d ∧ Dp K H y e ∧ d.plain = true ∧ e.plain = true ∧ min d.depth e.depth ≤ 60 ∧ Q (.bl (PyData.eqv d e)) H
def rNeP (K : PySem.W.Frag) : R2 := fun x y H Q => ∃ d e, Dp K H x d ∧ Dp K H y e ∧ d.plain = true ∧ e.plain = true ∧ min d.depth e.depth ≤ 60 ∧ Q (.bl (!PyData.eqv d e)) H
theorem op_eqP (hu : X.A.units + 64 < cLine) : OpR X (compareOp .Eq) (rEqP X.K) := by
  intro pins s σ H x y v u Q I rx ry h
  obtain ⟨d, e, hd, he, sd, se, hm, q⟩ := h
  obtain ⟨as, r1⟩ := Dp.reads I d x v hd rx
  obtain ⟨bs, r2⟩ := Dp.reads I e y u he ry
  exact SeqAt.eq_plain r1 r2 sd se (by omega) ⟨.bl _, H, I, rfl, q⟩
theorem op_neP (hu : X.A.units + 64 < cLine) : OpR X (compareOp .NotEq) (rNeP X.K) := by
  intro pins s σ H x y v u Q I rx ry h
  obtain ⟨d, e, hd, he, sd, se, hm, q⟩ := h
  obtain ⟨as, r1⟩ := Dp.reads I d x v hd rx
  obtain ⟨bs, r2⟩ := Dp.reads I e y u he ry
  exact SeqAt.ne_plain r1 r2 sd se (by omega) ⟨.bl _, H, I, rfl, q⟩
def D.eq? (d e : D) : Option Bool := match d.py, e.py with
  | some p, some q => if min p.depth q.depth ≤ 60 then some (PyData.eqv p q) else none
  | _, _ => none
def oEq (d e : D) : Option D := (D.eq? d e).map .bl
def oNe (d e : D) : Option D := (D.eq? d e).map fun b => .bl (!b)
theorem D.eq_some {d e : D} {k : Bool} (h : D.eq? d e = some k) : ∃ p q, d.py = some p ∧ e.py = some q ∧ min p.depth q.depth ≤ 60 ∧ k = PyData.eqv p q := by
  unfold D.eq? at h
  cases q1 : d.py with
  | none => rw [q1] at h; cases h
  | some p =>
    cases q2 : e.py with
    | none => rw [q1, q2] at h; cases h
    | some q =>
      rw [q1, q2] at h
      simp only at h
      split at h
      · cases h
        exact ⟨p, q, rfl, rfl, by assumption, rfl⟩
      · cases h
theorem os_eq : OpS X cl (rEqP X.K) oEq (PF X.K cl) := fun {G0 H0 S ρ G σ H x y d e z Q} R p1 p2 q k => by
  unfold oEq at q
  cases q1 : D.eq? d e with
  | none => rw [q1] at q; cases q
  | some b =>
    rw [q1] at q
    cases q
    obtain ⟨p, q, e1, e2, hm, rfl⟩ := D.eq_some q1
    exact ⟨p, q, p1.dp R.ok.zsub e1, p2.dp R.ok.zsub e2, D.py_plain _ _ e1, D.py_plain _ _ e2, hm, k _ G H R (Stp.refl _ _) (.bl _)⟩
theorem os_ne : OpS X cl (rNeP X.K) oNe (PF X.K cl) := fun {G0 H0 S ρ G σ H x y d e z Q} R p1 p2 q k => by
  unfold oNe at q
  cases q1 : D.eq? d e with
  | none => rw [q1] at q; cases q
  | some b =>
    rw [q1] at q
    cases q
    obtain ⟨p, q, e1, e2, hm, rfl⟩ := D.eq_some q1
    exact ⟨p, q, p1.dp R.ok.zsub e1, p2.dp R.ok.zsub e2, D.py_plain _ _ e1, D.py_plain _ _ e2, hm, k _ G H R (Stp.refl _ _) (.bl _)⟩
theorem se_eq (hu : X.A.units + 64 < cLine) (ha : SB X cl W a ca) (hb : SB X cl W b cb) : SE X cl W (.Compare a [.Eq] [b] pos) (eBin oEq ca cb) := se_cmp (op_eqP hu) os_eq ha hb (nomark _)
def rInP (K : PySem.W.Frag) (neg : Bool) : R2 := fun x y H Q =>
  (∃ d ds, Dp K H x d ∧ (Dp K H y (.list ds) ∨ Dp K H y (.tuple ds)) ∧ d.plain = true ∧ PyData.plainAll ds = true ∧ min (PyData.depthAll ds) d.depth ≤ 60 ∧ Q (.bl (if neg then !(ds.any fun z => PyData.eqv z d) else ds.any fun z => PyData.eqv z d)) H) ∨
  (∃ (c : Nat) (z : Str), x = .str ⟨#[c]⟩ ∧ y = .str z ∧ Q (.bl (if neg then !decide (c ∈ z.cps.toList) else decide (c ∈ z.cps.toList))) H)
theorem op_inP (hu : X.A.units + 65 < cLine) : OpR X (compareOp .In) (rInP X.K false) := by
  intro pins s σ H x y v u Q I rx ry h
  rcases h with ⟨d, ds, hd, hy, sd, se, hm, q⟩ | h
  · obtain ⟨as, r1⟩ := Dp.reads I d x v hd rx
    rcases hy with hy | hy
    · obtain ⟨bs, r2⟩ := Dp.reads I (.list ds) y u hy ry
      exact SeqAt.in_list_data r2 r1 se sd (by omega) ⟨.bl _, H, I, rfl, q⟩
    · obtain ⟨bs, r2⟩ := Dp.reads I (.tuple ds) y u hy ry
      exact SeqAt.in_tuple_data r2 r1 se sd (by omega) ⟨.bl _, H, I, rfl, q⟩
  · exact op_in_sign pins s σ H x y v u Q I rx ry h
theorem op_notInP (hu : X.A.units + 65 < cLine) : OpR X (compareOp .NotIn) (rInP X.K true) := by
  intro pins s σ H x y v u Q I rx ry h
  rcases h with ⟨d, ds, hd, hy, sd, se, hm, q⟩ | h
  · obtain ⟨as, r1⟩ := Dp.reads I d x v hd rx
    rcases hy with hy | hy
    · obtain ⟨bs, r2⟩ := Dp.reads I (.list ds) y u hy ry
      exact SeqAt.notIn_list_data r2 r1 se sd (by omega) ⟨.bl _, H, I, rfl, q⟩
    · obtain ⟨bs, r2⟩ := Dp.reads I (.tuple ds) y u hy ry
      exact SeqAt.notIn_tuple_data r2 r1 se sd (by omega) ⟨.bl _, H, I, rfl, q⟩
  · exact op_notIn_sign pins s σ H x y v u Q I rx ry h
def D.in? (x y : D) : Option Bool := match x, y with
  | .str w, .str z => if w.cps.size = 1 then some (decide (w.cps.getD 0 0 ∈ z.cps.toList)) else none
  | x, .lst ys => (match x.py, D.pys ys with
    | some p, some qs => if min (PyData.depthAll qs) p.depth ≤ 60 then some (qs.any fun z => PyData.eqv z p) else none
    | _, _ => none)
  | x, .tup ys => (match x.py, D.pys ys with
    | some p, some qs => if min (PyData.depthAll qs) p.depth ≤ 60 then some (qs.any fun z => PyData.eqv z p) else none
    | _, _ => none)
  | _, _ => none
def oIn (d e : D) : Option D := (D.in? d e).map .bl
def oNin (d e : D) : Option D := (D.in? d e).map fun b => .bl (!b)
theorem in_sem {K : PySem.W.Frag} {neg : Bool} {G : Gh} {H : Hp} {x y : V} {d e : D} {k : Bool} {Q : VK} (zs : Same G.Z H) (p1 : RepV K cl G H x d) (p2 : RepV K cl G H y e) (h : D.in? d e = some k) (q : Q (.bl (if neg then !k else k)) H) : rInP K neg x y H Q := by
  have seq : ∀ (ys : List D), (match d.py, D.pys ys with
    | some p, some qs => if min (PyData.depthAll qs) p.depth ≤ 60 then some (qs.any fun z => PyData.eqv z p) else none
    | _, _ => none) = some k → (∀ qs, D.pys ys = some qs → Dp K H y (.list qs) ∨ Dp K H y (.tuple qs)) → rInP K neg x y H Q := fun ys h hy => by
    cases q1 : d.py with
    | none => rw [q1] at h; cases h
    | some p =>
      cases q2 : D.pys ys with
      | none => rw [q1, q2] at h; cases h
      | some qs =>
        rw [q1, q2] at h
        simp only at h
        split at h
        · cases h
          exact .inl ⟨p, qs, p1.dp zs q1, hy qs q2, D.py_plain _ _ q1, D.pys_plain _ _ q2, by assumption, q⟩
        · cases h
  cases e with
  | lst ys =>
    refine seq ys (by cases d <;> exact h) fun qs e => .inl (p2.dp zs ?_)
    simp only [D.py, e]
    rfl
  | tup ys =>
    refine seq ys (by cases d <;> exact h) fun qs e => .inr (p2.dp zs ?_)
    simp only [D.py, e]
    rfl
  | str z =>
    cases d with
    | str w =>
      simp only [D.in?] at h
      split at h
      · cases h
        rename_i hw
        refine .inr ⟨w.cps.getD 0 0, z, ?_, p2.str, q⟩
        rw [p1.str]
        obtain ⟨⟨l⟩⟩ := w
        match l, hw with
        | [c], _ => rfl
      · cases h
    | _ => simp only [D.in?, reduceCtorEq] at h
  | _ => cases d <;> simp only [D.in?, reduceCtorEq] at h
theorem os_in : OpS X cl (rInP X.K false) oIn (PF X.K cl) := fun {G0 H0 S ρ G σ H x y d e z Q} R p1 p2 q k => by
  unfold oIn at q
  cases q1 : D.in? d e with
  | none => rw [q1] at q; cases q
  | some b =>
    rw [q1] at q
    cases q
    exact in_sem R.ok.zsub p1 p2 q1 (k _ G H R (Stp.refl _ _) (.bl _))
theorem os_nin : OpS X cl (rInP X.K true) oNin (PF X.K cl) := fun {G0 H0 S ρ G σ H x y d e z Q} R p1 p2 q k => by
  unfold oNin at q
  cases q1 : D.in? d e with
  | none => rw [q1] at q; cases q
  | some b =>
    rw [q1] at q
    cases q
    exact in_sem R.ok.zsub p1 p2 q1 (k _ G H R (Stp.refl _ _) (.bl _))
end
end PM
set_option maxHeartbeats 1000000
namespace PM
open PySem PySem.Spec PyProof.Rows L2

section
variable {X : Cx} {cl : ClsP} {W : WX} {a b e c : Expr} {ca cb cc : Ex} {pos : Pos} {ta tb : Tx} {es : List Expr} {rest : List Expr}

def D.truth : D → Option Bool
  | .non => some false
  | .bl b => some b
  | .int i => some (i != 0)
  | .str x => if x.length ≤ 1000000 then some ((x.length : Int) != 0) else none
  | .lst xs => some (!xs.isEmpty)
  | .tup xs => some (!xs.isEmpty)
  | .scr xs => some (!xs.isEmpty)
  | .dic kvs => some (!kvs.isEmpty)
  | _ => none
theorem isEmpty_len {α β : Type} : ∀ {xs : List α} {ys : List β}, xs.length = ys.length → xs.isEmpty = ys.isEmpty
  | [], [], _ => rfl
  | _ :: _, _ :: _, _ => rfl
theorem RepV.tru {K : PySem.W.Frag} {G : Gh} {H : Hp} {v : V} {d : D} {k : Bool} (h : RepV K cl G H v d) (zs : Same G.Z H) (e : d.truth = some k) : TruV K v H k := by
  cases d with
  | non => rw [h.non]; cases e; rfl
  | bl b => rw [h.bl]; cases e; rfl
  | int i => rw [h.int]; cases e; rfl
  | str x =>
    rw [h.str]
    simp only [D.truth] at e
    split at e
    · cases e; exact ⟨lim_ok (by assumption), rfl⟩
    · cases e
  | lst xs =>
    obtain ⟨p, vs, rfl, h1, r⟩ := h.lst zs
    cases e
    exact .inl ⟨vs, .inl (.inl h1), by rw [isEmpty_len r.length]⟩
  | tup xs =>
    obtain ⟨p, vs, rfl, h1, r⟩ := h.tup zs
    cases e
    exact .inr (.inl ⟨vs, h1, by rw [isEmpty_len r.length]⟩)
  | scr xs =>
    obtain ⟨p, rfl, h1⟩ := h.scr zs
    cases e
    exact .inl ⟨_, h1, by rw [isEmpty_len (List.length_map _)]⟩
  | exn n => cases e
  | dit n => cases e
  | nst n => cases e
  | dic kvs =>
    obtain ⟨p, vs, rfl, h1, r⟩ := h.dic zs
    cases e
    exact .inr (.inr ⟨vs, h1, by rw [isEmpty_len r.length]⟩)
  | obj c fs => simp only [D.truth, reduceCtorEq] at e
  | rf n => simp only [D.truth, reduceCtorEq] at e
theorem RepT.tru {K : PySem.W.Frag} {G : Gh} {H : Hp} {v : V} {d : D} {k : Bool} (h : RepT K cl G H v d) (zs : Same G.Z H) (e : d.truth = some k) : TruV K v H k := RepV.tru h.vw zs e
def eTr (ca : Ex) : Tx := fun ρ S => (ca ρ S).bind fun d S => Res.opt d.truth S
theorem st_val (ha : SB X cl W a ca) (he : ∀ whole, isTrue a X.env whole = (do let v ← whole; standAt a.pos; holding [v] (truthy v))) : STt X cl W a (eTr ca) := PT.weak (pt_truth ha he) fun σ H Q ⟨G0, H0, S, ρ, G, R, h⟩ => by
  refine tX.bind ptM R h fun d x S1 G1 H1 R1 s1 p1 h1 => ?_
  cases q : d.truth with
  | none => rw [q] at h1; exact h1.elim
  | some k =>
    rw [q] at h1
    exact ⟨k, RepT.tru p1 R1.ok.zsub q, h1 _ G1 H1 R1 (Stp.refl _ _) rfl⟩
def Bls (f : D → D → Option D) : Prop := ∀ d e z, f d e = some z → ∃ k, z = .bl k
theorem test_of {f : D → D → Option D} (hb : Bls f) {σ : L2.St} {H : Hp} {Q : Bool → Hp → Prop} (h : tX X.K cl PT1 W (eTr (eBin f ca cb)) σ H Q) : tX X.K cl (PF X.K cl) W (eBin f ca cb) σ H (fun x H' => ∃ k, x = .bl k ∧ Q k H') := by
  obtain ⟨G0, H0, S, ρ, G, R, h⟩ := h
  refine ⟨G0, H0, S, ρ, G, R, ?_⟩
  have hh : ∀ d S', eBin f ca cb ρ S = .ok d S' → ∃ k, d = .bl k := fun d S' q => by
    unfold eBin at q
    cases q1 : ca ρ S with
    | ok d1 S1 =>
      rw [q1] at q
      simp only [Res.bind] at q
      cases q2 : cb ρ S1 with
      | ok d2 S2 =>
        rw [q2] at q
        simp only at q
        cases q3 : f d1 d2 with
        | none => rw [q3] at q; cases q
        | some z => rw [q3] at q; cases q; exact hb _ _ _ q3
      | exc n S2 => rw [q2] at q; cases q
      | stuck => rw [q2] at q; cases q
    | exc n S1 => rw [q1] at q; cases q
    | stuck => rw [q1] at q; cases q
  unfold eTr at h
  cases q : eBin f ca cb ρ S with
  | ok d S' =>
    rw [q] at h
    obtain ⟨k, rfl⟩ := hh d S' q
    intro v G' H' R' s p
    cases p
    exact ⟨k, rfl, h k G' H' R' s rfl⟩
  | exc n S' => rw [q] at h; exact h
  | stuck => rw [q] at h; exact h
theorem st_cmp {op : CmpOp} {r : R2} {f : D → D → Option D} (hb : Bls f) (ho : OpR X (compareOp op) r) (hs : OpS X cl r f (PF X.K cl)) (ha : SB X cl W a ca) (hb' : SB X cl W b cb) (hm : behindInMarks op b = false) : STt X cl W (.Compare a [op] [b] pos) (eTr (eBin f ca cb)) :=
  PT.weak (pt_cmpR ho ha hb' hm) fun σ H Q h => bin_sem pfM hs (test_of hb h)
theorem bls_eq : Bls oEq := fun d e z h => by
  unfold oEq at h
  cases q : D.eq? d e with
  | none => rw [q] at h; cases h
  | some b => rw [q] at h; cases h; exact ⟨_, rfl⟩
theorem bls_ne : Bls oNe := fun d e z h => by
  unfold oNe at h
  cases q : D.eq? d e with
  | none => rw [q] at h; cases h
  | some b => rw [q] at h; cases h; exact ⟨_, rfl⟩
theorem bls_in : Bls oIn := fun d e z h => by
  unfold oIn at h
  cases q : D.in? d e with
  | none => rw [q] at h; cases h
  | some b => rw [q] at h; cases h; exact ⟨_, rfl⟩
theorem bls_nin : Bls oNin := fun d e z h => by
  unfold oNin at h
  cases q : D.in? d e with
  | none => rw [q] at h; cases h
  | some b => rw [q] at h; cases h; exact ⟨_, rfl⟩
theorem bls_I {p : Int → Int → Bool} : Bls (oI0 fun i j => .bl (p i j)) := fun d e z h => by
  obtain ⟨i, j, _, _, rfl⟩ := oI0_some d e z h
  exact ⟨_, rfl⟩
theorem st_lt (ha : SB X cl W a ca) (hb : SB X cl W b cb) : STt X cl W (.Compare a [.Lt] [b] pos) (eTr (eBin oLt ca cb)) := st_cmp bls_I op_lt os_lt ha hb (nomark _)
theorem st_le (ha : SB X cl W a ca) (hb : SB X cl W b cb) : STt X cl W (.Compare a [.LtE] [b] pos) (eTr (eBin oLe ca cb)) := st_cmp bls_I op_le os_le ha hb (nomark _)
theorem st_gt (ha : SB X cl W a ca) (hb : SB X cl W b cb) : STt X cl W (.Compare a [.Gt] [b] pos) (eTr (eBin oGt ca cb)) := st_cmp bls_I op_gt os_gt ha hb (nomark _)
theorem st_eq (hu : X.A.units + 64 < cLine) (ha : SB X cl W a ca) (hb : SB X cl W b cb) : STt X cl W (.Compare a [.Eq] [b] pos) (eTr (eBin oEq ca cb)) := st_cmp bls_eq (op_eqP hu) os_eq ha hb (nomark _)
theorem st_ne (hu : X.A.units + 64 < cLine) (ha : SB X cl W a ca) (hb : SB X cl W b cb) : STt X cl W (.Compare a [.NotEq] [b] pos) (eTr (eBin oNe ca cb)) := st_cmp bls_ne (op_neP hu) os_ne ha hb (nomark _)
theorem st_in (hu : X.A.units + 65 < cLine) (ha : SB X cl W a ca) (hb : SB X cl W b cb) (hm : behindInMarks .In b = false) : STt X cl W (.Compare a [.In] [b] pos) (eTr (eBin oIn ca cb)) := st_cmp bls_in (op_inP hu) os_in ha hb hm
theorem st_nin (hu : X.A.units + 65 < cLine) (ha : SB X cl W a ca) (hb : SB X cl W b cb) (hm : behindInMarks .NotIn b = false) : STt X cl W (.Compare a [.NotIn] [b] pos) (eTr (eBin oNin ca cb)) := st_cmp bls_nin (op_notInP hu) os_nin ha hb hm
def tAndD (ta tb : Tx) : Tx := fun ρ S => (ta ρ S).bind fun k S => if k = true then tb ρ S else .ok false S
def tOrD (ta tb : Tx) : Tx := fun ρ S => (ta ρ S).bind fun k S => if k = true then .ok true S else tb ρ S
def tNotD (ta : Tx) : Tx := fun ρ S => (ta ρ S).bind fun k S => .ok (!k) S
theorem sw_and1 (ha : STt X cl W a ta) : SW X cl W (.BoolOp .And [a] pos) ta := pw_and1 ha
theorem sw_or1 (ha : STt X cl W a ta) : SW X cl W (.BoolOp .Or [a] pos) ta := pw_or1 ha
theorem sw_and (ha : STt X cl W a ta) (hb : SW X cl W (.BoolOp .And (b :: rest) pos) tb) : SW X cl W (.BoolOp .And (a :: b :: rest) pos) (tAndD ta tb) := PW.weak (pw_and ha hb) fun σ H Q ⟨G0, H0, S, ρ, G, R, h⟩ => by
  refine tX.bind (Pa := PT1) ptM R h fun d x S1 G1 H1 R1 s1 p1 h1 => ?_
  cases (show x = d from p1)
  cases d with
  | true => exact ⟨_, _, _, _, _, R1, h1⟩
  | false => exact h1 _ G1 H1 R1 (Stp.refl _ _) rfl
theorem sw_or (ha : STt X cl W a ta) (hb : SW X cl W (.BoolOp .Or (b :: rest) pos) tb) : SW X cl W (.BoolOp .Or (a :: b :: rest) pos) (tOrD ta tb) := PW.weak (pw_or ha hb) fun σ H Q ⟨G0, H0, S, ρ, G, R, h⟩ => by
  refine tX.bind (Pa := PT1) ptM R h fun d x S1 G1 H1 R1 s1 p1 h1 => ?_
  cases (show x = d from p1)
  cases d with
  | true => exact h1 _ G1 H1 R1 (Stp.refl _ _) rfl
  | false => exact ⟨_, _, _, _, _, R1, h1⟩
theorem st_w (h : SW X cl W a ta) : STt X cl W a ta := PW.pt h
theorem st_not (ha : STt X cl W a ta) : STt X cl W (.UnaryOp .Not a pos) (tNotD ta) := PT.weak (pt_not ha) fun σ H Q ⟨G0, H0, S, ρ, G, R, h⟩ => by
  refine tX.bind (Pa := PT1) ptM R h fun d x S1 G1 H1 R1 s1 p1 h1 => ?_
  cases (show x = d from p1)
  exact h1 _ G1 H1 R1 (Stp.refl _ _) rfl
def eAndD (ca cb : Ex) : Ex := fun ρ S => (ca ρ S).bind fun d S => match d with
  | .bl true => cb ρ S
  | .bl false => .ok (.bl false) S
  | _ => .stuck
def eNotD (ca : Ex) : Ex := fun ρ S => (ca ρ S).bind fun d S => match d with
  | .bl k => .ok (.bl (!k)) S
  | _ => .stuck
theorem se_one {op} (h : SE X cl W a ca) : SE X cl W (.BoolOp op [a] pos) ca := pe_one h
theorem se_and (ha : SB X cl W a ca) (hb : SE X cl W (.BoolOp .And (b :: rest) pos) cb) : SE X cl W (.BoolOp .And (a :: b :: rest) pos) (eAndD ca cb) := PE.weak (pe_and ha hb) fun σ H Q ⟨G0, H0, S, ρ, G, R, h⟩ => by
  refine tX.bind pfM R h fun d x S1 G1 H1 R1 s1 p1 h1 => ?_
  cases d <;> simp only [Aft] at h1
  rename_i k
  refine ⟨k, RepT.bl p1, ?_⟩
  cases k with
  | true => exact ⟨_, _, _, _, _, R1, h1⟩
  | false => exact h1 _ G1 H1 R1 (Stp.refl _ _) (.bl _)
theorem se_not (ha : SB X cl W a ca) : SE X cl W (.UnaryOp .Not a pos) (eNotD ca) := PE.weak (pe_not ha) fun σ H Q ⟨G0, H0, S, ρ, G, R, h⟩ => by
  refine tX.bind pfM R h fun d x S1 G1 H1 R1 s1 p1 h1 => ?_
  cases d <;> simp only [Aft] at h1
  rename_i k
  exact ⟨k, RepT.bl p1, h1 _ G1 H1 R1 (Stp.refl _ _) (.bl _)⟩
def eChain (f f' : D → D → Option D) (ca cb cc : Ex) : Ex := fun ρ S => (ca ρ S).bind fun d S => (cb ρ S).bind fun e S => match f d e with
  | some (.bl true) => (cc ρ S).bind fun u S => Res.opt (f' e u) S
  | some (.bl false) => .ok (.bl false) S
  | _ => .stuck
theorem chain_sem {r r' : R2} {f f' : D → D → Option D} (hs : OpS X cl r f (PF X.K cl)) (hs' : OpS X cl r' f' (PF X.K cl)) {σ : L2.St} {H : Hp} {Q : VK} (h : tX X.K cl (PF X.K cl) W (eChain f f' ca cb cc) σ H Q) :
    tChain r r' (tX X.K cl (PB X.K cl) W ca) (tX X.K cl (PB X.K cl) W cb) (tX X.K cl (PB X.K cl) W cc) σ H Q := by
  obtain ⟨G0, H0, S, ρ, G, R, h⟩ := h
  refine tX.bind pfM R h fun d x S1 G1 H1 R1 s1 p1 h1 => ?_
  refine tX.bind pfM R1 h1 fun e y S2 G2 H2 R2 s2 p2 h2 => ?_
  cases q : f d e with
  | none => simp only [q, Aft] at h2
  | some z =>
    simp only [q] at h2
    cases z <;> simp only [Aft] at h2
    rename_i k
    refine hs R2 (RepT.stp p1 s2).vw (RepT.vw p2) q fun v G3 H3 R3 s3 p3 => ?_
    cases p3
    refine ⟨k, rfl, ?_⟩
    cases k with
    | true =>
      refine tX.bind pfM R3 (Aft.pre pfM (r := (cc ρ S2).bind fun u S => Res.opt (f' e u) S) h2 s3) fun u w S4 G4 H4 R4 s4 p4 h4 => ?_
      cases q4 : f' e u with
      | none => rw [q4] at h4; exact h4.elim
      | some z4 =>
        rw [q4] at h4
        exact hs' R4 (RepT.stp p2 (s3.trans s4)).vw (RepT.vw p4) q4 fun v G' H' R' s' p' => h4 v G' H' R' s' p'
    | false => exact h2 _ G3 H3 R3 s3 (.bl _)
def aNil : Ax := fun _ S => .ok [] S
def aCons (ca : Ex) (cr : Ax) : Ax := fun ρ S => (ca ρ S).bind fun d S => (cr ρ S).bind fun ds S => .ok (d :: ds) S
theorem sa_nil : SA X cl W [] [] aNil := PA.weak pa_nil fun σ H Q ⟨G0, H0, S, ρ, G, R, h⟩ => h _ G H R (Stp.refl _ _) .nil
theorem sa_f {bm : List Bool} {cr : Ax} (ha : SE X cl W e ca) (hr : SA X cl W bm es cr) (hs : starEach (e :: es) X.env = (false, eval e X.env) :: starEach es X.env := by rfl) : SA X cl W (false :: bm) (e :: es) (aCons ca cr) := PA.weak (pa_cons ha hr hs) fun σ H Q ⟨G0, H0, S, ρ, G, R, h⟩ => by
  refine tX.bind (Pa := PF X.K cl) paM R h fun d x S1 G1 H1 R1 s1 p1 h1 => ?_
  refine tX.bind (Pa := PA1 X.K cl bm) paM R1 h1 fun ds xs S2 G2 H2 R2 s2 p2 h2 => ?_
  exact h2 _ G2 H2 R2 (Stp.refl _ _) (.fr (RepG.stp s2 p1) p2)
theorem sa_b {bm : List Bool} {cr : Ax} (ha : SB X cl W e ca) (hr : SA X cl W bm es cr) (hs : starEach (e :: es) X.env = (false, eval e X.env) :: starEach es X.env := by rfl) : SA X cl W (true :: bm) (e :: es) (aCons ca cr) := PA.weak (pa_cons ha hr hs) fun σ H Q ⟨G0, H0, S, ρ, G, R, h⟩ => by
  refine tX.bind (Pa := PB X.K cl) paM R h fun d x S1 G1 H1 R1 s1 p1 h1 => ?_
  refine tX.bind (Pa := PA1 X.K cl bm) paM R1 h1 fun ds xs S2 G2 H2 R2 s2 p2 h2 => ?_
  exact h2 _ G2 H2 R2 (Stp.refl _ _) (.bo (RepT.stp p1 s2) p2)
theorem ArgsOk.reps {K : PySem.W.Frag} {G : Gh} {H : Hp} : ∀ {bm : List Bool} {vs : List V} {ds : List D}, ArgsOk K cl G H bm vs ds → bm.all (!·) = true → RepAll K cl G.mu G.Z vs ds
  | _, _, _, .nil, _ => .nil
  | _, _, _, .fr h t, e => .cons h (t.reps (by simpa using e))
  | _, _, _, .bo h t, e => by simp at e
def eLst (ca : Ax) : Ex := fun ρ S => (ca ρ S).bind fun ds S => if ds.length ≤ 1000000 then .ok (.lst ds) S else .stuck
def eTup (ca : Ax) : Ex := fun ρ S => (ca ρ S).bind fun ds S => if ds.length ≤ 1000000 then .ok (.tup ds) S else .stuck
theorem sn_lst {bm : List Bool} {ca : Ax} (h : SA X cl W bm es ca) (hb : bm.all (!·) = true := by rfl) : SN X cl W (.List es pos) (eLst ca) := PE.weak (pe_lst h) fun σ H Q ⟨G0, H0, S, ρ, G, R, h⟩ => by
  refine tX.bind (Pa := PA1 X.K cl bm) pnM R h fun ds vs S1 G1 H1 R1 s1 p1 h1 => ?_
  split at h1
  · rename_i hz
    refine ⟨by rw [ArgsOk.len p1 |>.1, ← (ArgsOk.len p1).2]; exact lim_ok hz, fun p hp => ?_⟩
    obtain ⟨R', s', n⟩ := R1.newL hp (ArgsOk.reps p1 hb)
    exact h1 _ _ _ R' s' ⟨p, [p], rfl, n, fun b hb => by simp at hb; subst hb; exact hp⟩
  · exact h1.elim
theorem se_tup {bm : List Bool} {ca : Ax} {x1} (h : SA X cl W bm es ca) (hb : bm.all (!·) = true := by rfl) : SE X cl W (.Tuple es x1 pos) (eTup ca) := PE.weak (pe_tup h) fun σ H Q ⟨G0, H0, S, ρ, G, R, h⟩ => by
  refine tX.bind (Pa := PA1 X.K cl bm) pfM R h fun ds vs S1 G1 H1 R1 s1 p1 h1 => ?_
  split at h1
  · rename_i hz
    refine ⟨by rw [ArgsOk.len p1 |>.1, ← (ArgsOk.len p1).2]; exact lim_ok hz, fun p hp => ?_⟩
    obtain ⟨R', s', n⟩ := R1.newF hp (.tup vs)
    exact h1 _ _ _ R' s' (.tup (.inl (.inl n)) (RepAll.mono s'.z s'.mu _ _ (ArgsOk.reps p1 hb)))
  · exact h1.elim
def oIx : D → D → Option D
  | .lst xs, .int i => atI xs i
  | .tup xs, .int i => atI xs i
  | .scr xs, .int i => (atI xs i).map .int
  | .str x, .int i => if x.length ≤ 1000000 then (atI x.cps.toList i).map fun c => .str ⟨#[c]⟩ else none
  | _, _ => none
theorem atI_some {α : Type} {xs : List α} {i : Int} {x : α} (h : atI xs i = some x) : ∃ j, ixN xs.length i = some j ∧ xs[j]? = some x := by
  unfold atI at h
  cases q : ixN xs.length i with
  | none => rw [q] at h; cases h
  | some j => rw [q] at h; exact ⟨j, rfl, h⟩
theorem atI_of {α : Type} {xs : List α} {i : Int} {x : α} {j : Nat} (h1 : ixN xs.length i = some j) (h2 : xs[j]? = some x) : atI xs i = some x := by
  unfold atI
  rw [h1]
  exact h2
theorem RepAll.atI {K : PySem.W.Frag} {mu : List Addr} {Z : Hp} {vs : List V} {ds : List D} {i : Int} {d : D} (r : RepAll K cl mu Z vs ds) (h : L2.atI ds i = some d) : ∃ v, L2.atI vs i = some v ∧ Rep K cl mu Z v d := by
  obtain ⟨j, h1, h2⟩ := atI_some h
  obtain ⟨v, h3, h4⟩ := r.get h2
  exact ⟨v, atI_of (by rw [r.length]; exact h1) h3, h4⟩
theorem os_ix : OpS X cl (rIx X.K) oIx (PF X.K cl) := fun {G0 H0 S ρ G σ H x y d e z Q} R p1 p2 q k => by
  cases d <;> cases e <;> simp only [oIx, reduceCtorEq] at q
  · rename_i x i
    split at q
    · rename_i hz
      cases q1 : atI x.cps.toList i with
      | none => rw [q1] at q; cases q
      | some c =>
        rw [q1] at q
        cases q
        exact .inr (.inr ⟨x, i, c, p1.str, p2.int, lim_ok hz, q1, k _ G H R (Stp.refl _ _) (.str _)⟩)
    · cases q
  · rename_i xs i
    obtain ⟨a1, vs, rfl, h1, r1⟩ := p1.lst R.ok.zsub
    obtain ⟨v, hv, rv⟩ := r1.atI q
    exact .inl ⟨a1, vs, i, v, rfl, p2.int, .inl (.inl h1), hv, k _ G H R (Stp.refl _ _) rv⟩
  · rename_i xs i
    obtain ⟨a1, vs, rfl, h1, r1⟩ := p1.tup R.ok.zsub
    obtain ⟨v, hv, rv⟩ := r1.atI q
    exact .inr (.inl ⟨a1, vs, i, v, rfl, p2.int, h1, hv, k _ G H R (Stp.refl _ _) rv⟩)
  · rename_i xs i
    obtain ⟨a1, rfl, h1⟩ := p1.scr R.ok.zsub
    cases q1 : atI xs i with
    | none => rw [q1] at q; cases q
    | some n =>
      rw [q1] at q
      cases q
      obtain ⟨j, h2, h3⟩ := atI_some q1
      exact .inl ⟨a1, _, i, .int n, rfl, p2.int, h1, atI_of (by rw [List.length_map]; exact h2) (by rw [List.getElem?_map, h3]; rfl), k _ G H R (Stp.refl _ _) (.int _)⟩
theorem se_ix (ha : SB X cl W a ca) (hb : SB X cl W b cb) (hs : PlainIx b := by intro _ _; rfl) : SE X cl W (.Subscript a b pos) (eBin oIx ca cb) := PE.weak (pe_ix ix_seq ha hb hs) fun σ H Q h => bin_sem pfM os_ix h

abbrev Px := Env → Store → Res (Option Int)
def PO1 : Post (Option Int) (Option Int) := fun _ _ _ _ d v => v = d
theorem poM : PostM PO1 := fun _ _ _ _ _ _ _ _ _ h => h
def pNo : Px := fun _ S => .ok none S
def pAt (ca : Ex) : Px := fun ρ S => (ca ρ S).bind fun d S => match d with
  | .int i => .ok (some i) S
  | _ => .stuck
abbrev SO (X : Cx) (cl : ClsP) (W : WX) (e : Option Expr) (c : Px) : Prop := PO X e (tX X.K cl PO1 W c)
theorem so_no : SO X cl W none pNo := ⟨fun pins s σ H Q I ⟨G0, H0, S, ρ, G, R, h⟩ => po_none.run pins s σ H Q I (h none G H R (Stp.refl _ _) rfl)⟩
theorem so_at (ha : SB X cl W e ca) : SO X cl W (some e) (pAt ca) := ⟨fun pins s σ H Q I ⟨G0, H0, S, ρ, G, R, h⟩ => (po_some ha).run pins s σ H Q I (by
  refine tX.bind (Pa := PB X.K cl) poM R h fun d x S1 G1 H1 R1 s1 p1 h1 => ?_
  cases d <;> simp only [Aft] at h1
  rename_i i
  exact ⟨i, RepT.int p1, h1 _ G1 H1 R1 (Stp.refl _ _) rfl⟩)⟩
def cutD {α : Type} (xs : List α) (lo hi : Option Int) : List α := (xs.drop (HT.sIx xs.length 0 lo)).take (HT.sIx xs.length xs.length hi - HT.sIx xs.length 0 lo)
theorem RepAll.cut {K : PySem.W.Frag} {mu : List Addr} {Z : Hp} {vs : List V} {ds : List D} (r : RepAll K cl mu Z vs ds) (lo hi : Option Int) : RepAll K cl mu Z (cutV vs lo hi) (cutD ds lo hi) := by
  unfold cutV cutD
  rw [r.length]
  exact (r.drop _).take _
theorem cutV_int (ns : List Int) (lo hi : Option Int) : cutV (ns.map V.int) lo hi = (cutD ns lo hi).map V.int := by
  unfold cutV cutD
  rw [List.length_map, List.map_take, List.map_drop]
def oCutL (d : D) (lo hi : Option Int) : Option D := match d with
  | .lst xs => some (.lst (cutD xs lo hi))
  | .scr ns => some (.lst ((cutD ns lo hi).map .int))
  | _ => none
def oCut (d : D) (lo hi : Option Int) : Option D := match d with
  | .lst xs => some (.lst (cutD xs lo hi))
  | .scr ns => some (.lst ((cutD ns lo hi).map .int))
  | .tup xs => some (.tup (cutD xs lo hi))
  | .str x => if x.length ≤ 1000000 then some (.str (cutS x lo hi)) else none
  | _ => none
def eCut (f : D → Option Int → Option Int → Option D) (ca : Ex) (cl' ch : Px) : Ex := fun ρ S => (ca ρ S).bind fun d S => (cl' ρ S).bind fun lo S => (ch ρ S).bind fun hi S => Res.opt (f d lo hi) S
def rSlAll (K : PySem.W.Frag) : V → Option Int → Option Int → Hp → VK → Prop := fun x lo hi H Q => rSlL K x lo hi H Q ∨ rSlA K x lo hi H Q ∨ rSlS x lo hi H Q
theorem sl_all : SlR X (rSlAll X.K) := sl_list.or (sl_tupA.or sl_str)
theorem cut_list {G0 : Gh} {H0 : Hp} {S : Store} {ρ : Env} {G : Gh} {σ : L2.St} {H : Hp} {x : V} {d z : D} {lo hi : Option Int} {Q : VK} (R : Rel X.K cl G0 H0 S ρ G σ H) (p1 : RepT X.K cl G H x d) (q : oCutL d lo hi = some z)
    (k : ∀ v G' H', Rel X.K cl G0 H0 S ρ G' σ H' → Stp G H G' H' → PN X.K cl G H G' H' z v → Q v H') : rSlL X.K x lo hi H Q := by
  cases d <;> simp only [oCutL, reduceCtorEq] at q
  · rename_i xs
    cases q
    obtain ⟨a1, vs, rfl, h1, r1⟩ := p1.lst R.ok.zsub
    refine ⟨a1, vs, rfl, .inl (.inl h1), fun p hp => ?_⟩
    obtain ⟨R', s', n⟩ := R.newL hp (r1.cut lo hi)
    exact k _ _ _ R' s' ⟨p, [p], rfl, n, fun b hb => by simp at hb; subst hb; exact hp⟩
  · rename_i xs
    cases q
    obtain ⟨a1, rfl, h1⟩ := p1.scr R.ok.zsub
    refine ⟨a1, _, rfl, h1, fun p hp => ?_⟩
    rw [cutV_int]
    obtain ⟨R', s', n⟩ := R.newL hp (RepAll.ints (K := X.K) (cl := cl) (cutD xs lo hi))
    exact k _ _ _ R' s' ⟨p, [p], rfl, n, fun b hb => by simp at hb; subst hb; exact hp⟩
theorem se_cut {lo hi : Option Expr} {cl' ch : Px} {p2 : Pos} (ha : SB X cl W a ca) (hl : SO X cl W lo cl') (hh : SO X cl W hi ch) : SE X cl W (.Subscript a (.Slice lo hi none p2) pos) (eCut oCut ca cl' ch) := PE.weak (pe_slice sl_all ha hl hh) fun σ H Q ⟨G0, H0, S, ρ, G, R, h⟩ => by
  refine tX.bind (Pa := PB X.K cl) pfM R h fun d x S1 G1 H1 R1 s1 p1 h1 => ?_
  refine tX.bind (Pa := PO1) pfM R1 h1 fun l lv S2 G2 H2 R2 s2 p2 h2 => ?_
  cases (show lv = l from p2)
  refine tX.bind (Pa := PO1) pfM R2 h2 fun u uv S3 G3 H3 R3 s3 p3 h3 => ?_
  cases (show uv = u from p3)
  cases q : oCut d l u with
  | none => rw [q] at h3; exact h3.elim
  | some z =>
    rw [q] at h3
    have p1' := RepT.stp p1 (s2.trans s3)
    have lists : ∀ z, oCutL d l u = some z → (∀ v G' H', Rel X.K cl G0 H0 S3 ρ G' σ H' → Stp G3 H3 G' H' → PF X.K cl G3 H3 G' H' z v → Q v H') → rSlAll X.K x l u H3 Q := fun z q k => by
      refine .inl (cut_list R3 p1' q fun v G' H' R' s ⟨a, as, e, n, hn⟩ => ?_)
      subst e
      obtain ⟨R2', s2', rp⟩ := R'.freeze R3.stp s n hn
      exact k _ _ _ R2' s2' rp
    cases d <;> simp only [oCut, reduceCtorEq] at q
    · rename_i y
      split at q
      · cases q
        exact .inr (.inr ⟨y, p1'.str, lim_ok (by assumption), h3 _ G3 H3 R3 (Stp.refl _ _) (.str _)⟩)
      · cases q
    · exact lists z q fun v G' H' R' s' p' => h3 v G' H' R' s' p'
    · rename_i xs
      cases q
      obtain ⟨a1, vs, rfl, h1, r1⟩ := p1'.tup R3.ok.zsub
      refine .inr (.inl ⟨a1, vs, rfl, h1, fun hw => ?_, fun hw p hp => ?_⟩)
      · have e : cutD xs l u = xs := by
          unfold cutD
          rw [← r1.length, hw.1, hw.2, List.drop_zero, Nat.sub_zero, r1.length, List.take_length]
        rw [e] at h3
        rcases p1' with p | ⟨_, _, _, c, _⟩
        · exact h3 _ G3 H3 R3 (Stp.refl _ _) p
        · cases c
      · obtain ⟨R', s', n⟩ := R3.newF hp (.tup (cutV vs l u))
        exact h3 _ _ _ R' s' (.tup (.inl (.inl n)) (RepAll.mono s'.z s'.mu _ _ (r1.cut l u)))
    · exact lists z q fun v G' H' R' s' p' => h3 v G' H' R' s' p'

def CallS (X : Cx) (cl : ClsP) (bm : List Bool) (r : List V → Hp → VK → Prop) (f : List D → Option D) (P : Post D V) : Prop :=
  ∀ {G0 : Gh} {H0 : Hp} {S : Store} {ρ : Env} {G : Gh} {σ : L2.St} {H : Hp} {vs : List V} {ds : List D} {z : D} {Q : VK}, Rel X.K cl G0 H0 S ρ G σ H → ArgsOk X.K cl G H bm vs ds → f ds = some z →
    (∀ v G' H', Rel X.K cl G0 H0 S ρ G' σ H' → Stp G H G' H' → P G H G' H' z v → Q v H') → r vs H Q
def eFn (f : List D → Option D) (ca : Ax) : Ex := fun ρ S => (ca ρ S).bind fun ds S => Res.opt (f ds) S
theorem fn_sem {bm : List Bool} {r : List V → Hp → VK → Prop} {f : List D → Option D} {P : Post D V} {ca : Ax} (hP : PostM P) (hs : CallS X cl bm r f P) {σ : L2.St} {H : Hp} {Q : VK} (h : tX X.K cl P W (eFn f ca) σ H Q) : tCB r (tX X.K cl (PA1 X.K cl bm) W ca) σ H Q := by
  obtain ⟨G0, H0, S, ρ, G, R, h⟩ := h
  refine tX.bind (Pa := PA1 X.K cl bm) hP R h fun ds vs S1 G1 H1 R1 s1 p1 h1 => ?_
  cases q : f ds with
  | none => rw [q] at h1; exact h1.elim
  | some z =>
    rw [q] at h1
    exact hs R1 p1 q fun v G' H' R' s' p' => h1 v G' H' R' s' p'
section
variable {x : Str} {p : Pos} {id T : String} {bm : List Bool} {r : List V → Hp → VK → Prop} {f : List D → Option D} {P : Post D V} {ax : Ax}
theorem sx_callB (hP : PostM P) (hc : CallR X (.builtin id) r) (hs : CallS X cl bm r f P) (hg : Gl X x) (hm : X.mg x = none) (hv : bootBuiltins x = some (.builtin id)) (ha : SA X cl W bm (e :: es) ax) (hn : x ≠ "__name__" := by decide) (hdb : (x == ("__debug__" : Str)) = false := by decide)
    (he : starEach (e :: es) X.env = (false, eval e X.env) :: starEach es X.env := by rfl) (hpl : (backTo pos (starEach es X.env)).any (·.1) = false := by rfl) : PE X (.Call (.Name x p) (e :: es) [] pos) (tX X.K cl P W (eFn f ax)) :=
  PE.weak (pe_callB hc hg hm hv ha hn hdb he hpl) fun σ H Q h => fn_sem hP hs h
theorem sx_callTy (hP : PostM P) (hc : CallR X (.type T) r) (hs : CallS X cl bm r f P) (hg : Gl X x) (hm : X.mg x = none) (hv : bootBuiltins x = some (.type T)) (ha : SA X cl W bm (e :: es) ax) (hn : x ≠ "__name__" := by decide) (hdb : (x == ("__debug__" : Str)) = false := by decide)
    (he : starEach (e :: es) X.env = (false, eval e X.env) :: starEach es X.env := by rfl) (hpl : (backTo pos (starEach es X.env)).any (·.1) = false := by rfl) : PE X (.Call (.Name x p) (e :: es) [] pos) (tX X.K cl P W (eFn f ax)) :=
  PE.weak (pe_callTy hc hg hm hv ha hn hdb he hpl) fun σ H Q h => fn_sem hP hs h
end
theorem ArgsOk.one {K : PySem.W.Frag} {G : Gh} {H : Hp} {vs : List V} {d : D} (h : ArgsOk K cl G H [true] vs [d]) : ∃ v, vs = [v] ∧ RepT K cl G H v d := by
  cases h with
  | bo h t => cases t; exact ⟨_, rfl, h⟩
theorem ArgsOk.two {K : PySem.W.Frag} {G : Gh} {H : Hp} {vs : List V} {d d' : D} (h : ArgsOk K cl G H [true, true] vs [d, d']) : ∃ v v', vs = [v, v'] ∧ RepT K cl G H v d ∧ RepT K cl G H v' d' := by
  cases h with
  | bo h t =>
    obtain ⟨v', rfl, h'⟩ := t.one
    exact ⟨_, v', rfl, h, h'⟩
def fLen : List D → Option D
  | [.str x] => if x.length ≤ 1000000 then some (.int x.length) else none
  | [.lst xs] => some (.int xs.length)
  | [.tup xs] => some (.int xs.length)
  | [.scr xs] => some (.int xs.length)
  | _ => none
theorem cs_len : CallS X cl [true] (fun xs H Q => ∃ x n, xs = [x] ∧ LenV X.K x H n ∧ Q (.int n) H) fLen (PF X.K cl) := fun {G0 H0 S ρ G σ H vs ds z Q} R p q k => by
  unfold fLen at q
  split at q
  · split at q
    · cases q
      obtain ⟨v, rfl, h⟩ := p.one
      exact ⟨v, _, rfl, by rw [h.str]; exact ⟨lim_ok (by assumption), rfl⟩, k _ G H R (Stp.refl _ _) (.int _)⟩
    · cases q
  · cases q
    obtain ⟨v, rfl, h⟩ := p.one
    obtain ⟨a1, vs, rfl, h1, r1⟩ := h.lst R.ok.zsub
    exact ⟨_, _, rfl, .inl ⟨vs, .inl (.inl h1), rfl⟩, by rw [r1.length]; exact k _ G H R (Stp.refl _ _) (.int _)⟩
  · cases q
    obtain ⟨v, rfl, h⟩ := p.one
    obtain ⟨a1, vs, rfl, h1, r1⟩ := h.tup R.ok.zsub
    exact ⟨_, _, rfl, .inr ⟨vs, h1, rfl⟩, by rw [r1.length]; exact k _ G H R (Stp.refl _ _) (.int _)⟩
  · rename_i xs
    cases q
    obtain ⟨v, rfl, h⟩ := p.one
    obtain ⟨a1, rfl, h1⟩ := h.scr R.ok.zsub
    exact ⟨_, xs.length, rfl, .inl ⟨_, h1, by rw [List.length_map]⟩, k _ G H R (Stp.refl _ _) (.int _)⟩
  · cases q
def fList : List D → Option D
  | [.lst xs] => some (.lst xs)
  | [.tup xs] => some (.lst xs)
  | [.scr xs] => some (.lst (xs.map .int))
  | _ => none
theorem cs_list : CallS X cl [true] (fun xs H Q => ∃ p ys, xs = [.ref p] ∧ (SqL X.K H p ys ∨ SqT X.K H p ys) ∧ ∀ l, H l = none → Q (.ref l) (upd H l (.lst ys))) fList (PN X.K cl) := fun {G0 H0 S ρ G σ H vs ds z Q} R p q k => by
  unfold fList at q
  split at q
  · cases q
    obtain ⟨v, rfl, h⟩ := p.one
    obtain ⟨a1, vs, rfl, h1, r1⟩ := h.lst R.ok.zsub
    refine ⟨a1, vs, rfl, .inl (.inl (.inl h1)), fun l hl => ?_⟩
    obtain ⟨R', s', n⟩ := R.newL hl r1
    exact k _ _ _ R' s' ⟨l, [l], rfl, n, fun b hb => by simp at hb; subst hb; exact hl⟩
  · cases q
    obtain ⟨v, rfl, h⟩ := p.one
    obtain ⟨a1, vs, rfl, h1, r1⟩ := h.tup R.ok.zsub
    refine ⟨a1, vs, rfl, .inr h1, fun l hl => ?_⟩
    obtain ⟨R', s', n⟩ := R.newL hl r1
    exact k _ _ _ R' s' ⟨l, [l], rfl, n, fun b hb => by simp at hb; subst hb; exact hl⟩
  · rename_i xs
    cases q
    obtain ⟨v, rfl, h⟩ := p.one
    obtain ⟨a1, rfl, h1⟩ := h.scr R.ok.zsub
    refine ⟨a1, _, rfl, .inl h1, fun l hl => ?_⟩
    obtain ⟨R', s', n⟩ := R.newL hl (RepAll.ints (K := X.K) (cl := cl) xs)
    exact k _ _ _ R' s' ⟨l, [l], rfl, n, fun b hb => by simp at hb; subst hb; exact hl⟩
  · cases q
def fTuple : List D → Option D
  | [.lst xs] => some (.tup xs)
  | [.tup xs] => some (.tup xs)
  | _ => none
theorem cs_tuple : CallS X cl [true] (fun xs H Q => ∃ p ys, xs = [.ref p] ∧ ((SqL X.K H p ys ∧ ∀ l, H l = none → Q (.ref l) (upd H l (.tup ys))) ∨ (SqT X.K H p ys ∧ Q (.ref p) H))) fTuple (PF X.K cl) := fun {G0 H0 S ρ G σ H vs ds z Q} R p q k => by
  unfold fTuple at q
  split at q
  · cases q
    obtain ⟨v, rfl, h⟩ := p.one
    obtain ⟨a1, vs, rfl, h1, r1⟩ := h.lst R.ok.zsub
    refine ⟨a1, vs, rfl, .inl ⟨.inl (.inl h1), fun l hl => ?_⟩⟩
    obtain ⟨R', s', n⟩ := R.newF hl (.tup vs)
    exact k _ _ _ R' s' (.tup (.inl (.inl n)) (RepAll.mono s'.z s'.mu _ _ r1))
  · cases q
    obtain ⟨v, rfl, h⟩ := p.one
    obtain ⟨a1, vs, rfl, h1, r1⟩ := h.tup R.ok.zsub
    refine ⟨a1, vs, rfl, .inr ⟨h1, ?_⟩⟩
    rcases h with h | ⟨_, _, _, c, _⟩
    · exact k _ G H R (Stp.refl _ _) h
    · cases c
  · cases q
def D.isT (T : String) : D → Option Bool
  | .non => some false
  | .bl _ => some (T == "bool" || T == "int")
  | .int _ => some (T == "int")
  | .str _ => some (T == "str")
  | .lst _ => some (T == "list")
  | .scr _ => some (T == "list")
  | .tup _ => some (T == "tuple")
  | .dic _ => some (T == "dict")
  | _ => none
def D.ty : D → Option String
  | .non => some "NoneType"
  | .bl _ => some "bool"
  | .int _ => some "int"
  | .str _ => some "str"
  | .lst _ => some "list"
  | .scr _ => some "list"
  | .tup _ => some "tuple"
  | .dic _ => some "dict"
  | _ => none
theorem RepV.ty {K : PySem.W.Frag} {G : Gh} {H : Hp} {v : V} {d : D} {t : String} (h : RepV K cl G H v d) (zs : Same G.Z H) (e : d.ty = some t) : TyX K H v (.type t) := by
  cases d with
  | non => rw [h.non]; cases e; exact .base .non
  | bl b => rw [h.bl]; cases e; exact .base (.bl _)
  | int i => rw [h.int]; cases e; exact .base (.int _)
  | str x => rw [h.str]; cases e; exact .base (.str _)
  | lst xs =>
    obtain ⟨p, vs, rfl, h1, r⟩ := h.lst zs
    cases e
    exact .base (.lst h1)
  | tup xs =>
    obtain ⟨p, vs, rfl, h1, r⟩ := h.tup zs
    cases e
    rcases h1 with (h1 | ⟨o, h1⟩) | ⟨o, its, n, h1, h2, _⟩
    · exact .base (.tup h1)
    · exact .fTuple h1
    · exact .kTuple h1 h2
  | exn n => cases e
  | dit n => cases e
  | nst n => cases e
  | scr xs =>
    obtain ⟨p, rfl, h1⟩ := h.scr zs
    cases e
    rcases h1 with (h1 | ⟨o, h1⟩) | ⟨o, its, n, h1, h2, _⟩
    · exact .base (.lst h1)
    · exact .base (.frz h1)
    · exact .kList h1 h2
  | dic kvs =>
    obtain ⟨p, vs, rfl, h1, r⟩ := h.dic zs
    cases e
    exact .base (.dK h1)
  | obj c fs => simp only [D.ty, reduceCtorEq] at e
  | rf n => simp only [D.ty, reduceCtorEq] at e
theorem RepT.ty {K : PySem.W.Frag} {G : Gh} {H : Hp} {v : V} {d : D} {t : String} (h : RepT K cl G H v d) (zs : Same G.Z H) (e : d.ty = some t) : TyX K H v (.type t) := RepV.ty h.vw zs e
theorem isT_ty {T : String} (hT : T = "int" ∨ T = "bool" ∨ T = "str" ∨ T = "list" ∨ T = "tuple") {d : D} {k : Bool} (h : d.isT T = some k) : ∃ t, d.ty = some t ∧ ∀ K : PySem.W.Frag, PySem.W.kitOne K (.type t) (.type T) = some k := by
  cases d <;> simp only [D.isT, reduceCtorEq] at h <;> cases h <;> refine ⟨_, rfl, fun K => kit_ty ?_⟩ <;> rcases hT with rfl | rfl | rfl | rfl | rfl <;> decide +kernel
def eIsT (T : String) (ca : Ex) : Ex := fun ρ S => (ca ρ S).bind fun d S => Res.opt ((d.isT T).map .bl) S
theorem se_isT {x y : Str} {p p2 : Pos} {T : String} (hT : T = "int" ∨ T = "bool" ∨ T = "str" ∨ T = "list" ∨ T = "tuple") (hg : Gl X x) (hm : X.mg x = none) (hv : bootBuiltins x = some (.builtin "isinstance")) (ha : SB X cl W a ca)
    (hg2 : Gl X y) (hm2 : X.mg y = none) (hv2 : bootBuiltins y = some (.type T)) (hn2 : y ≠ "__name__" := by decide) (hd2 : (y == ("__debug__" : Str)) = false := by decide) (hn : x ≠ "__name__" := by decide) (hdb : (x == ("__debug__" : Str)) = false := by decide)
    (he : starEach [a, .Name y p2] X.env = (false, eval a X.env) :: starEach [.Name y p2] X.env := by rfl) (he2 : starEach [.Name y p2] X.env = (false, eval (.Name y p2) X.env) :: starEach [] X.env := by rfl) (hpl : (backTo pos (starEach [.Name y p2] X.env)).any (·.1) = false := by rfl) : SE X cl W (.Call (.Name x p) [a, .Name y p2] [] pos) (eIsT T ca) :=
  PE.weak (pe_callB call_isi hg hm hv (pa_cons ha (pa_cons (pe_bltn hg2 hm2 hv2 (v := .ty T) rfl hn2 hd2) pa_nil he2) he) hn hdb he hpl) fun σ H Q ⟨G0, H0, S, ρ, G, R, h⟩ => by
    refine tX.bind (Pa := PB X.K cl) pfM R h fun d x S1 G1 H1 R1 s1 p1 h1 => ?_
    cases q : d.isT T with
    | none => rw [q] at h1; exact h1.elim
    | some k =>
      rw [q] at h1
      obtain ⟨t, ht, hk⟩ := isT_ty hT q
      exact ⟨x, .ty T, _, _, k, rfl, .ty T, RepT.ty p1 R1.ok.zsub ht, hk _, h1 _ G1 H1 R1 (Stp.refl _ _) (.bl _)⟩
end
end PM
set_option maxHeartbeats 1000000
namespace PM
open PySem PySem.Spec PyProof.Rows L2

inductive SR where
  | nx (ρ : Env) (S : Store) | rt (v : Val) (S : Store) | bk (ρ : Env) (S : Store) | ct (ρ : Env) (S : Store) | exc (n : Nat) (ρ : Env) (S : Store) | stuck
abbrev Stm := Env → Store → SR

section
variable (K : PySem.W.Frag) (cl : ClsP)
structure Zle (G G' : Gh) : Prop where
  z : Same G.Z G'.Z
  mu : ∃ t, G'.mu = G.mu ++ t
def StOnly (G : Gh) : Prop := ∀ a l, G.lab a = some l → l.st = true
def RtOk (G0 : Gh) (H0 : Hp) (S : Store) (v : Val) (Q : VK) : Prop :=
  match v with
  | .fr d => ∀ v G H, GOk K cl S G H → StOnly G → Stp G0 H0 G H → RepG K cl G v d → Q v H
  | .ow d => ∀ a as G H, GOk K cl S G H → StOnly G → Stp G0 H0 G H → NewAt K cl G H a d as → (∀ b ∈ as, H0 b = none) → Q (.ref a) H
def AftS (W : WX) (G0 : Gh) (H0 : Hp) (G : Gh) (D : Ends) (r : SR) : Prop :=
  match r with
  | .nx ρ S => ∀ G' σ' H', Rel K cl G0 H0 S ρ G' σ' H' → Zle G G' → D.nx σ' H'
  | .bk ρ S => ∀ G' σ' H', Rel K cl G0 H0 S ρ G' σ' H' → Zle G G' → D.bk σ' H'
  | .ct ρ S => ∀ G' σ' H', Rel K cl G0 H0 S ρ G' σ' H' → Zle G G' → D.ct σ' H'
  | .rt v S => RtOk K cl G0 H0 S v D.rt
  | .exc n ρ S => ∀ G' σ' H', Rel K cl G0 H0 S ρ G' σ' H' → Zle G G' → W (.ref (cl n)) none σ' H'
  | .stuck => False
def tS (W : WX) (c : Stm) : TS := fun D σ H => ∃ (G0 : Gh) (H0 : Hp) (S : Store) (ρ : Env) (G : Gh), Rel K cl G0 H0 S ρ G σ H ∧ AftS K cl W G0 H0 G D (c ρ S)
end
abbrev SS (X : Cx) (cl : ClsP) (W : WX) (st : Stmt) (c : Stm) : Prop := PS X st (tS X.K cl W c)
abbrev SSs (X : Cx) (cl : ClsP) (W : WX) (st : List Stmt) (c : Stm) : Prop := PSs X st (tS X.K cl W c)

section
variable {K : PySem.W.Frag} {cl : ClsP} {W : WX} {G0 G G' G1 : Gh} {H0 H H' H1 : Hp} {S S' : Store} {ρ ρ' : Env} {σ : L2.St} {v : V} {d : D} {a : Addr} {as : List Addr} {i : Nat}
theorem Zle.refl (G : Gh) : Zle G G := ⟨Same.refl _, ⟨[], by simp⟩⟩
theorem Zle.trans (a : Zle G G1) (b : Zle G1 G') : Zle G G' := ⟨a.z.trans b.z, by obtain ⟨t, e⟩ := a.mu; obtain ⟨u, f⟩ := b.mu; exact ⟨t ++ u, by rw [f, e, List.append_assoc]⟩⟩
theorem Stp.zle (s : Stp G H G' H') : Zle G G' := ⟨s.z, s.mu⟩
theorem AftS.pre {D : Ends} {r : SR} (h : AftS K cl W G0 H0 G D r) (s : Zle G G1) : AftS K cl W G0 H0 G1 D r := by
  cases r with
  | nx ρ S => exact fun G' σ' H' R z => h G' σ' H' R (s.trans z)
  | bk ρ S => exact fun G' σ' H' R z => h G' σ' H' R (s.trans z)
  | ct ρ S => exact fun G' σ' H' R z => h G' σ' H' R (s.trans z)
  | rt v S => exact h
  | exc n ρ S => exact fun G' σ' H' R z => h G' σ' H' R (s.trans z)
  | stuck => exact h
theorem set_slot {ρ : List Slot} {σ : L2.St} (len : ρ.length = σ.length) {i j : Nat} {s s' : Slot} {o : Option V} {P : Nat → Slot → Option V → Prop} (h : (ρ.set i s)[j]? = some s') (hi : P i s o) (hj : ∀ s', j ≠ i → ρ[j]? = some s' → ∃ o, σ[j]? = some o ∧ P j s' o) : ∃ o', (σ.set i o)[j]? = some o' ∧ P j s' o' := by
  by_cases e : j = i
  · subst e
    have hl : j < ρ.length := by
      rcases Nat.lt_or_ge j ρ.length with h1 | h1
      · exact h1
      · rw [List.getElem?_eq_none (by simpa using h1)] at h; cases h
    rw [List.getElem?_set_self hl] at h
    cases h
    exact ⟨o, List.getElem?_set_self (by rw [← len]; exact hl), hi⟩
  · rw [List.getElem?_set_ne (Ne.symm e)] at h
    obtain ⟨o', h1, h2⟩ := hj s' e h
    exact ⟨o', by rw [List.getElem?_set_ne (Ne.symm e)]; exact h1, h2⟩
theorem Rel.setF (R : Rel K cl G0 H0 S ρ G σ H) (i : Nat) (r : RepG K cl G v d) : Rel K cl G0 H0 S (ρ.set i (.fr d)) G (σ.set i (some v)) H :=
  ⟨R.ok, by rw [List.length_set, List.length_set]; exact R.len, fun j s h => set_slot (P := fun j s o => SlotOk K cl G0 H0 G H (.slot j) s o) R.len h ⟨v, rfl, r⟩ fun s' _ e => R.slot j s' e, R.stp, R.s0⟩
theorem Rel.setU (R : Rel K cl G0 H0 S ρ G σ H) (i : Nat) (o : Option V) : Rel K cl G0 H0 S (ρ.set i .un) G (σ.set i o) H :=
  ⟨R.ok, by rw [List.length_set, List.length_set]; exact R.len, fun j s h => set_slot (P := fun j s o => SlotOk K cl G0 H0 G H (.slot j) s o) R.len h trivial fun s' _ e => R.slot j s' e, R.stp, R.s0⟩
theorem Rel.drop1 (R : Rel K cl G0 H0 S ρ G σ H) (i : Nat) : Rel K cl G0 H0 S (ρ.set i .un) G σ H :=
  ⟨R.ok, by rw [List.length_set]; exact R.len, fun j s h => by
    by_cases e : j = i
    · subst e
      have hl : j < ρ.length := by
        rcases Nat.lt_or_ge j ρ.length with h1 | h1
        · exact h1
        · rw [List.getElem?_eq_none (by simpa using h1)] at h; cases h
      rw [List.getElem?_set_self hl] at h
      cases h
      exact ⟨σ[j]'(by rw [← R.len]; exact hl), List.getElem?_eq_getElem _, trivial⟩
    · rw [List.getElem?_set_ne (Ne.symm e)] at h
      exact R.slot j s h, R.stp, R.s0⟩
def Gh.own (G : Gh) (as : List Addr) (l : Lab) : Gh := { G with lab := fun b => if b ∈ as then some l else G.lab b }
theorem own_in {b : Addr} {l : Lab} (hb : b ∈ as) : (G.own as l).lab b = some l := by
  show (if b ∈ as then some l else G.lab b) = some l
  rw [if_pos hb]
theorem own_out {b : Addr} {l : Lab} (hb : b ∉ as) : (G.own as l).lab b = G.lab b := by
  show (if b ∈ as then some l else G.lab b) = G.lab b
  rw [if_neg hb]
theorem Rel.setN (R : Rel K cl G0 H0 S ρ G σ H) (i : Nat) (n : NewAt K cl G H a d as) (hn : ∀ b ∈ as, H0 b = none) : Rel K cl G0 H0 S (ρ.set i (.ow d)) (G.own as (.slot i)) (σ.set i (some (.ref a))) H := by
  obtain ⟨c, q⟩ := n
  have lab : ∀ b l, G.lab b = some l → (G.own as (.slot i)).lab b = some l := fun b l e => by
    rw [own_out fun hb => by rw [(q b hb).1] at e; cases e]
    exact e
  have labn : ∀ b l, (G.own as (.slot i)).lab b = some l → G.lab b = some l ∨ b ∈ as := fun b l e => by
    by_cases hb : b ∈ as
    · exact .inr hb
    · rw [own_out hb] at e; exact .inl e
  refine ⟨⟨R.ok.zsub, fun b l e => ?_, fun n c e => (R.ok.st n c e).mono (fun _ _ _ _ _ e => e) (Same.refl _) (fun b l e _ => lab b l e) ⟨[], by simp [Gh.own]⟩, R.ok.stn⟩, by rw [List.length_set, List.length_set]; exact R.len,
    fun j s h => set_slot (P := fun j s o => SlotOk K cl G0 H0 (G.own as (.slot i)) H (.slot j) s o) R.len h ⟨_, rfl, a, as, rfl, c, fun b hb => own_in hb⟩ fun s' _ e => ?_, ⟨R.stp.z, fun b l e => lab b l (R.stp.lab b l e), R.stp.keep, fun b l e => ?_, R.stp.zn, R.stp.mu, R.stp.dom⟩, R.s0⟩
  · rcases labn b l e with h | h
    · exact R.ok.labz b l h
    · exact ⟨(q b h).2, c.there b h⟩
  · obtain ⟨o, h1, h2⟩ := R.slot j s' e
    exact ⟨o, h1, h2.mono (fun _ _ _ e => e) (Same.refl _) (fun b e => lab b _ e) ⟨[], by simp [Gh.own]⟩⟩
  · rcases labn b l e with h | h
    · exact R.stp.labn b l h
    · exact .inr (hn b h)
theorem Rel.ownNew (R : Rel K cl G0 H0 S ρ G σ H) {b : Addr} (h : G.lab b = some (.slot i)) : H0 b = none := by
  rcases R.stp.labn b _ h with q | q
  · exact absurd (R.s0 b _ q) (by simp [Lab.st])
  · exact q
noncomputable def Gh.frz (G : Gh) (H : Hp) (as : List Addr) : Gh := { G with Z := fun b => if b ∈ as then H b else G.Z b, lab := fun b => if b ∈ as then none else G.lab b }
theorem Rel.thaw' (R : Rel K cl G0 H0 S ρ G σ H) (e : ρ[i]? = some (.ow d)) : ∃ G', Rel K cl G0 H0 S (ρ.set i (.fr d)) G' σ H ∧ Zle G G' ∧ ∀ b l, G'.lab b = some l → G.lab b = some l := by
  obtain ⟨o, ho, v, rfl, a, as, rfl, c, hl⟩ := R.slot i _ e
  have nz : ∀ b ∈ as, G.Z b = none := fun b hb => (R.ok.labz b _ (hl b hb)).1
  have hz : Same G.Z (G.frz H as).Z := fun b o e => by
    show (if b ∈ as then H b else G.Z b) = some o
    rw [if_neg fun hb => by rw [nz b hb] at e; cases e]
    exact e
  have out : ∀ b l, G.lab b = some l → l ≠ .slot i → (G.frz H as).lab b = some l := fun b l e hne => by
    show (if b ∈ as then none else G.lab b) = some l
    rw [if_neg fun hb => by rw [hl b hb] at e; cases e; exact hne rfl]
    exact e
  have zn : ∀ b o, (G.frz H as).Z b = some o → (b ∈ as ∧ H b = some o) ∨ G.Z b = some o := fun b o e => by
    have e' : (if b ∈ as then H b else G.Z b) = some o := e
    by_cases hb : b ∈ as
    · rw [if_pos hb] at e'; exact .inl ⟨hb, e'⟩
    · rw [if_neg hb] at e'; exact .inr e'
  have ln : ∀ b l, (G.frz H as).lab b = some l → b ∉ as ∧ G.lab b = some l := fun b l e => by
    have e' : (if b ∈ as then none else G.lab b) = some l := e
    by_cases hb : b ∈ as
    · rw [if_pos hb] at e'; cases e'
    · rw [if_neg hb] at e'; exact ⟨hb, e'⟩
  have sk : ∀ l : Lab, l.st = true → l ≠ .slot i := fun l h e => by subst e; simp [Lab.st] at h
  refine ⟨G.frz H as, ⟨⟨fun b o e => ?_, fun b l e => ?_, fun n c e => (R.ok.st n c e).mono (fun _ _ _ _ _ e => e) hz (fun b l e h => out b l e (sk l h)) ⟨[], by simp [Gh.frz]⟩, R.ok.stn⟩, by rw [List.length_set]; exact R.len, fun j s h => ?_, ⟨R.stp.z.trans hz, fun b l e => out b l (R.stp.lab b l e) (sk l (R.s0 b l e)), R.stp.keep, fun b l e => R.stp.labn b l (ln b l e).2, fun b o e => ?_, R.stp.mu, R.stp.dom⟩, R.s0⟩, ⟨hz, ⟨[], by simp [Gh.frz]⟩⟩, fun b l e => (ln b l e).2⟩
  · rcases zn b o e with ⟨_, h⟩ | h
    · exact h
    · exact R.ok.zsub b o h
  · obtain ⟨hb, e'⟩ := ln b l e
    obtain ⟨h1, h2⟩ := R.ok.labz b l e'
    refine ⟨?_, h2⟩
    show (if b ∈ as then H b else G.Z b) = none
    rw [if_neg hb]
    exact h1
  · by_cases ej : j = i
    · subst ej
      have hlt : j < ρ.length := (List.getElem?_eq_some_iff.mp e).1
      rw [List.getElem?_set_self hlt] at h
      cases h
      refine ⟨_, ho, _, rfl, c.rep (fun b hb o e => ?_) hz⟩
      show (if b ∈ as then H b else G.Z b) = some o
      rw [if_pos hb]
      exact e
    · rw [List.getElem?_set_ne (Ne.symm ej)] at h
      obtain ⟨o, h1, h2⟩ := R.slot j s h
      exact ⟨o, h1, h2.mono (fun _ _ _ e => e) hz (fun b e => out b _ e (by intro q; cases q; exact ej rfl)) ⟨[], by simp [Gh.frz]⟩⟩
  · rcases zn b o e with ⟨hb, _⟩ | h
    · exact .inr (R.ownNew (hl b hb))
    · exact R.stp.zn b o h
theorem Rel.thaw (R : Rel K cl G0 H0 S ρ G σ H) (e : ρ[i]? = some (.ow d)) : ∃ G', Rel K cl G0 H0 S (ρ.set i (.fr d)) G' σ H ∧ Zle G G' := by
  obtain ⟨G', h1, h2, _⟩ := R.thaw' e
  exact ⟨G', h1, h2⟩
theorem Rel.write (R : Rel K cl G0 H0 S ρ G σ H) (e : σ[i]? = some (some (.ref a))) (hl : ∀ b ∈ as, G.lab b = some (.slot i)) (ha : a ∈ as) {o' : HO} {d' : D} (c : ContG K cl G (upd H a o') a d' as) : Rel K cl G0 H0 S (ρ.set i (.ow d')) G σ (upd H a o') := by
  have la := hl a ha
  have oth : ∀ b l, G.lab b = some l → l ≠ .slot i → ∀ o, H b = some o → upd H a o' b = some o := fun b l h hne o ho => by
    rw [upd_ne fun q => by subst q; rw [la] at h; cases h; exact hne rfl]
    exact ho
  have zs : Same G.Z (upd H a o') := fun b o h => by
    rw [upd_ne fun q => by subst q; rw [(R.ok.labz _ _ la).1] at h; cases h]
    exact R.ok.zsub b o h
  refine ⟨⟨zs, fun b l h => ?_, fun n c e => (R.ok.st n c e).mono (fun b l h hs o ho => oth b l h (fun q => by subst q; simp [Lab.st] at hs) o ho) (Same.refl _) (fun _ _ e _ => e) ⟨[], by simp⟩, R.ok.stn⟩, by rw [List.length_set]; exact R.len, fun j s h => ?_, ⟨R.stp.z, R.stp.lab, fun b o h hs => ?_, R.stp.labn, R.stp.zn, R.stp.mu, fun b h => ?_⟩, R.s0⟩
  · obtain ⟨h1, o, h2⟩ := R.ok.labz b l h
    refine ⟨h1, ?_⟩
    by_cases q : b = a
    · subst q; exact ⟨_, upd_same⟩
    · exact ⟨o, by rw [upd_ne q]; exact h2⟩
  · by_cases ej : j = i
    · subst ej
      have hlt : j < ρ.length := by rw [R.len]; exact (List.getElem?_eq_some_iff.mp e).1
      rw [List.getElem?_set_self hlt] at h
      cases h
      exact ⟨_, e, _, rfl, a, as, rfl, c, hl⟩
    · rw [List.getElem?_set_ne (Ne.symm ej)] at h
      obtain ⟨o, h1, h2⟩ := R.slot j s h
      exact ⟨o, h1, h2.mono (fun b h o ho => oth b _ h (by intro q; cases q; exact ej rfl) o ho) (Same.refl _) (fun _ e => e) ⟨[], by simp⟩⟩
  · rw [upd_ne fun q => by subst q; rw [R.ownNew la] at h; cases h]
    exact R.stp.keep b o h hs
  · by_cases q : b = a
    · subst q; rw [upd_same] at h; cases h
    · rw [upd_ne q] at h; exact R.stp.dom b h

theorem Rel.writeMe (R : Rel K cl G0 H0 S ρ G σ H) {d : D} (q : ρ[i]? = some (.me d)) (e : σ[i]? = some (some (.ref a))) (hl : ∀ b ∈ as, G.lab b = some (.slot i)) (ha : a ∈ as) {o' : HO} {d' : D} (c : ContG K cl G (upd H a o') a d' as) : Rel K cl G0 H0 S (ρ.set i (.me d')) G σ (upd H a o') := by
  have R' := R.write (i := i) e hl ha c
  obtain ⟨o, ho, v, rfl, _, hm⟩ := R.slot i _ q
  rw [e] at ho
  cases ho
  refine ⟨R'.ok, by rw [List.length_set]; exact R.len, fun j s h => ?_, R'.stp, R.s0⟩
  by_cases ej : j = i
  · subst ej
    have hlt : j < ρ.length := (List.getElem?_eq_some_iff.mp q).1
    rw [List.getElem?_set_self hlt] at h
    cases h
    exact ⟨_, e, _, rfl, ⟨a, as, rfl, c, hl⟩, hm⟩
  · refine R'.slot j s ?_
    rw [List.getElem?_set_ne (Ne.symm ej)] at h ⊢
    exact h
def Gh.out (G : Gh) : Gh := { G with lab := fun b => match G.lab b with
  | some l => if l.st = true then some l else none
  | none => none }
theorem out_some {b : Addr} {l : Lab} : G.out.lab b = some l ↔ G.lab b = some l ∧ l.st = true := by
  show (match G.lab b with
    | some l => if l.st = true then some l else none
    | none => none) = some l ↔ _
  cases q : G.lab b with
  | none => simp
  | some m =>
    simp only
    constructor
    · intro h
      split at h
      · cases h; exact ⟨rfl, by assumption⟩
      · cases h
    · rintro ⟨h1, h2⟩
      cases h1
      rw [if_pos h2]
theorem out_only : StOnly G.out := fun b l h => (out_some.mp h).2
theorem Rel.leave (R : Rel K cl G0 H0 S ρ G σ H) : GOk K cl S G.out H ∧ Stp G0 H0 G.out H :=
  ⟨⟨R.ok.zsub, fun b l h => R.ok.labz b l (out_some.mp h).1, fun n c e => (R.ok.st n c e).mono (fun _ _ _ _ _ e => e) (Same.refl _) (fun b l e h => out_some.mpr ⟨e, h⟩) ⟨[], by simp [Gh.out]⟩, R.ok.stn⟩,
    ⟨R.stp.z, fun b l e => out_some.mpr ⟨R.stp.lab b l e, R.s0 b l e⟩, R.stp.keep, fun b l e => R.stp.labn b l (out_some.mp e).1, R.stp.zn, R.stp.mu, R.stp.dom⟩⟩
end

section
variable {X : Cx} {cl : ClsP} {W : WX} {e : Expr} {c : Ex} {pos : Pos} {st : Stmt} {rest : List Stmt} {s1 s2 : Stm}
def sNx : Stm := fun ρ S => .nx ρ S
def sSeq (a b : Stm) : Stm := fun ρ S => match a ρ S with
  | .nx ρ' S' => b ρ' S'
  | r => r
theorem ss_nil : SSs X cl W [] sNx := PSs.weak pss_nil fun D σ H ⟨G0, H0, S, ρ, G, R, h⟩ => h G σ H R (Zle.refl _)
theorem ss_cons (h1 : SS X cl W st s1) (h2 : SSs X cl W rest s2) : SSs X cl W (st :: rest) (sSeq s1 s2) := PSs.weak (pss_cons h1 h2) fun D σ H ⟨G0, H0, S, ρ, G, R, h⟩ => by
  refine ⟨G0, H0, S, ρ, G, R, ?_⟩
  unfold sSeq at h
  cases q : s1 ρ S with
  | nx ρ' S' =>
    rw [q] at h
    exact fun G' σ' H' R' z => ⟨G0, H0, S', ρ', G', R', h.pre z⟩
  | rt v S' => rw [q] at h; exact h
  | bk ρ' S' => rw [q] at h; exact h
  | ct ρ' S' => rw [q] at h; exact h
  | exc n ρ' S' => rw [q] at h; exact h
  | stuck => rw [q] at h; exact h
def sFz (i : Nat) : Stm := fun ρ S => match ρ[i]? with
  | some (.ow d) => .nx (ρ.set i (.fr d)) S
  | some (.fr _) => .nx ρ S
  | _ => .stuck
theorem fz_sem (i : Nat) {D : Ends} {σ : L2.St} {H : Hp} (h : tS X.K cl W (sSeq (sFz i) s1) D σ H) : tS X.K cl W s1 D σ H := by
  obtain ⟨G0, H0, S, ρ, G, R, h⟩ := h
  unfold sSeq sFz at h
  cases q : ρ[i]? with
  | none => simp only [q, AftS] at h
  | some s =>
    cases s with
    | fr d => simp only [q] at h; exact ⟨G0, H0, S, ρ, G, R, h⟩
    | ow d =>
      simp only [q] at h
      obtain ⟨G', R', z⟩ := R.thaw q
      exact ⟨G0, H0, S, _, G', R', h.pre z⟩
    | un => simp only [q, AftS] at h
    | bo d => simp only [q, AftS] at h
    | me d => simp only [q, AftS] at h
theorem ss_fz {i : Nat} (h : SSs X cl W rest s1) : SSs X cl W rest (sSeq (sFz i) s1) := PSs.weak h fun D σ H q => fz_sem i q
def sCnt : Stm := fun ρ S => .ct ρ S
theorem ss_cnt : SS X cl W (.Continue pos) sCnt := PS.weak ps_continue fun D σ H ⟨G0, H0, S, ρ, G, R, h⟩ => h G σ H R (Zle.refl _)

def sEx {α : Type} (c : Env → Store → Res α) (k : α → Stm) : Stm := fun ρ S => match c ρ S with
  | .ok d S' => k d ρ S'
  | .exc n S' => .exc n ρ S'
  | .stuck => .stuck
theorem sEx_sem {α β : Type} {P : Post α β} {c : Env → Store → Res α} {k : α → Stm} {D : Ends} {σ : L2.St} {H : Hp} {M : β → Hp → Prop} (h : tS X.K cl W (sEx c k) D σ H)
    (hk : ∀ G0 H0 S' ρ G d v G' H', Rel X.K cl G0 H0 S' ρ G' σ H' → Stp G0 H0 G H → Stp G H G' H' → P G H G' H' d v → AftS X.K cl W G0 H0 G' D (k d ρ S') → M v H') : tX X.K cl P W c σ H M := by
  obtain ⟨G0, H0, S, ρ, G, R, h⟩ := h
  refine ⟨G0, H0, S, ρ, G, R, ?_⟩
  unfold sEx at h
  cases q : c ρ S with
  | ok d S' =>
    rw [q] at h
    exact fun v G' H' R' s p => hk G0 H0 S' ρ G d v G' H' R' R.stp s p (h.pre s.zle)
  | exc n S' =>
    rw [q] at h
    exact fun G' H' R' s => h G' σ H' R' s.zle
  | stuck => rw [q] at h; exact h
def sDrop (c : Ex) : Stm := sEx c fun _ ρ S => .nx ρ S
theorem ss_drop {P : Post D V} (he : PE X e (tX X.K cl P W c)) (hs : swapsWith e none pos.line X.env = pure false := by rfl) : SS X cl W (.Expr e pos) (sDrop c) := PS.weak (ps_expr he hs) fun D σ H h =>
  sEx_sem h fun G0 H0 S' ρ G d v G' H' R' s0 s p q => q G' σ H' R' (Zle.refl _)
def sRet (c : Ex) : Stm := sEx c fun d _ S => .rt (.fr d) S
def sRetN (c : Ex) : Stm := sEx c fun d _ S => .rt (.ow d) S
theorem ss_ret (he : SE X cl W e c) : SS X cl W (.Return (some e) pos) (sRet c) := PS.weak (ps_ret he) fun D σ H h =>
  sEx_sem h fun G0 H0 S' ρ G d v G' H' R' s0 s p q => q v _ H' R'.leave.1 out_only R'.leave.2 p
theorem ss_retN (he : SN X cl W e c) : SS X cl W (.Return (some e) pos) (sRetN c) := PS.weak (ps_ret he) fun D σ H h =>
  sEx_sem h fun G0 H0 S' ρ G d v G' H' R' s0 s p q => by
    obtain ⟨a, as, rfl, ⟨cc, n⟩, hn⟩ := p
    refine q a as _ H' R'.leave.1 out_only R'.leave.2 ⟨cc, fun b hb => ⟨?_, (n b hb).2⟩⟩ fun b hb => s0.dom b (hn b hb)
    cases e : G'.out.lab b with
    | none => rfl
    | some l => have := (out_some.mp e).1; rw [(n b hb).1] at this; cases this
def sRetV (i : Nat) : Stm := fun ρ S => match ρ[i]? with
  | some (.ow d) => .rt (.ow d) S
  | some (.fr d) => .rt (.fr d) S
  | _ => .stuck
theorem ss_retV {i : Nat} {x : Str} {p : Pos} (hv : PE X (.Name x p) (tVar i)) : SS X cl W (.Return (some (.Name x p)) pos) (sRetV i) := PS.weak (ps_ret hv) fun D σ H ⟨G0, H0, S, ρ, G, R, h⟩ => by
  cases q : ρ[i]? with
  | none => simp only [sRetV, q, AftS] at h
  | some s =>
    obtain ⟨o, ho, hs⟩ := R.slot i s q
    cases s with
    | fr d =>
      simp only [sRetV, q] at h
      obtain ⟨v, rfl, r⟩ := hs
      exact ⟨v, ho, h v _ H R.leave.1 out_only R.leave.2 r⟩
    | ow d =>
      simp only [sRetV, q] at h
      obtain ⟨v, rfl, a, as, rfl, cc, hl⟩ := hs
      refine ⟨_, ho, h a as _ H R.leave.1 out_only R.leave.2 ⟨cc, fun b hb => ⟨?_, (R.ok.labz b _ (hl b hb)).1⟩⟩ fun b hb => R.ownNew (hl b hb)⟩
      cases e : G.out.lab b with
      | none => rfl
      | some l =>
        have := out_some.mp e
        rw [hl b hb] at this
        obtain ⟨h1, h2⟩ := this
        cases h1
        simp [Lab.st] at h2
    | un => simp only [sRetV, q, AftS] at h
    | bo d => simp only [sRetV, q, AftS] at h
    | me d => simp only [sRetV, q, AftS] at h
def sIf (tc : Tx) (a b : Stm) : Stm := sEx tc fun k ρ S => if k = true then a ρ S else b ρ S
theorem ss_if {tc : Tx} {cnd : Expr} {a b : List Stmt} (hc : STt X cl W cnd tc) (ha : SSs X cl W a s1) (hb : SSs X cl W b s2) : SS X cl W (.If cnd a b pos) (sIf tc s1 s2) := PS.weak (ps_if hc ha hb) fun D σ H h =>
  sEx_sem (P := PT1) h fun G0 H0 S' ρ G d v G' H' R' s0 s p q => by
    cases (show v = d from p)
    cases d with
    | true => exact ⟨G0, H0, S', ρ, G', R', q⟩
    | false => exact ⟨G0, H0, S', ρ, G', R', q⟩
def sSet (i : Nat) (c : Ex) : Stm := sEx c fun d ρ S => .nx (ρ.set i (.fr d)) S
def sSetN (i : Nat) (c : Ex) : Stm := sEx c fun d ρ S => .nx (ρ.set i (.ow d)) S
theorem ss_set {i : Nat} {x : Str} {pos' : Pos} (hN : X.N.Nodup) (hi : X.N[i]? = some x) (hx : Loc X.env.scope x) (he : SE X cl W e c) (hs : swapsWith e (some (.Name x pos')) pos.line X.env = pure false := by rfl) (hf : X.fn x = true ∨ X.env.scope.names.lookup x = some .local := by first | exact .inl rfl | exact .inr rfl | assumption) : SS X cl W (.Assign [.Name x pos'] e pos) (sSet i c) := PS.weak (ps_set hN hi hx he hs hf) fun D σ H h =>
  sEx_sem (P := PF X.K cl) h fun G0 H0 S' ρ G d v G' H' R' s0 s p q => q G' _ H' (R'.setF i p) (Zle.refl _)
theorem ss_setN {i : Nat} {x : Str} {pos' : Pos} (hN : X.N.Nodup) (hi : X.N[i]? = some x) (hx : Loc X.env.scope x) (he : SN X cl W e c) (hs : swapsWith e (some (.Name x pos')) pos.line X.env = pure false := by rfl) (hf : X.fn x = true ∨ X.env.scope.names.lookup x = some .local := by first | exact .inl rfl | exact .inr rfl | assumption) : SS X cl W (.Assign [.Name x pos'] e pos) (sSetN i c) := PS.weak (ps_set hN hi hx he hs hf) fun D σ H h =>
  sEx_sem (P := PN X.K cl) h fun G0 H0 S' ρ G d v G' H' R' s0 s p q => by
    obtain ⟨a, as, rfl, n, hn⟩ := p
    exact q _ _ H' (R'.setN i n fun b hb => s0.dom b (hn b hb)) ⟨Same.refl _, ⟨[], by simp [Gh.own]⟩⟩
theorem sEx_at {α β : Type} {P : Post α β} {c : Env → Store → Res α} {k : α → Stm} {D : Ends} {G0 G : Gh} {H0 H : Hp} {S : Store} {ρ : Env} {σ : L2.St} {M : β → Hp → Prop} (R : Rel X.K cl G0 H0 S ρ G σ H) (h : AftS X.K cl W G0 H0 G D (sEx c k ρ S))
    (hk : ∀ S' d v G' H', Rel X.K cl G0 H0 S' ρ G' σ H' → Stp G H G' H' → P G H G' H' d v → AftS X.K cl W G0 H0 G' D (k d ρ S') → M v H') : tX X.K cl P W c σ H M := by
  refine ⟨G0, H0, S, ρ, G, R, ?_⟩
  unfold sEx at h
  cases q : c ρ S with
  | ok d S' =>
    rw [q] at h
    exact fun v G' H' R' s p => hk S' d v G' H' R' s p (h.pre s.zle)
  | exc n S' =>
    rw [q] at h
    exact fun G' H' R' s => h G' σ H' R' s.zle
  | stuck => rw [q] at h; exact h
def sAug (i : Nat) (f : D → D → Option D) (c : Ex) : Stm := fun ρ S => match ρ[i]? with
  | some (.fr d) => sEx c (fun e ρ S => match f d e with
    | some z => .nx (ρ.set i (.fr z)) S
    | none => .stuck) ρ S
  | _ => .stuck
def IpS (X : Cx) (cl : ClsP) (t : TIp) (f : D → D → Option D) : Prop := ∀ {G : Gh} {H : Hp} {x y : V} {d e z : D} {Q : VK}, Same G.Z H → RepG X.K cl G x d → RepV X.K cl G H y e → f d e = some z → (∀ v, RepG X.K cl G v z → Q v H) → t x y H Q
theorem ss_aug {i : Nat} {x : Str} {op : Operator} {pos' : Pos} {t : TIp} {f : D → D → Option D} (hN : X.N.Nodup) (hi : X.N[i]? = some x) (hx : Loc X.env.scope x) (he : SB X cl W e c) (hp : PIp X op t) (ht : IpS X cl t f) (hf : X.fn x = true ∨ X.env.scope.names.lookup x = some .local := by first | exact .inl rfl | exact .inr rfl | assumption) : SS X cl W (.AugAssign (.Name x pos') op e pos) (sAug i f c) := PS.weak (ps_aug hN hi hx he hp hf) fun D σ H ⟨G0, H0, S, ρ, G, R, h⟩ => by
  cases q : ρ[i]? with
  | none => simp only [sAug, q, AftS] at h
  | some s =>
    obtain ⟨o, ho, hs⟩ := R.slot i s q
    cases s with
    | fr d =>
      simp only [sAug, q] at h
      obtain ⟨v, rfl, r⟩ := hs
      refine ⟨v, ho, sEx_at (P := PB X.K cl) R h fun S' e y G' H' R' s p q2 => ?_⟩
      cases q3 : f d e with
      | none => rw [q3] at q2; exact q2.elim
      | some z =>
        rw [q3] at q2
        exact ht R'.ok.zsub (RepG.stp s r) (RepT.vw p) q3 fun v' r' => q2 G' _ H' (R'.setF i r') (Zle.refl _)
    | _ => simp only [sAug, q, AftS] at h
def ipAdd : D → D → Option D := oI0 fun i j => .int (i + j)
theorem is_add : IpS X cl (ipI fun i j => i + j) ipAdd := fun {G H x y d e z Q} zs r p q k => by
  obtain ⟨i, j, rfl, rfl, rfl⟩ := oI0_some _ _ _ q
  cases r
  exact ⟨i, j, rfl, p.int, k _ (.int _)⟩
theorem is_sub : IpS X cl (ipI fun i j => i - j) oSub := fun {G H x y d e z Q} zs r p q k => by
  obtain ⟨i, j, rfl, rfl, rfl⟩ := oI0_some _ _ _ q
  cases r
  exact ⟨i, j, rfl, p.int, k _ (.int _)⟩
end
end PM
set_option maxHeartbeats 1000000
namespace PM
open PySem PySem.Spec PyProof.Rows L2

section
variable {X : Cx} {cl : ClsP} {W : WX} {e : Expr} {c : Ex} {pos : Pos} {st : Stmt} {rest : List Stmt} {s1 s2 : Stm} {es : List Expr}

def LmS (X : Cx) (cl : ClsP) (bm : List Bool) (r : V → List V → Hp → VK → Prop) (f : List D → List D → Option (List D)) : Prop :=
  ∀ {G : Gh} {H : Hp} {a : Addr} {vs xs : List V} {ds es ds' : List D} {Q : VK}, Same G.Z H → H a = some (.lst vs) → RepAll X.K cl G.mu G.Z vs ds → ArgsOk X.K cl G H bm xs es → f ds es = some ds' →
    (∀ vs', RepAll X.K cl G.mu G.Z vs' ds' → Q .non (upd H a (.lst vs'))) → r (.ref a) xs H Q
def sLm (i : Nat) (f : List D → List D → Option (List D)) (ca : Ax) : Stm := fun ρ S => match ρ[i]? with
  | some (.ow (.lst ds)) => sEx ca (fun es ρ S => match f ds es with
    | some ds' => .nx (ρ.set i (.ow (.lst ds'))) S
    | none => .stuck) ρ S
  | _ => .stuck
theorem OwnAt.lst {K : PySem.W.Frag} {G : Gh} {H : Hp} {l : Lab} {v : V} {ds : List D} (h : OwnAt K cl G H l v (.lst ds)) : ∃ a vs, v = .ref a ∧ H a = some (.lst vs) ∧ RepAll K cl G.mu G.Z vs ds ∧ G.lab a = some l := by
  obtain ⟨a, as, rfl, c, hl⟩ := h
  cases c with
  | lst h1 r => exact ⟨a, _, rfl, h1, r, hl a (by simp)⟩
theorem OwnAt.dic {K : PySem.W.Frag} {G : Gh} {H : Hp} {l : Lab} {v : V} {ds : List (Key × D)} (h : OwnAt K cl G H l v (.dic ds)) : ∃ a vs, v = .ref a ∧ H a = some (.dK vs) ∧ RepK K cl G.mu G.Z vs ds ∧ G.lab a = some l := by
  obtain ⟨a, as, rfl, c, hl⟩ := h
  cases c with
  | dic h1 r => exact ⟨a, _, rfl, h1, r, hl a (by simp)⟩
theorem ss_lm {i : Nat} {x name : Str} {p apos cpos : Pos} {id : String} {r : V → List V → Hp → VK → Prop} {bm : List Bool} {f : List D → List D → Option (List D)} {ca : Ax} (slot : PySem.Slot "list" name id) (hty : typeOf (.builtin id) = pure (.type "method_descriptor")) (hm : MtR X id r) (hs : LmS X cl bm r f) (hv : PE X (.Name x p) (tVar i)) (ha : SA X cl W bm (e :: es) ca)
    (hbase : attributeBase (.Name x p) name X.env (eval (.Name x p) X.env) = eval (.Name x p) X.env := by rfl)
    (hfew : ((backTo cpos (starEach (e :: es) X.env)).all (fun x => !x.1) && (backToKw cpos (keywordEach [] X.env)).all (fun x => x.1.isSome)
      && decide ((e :: es).length + ([] : List Keyword).length + (if ([] : List Keyword).isEmpty then 0 else 1) < 30)) = true := by rfl)
    (hline : (apos.endLine == cpos.line) = true := by rfl) (hst : starEach (e :: es) X.env = (false, eval e X.env) :: starEach es X.env := by rfl) (hplain : (backTo cpos (starEach es X.env)).any (·.1) = false := by rfl)
    (hsw : swapsWith (.Call (.Attribute (.Name x p) name apos) (e :: es) [] cpos) none pos.line X.env = pure false := by rfl) : SS X cl W (.Expr (.Call (.Attribute (.Name x p) name apos) (e :: es) [] cpos) pos) (sLm i f ca) :=
  PS.weak (ps_expr (pe_bm PySem.F.plainAttrs_list slot hty hm hv ha hbase hfew hline hst hplain) hsw) fun D σ H ⟨G0, H0, S, ρ, G, R, h⟩ => by
    unfold sLm at h
    split at h
    · rename_i ds q
      obtain ⟨o, ho, v, rfl, ow⟩ := R.slot i _ q
      obtain ⟨a, vs, rfl, h1, r1, l1⟩ := ow.lst
      refine ⟨_, ho, .inl ⟨rfl, vs, .inl (.inl h1)⟩, sEx_at (P := PA1 X.K cl bm) R h fun S' es xs G' H' R' s p q2 => ?_⟩
      obtain ⟨o', ho', v', rfl, ow'⟩ := R'.slot i _ q
      rw [ho] at ho'
      cases ho'
      obtain ⟨a', vs', e', h1', r1', l1'⟩ := ow'.lst
      cases e'
      cases q3 : f ds es with
      | none => rw [q3] at q2; exact q2.elim
      | some ds' =>
        rw [q3] at q2
        exact hs R'.ok.zsub h1' r1' p q3 fun vs' r' => q2 G' σ _ (R'.write (as := [a]) ho (fun b hb => by simp at hb; subst hb; exact l1') (by simp) (.lst upd_same r')) (Zle.refl _)
    · exact h.elim
def lAppend : List D → List D → Option (List D)
  | ds, [d] => if ds.length < 1000000 then some (ds ++ [d]) else none
  | _, _ => none
theorem ArgsOk.oneF {K : PySem.W.Frag} {G : Gh} {H : Hp} {vs : List V} {d : D} (h : ArgsOk K cl G H [false] vs [d]) : ∃ v, vs = [v] ∧ RepG K cl G v d := by
  cases h with
  | fr h t => cases t; exact ⟨_, rfl, h⟩
theorem lm_append : LmS X cl [false] rAppend lAppend := fun {G H a vs xs ds es ds' Q} zs h1 r p q k => by
  unfold lAppend at q
  split at q
  · split at q
    · cases q
      rename_i hz
      obtain ⟨v, rfl, rv⟩ := p.oneF
      exact ⟨a, vs, v, rfl, rfl, h1, by rw [r.length]; exact lim_lt hz, k _ (r.append (.cons rv .nil))⟩
    · cases q
  · cases q
def D.key : D → Option Key
  | .int i => some (.inl i)
  | .str x => some (.inr x)
  | _ => none
theorem RepV.key {K : PySem.W.Frag} {G : Gh} {H : Hp} {v : V} {d : D} {k : Key} (h : RepV K cl G H v d) (e : d.key = some k) : v = kV k := by
  cases d <;> simp only [D.key, reduceCtorEq] at e <;> cases e
  · exact h.int
  · exact h.str
theorem RepT.key {K : PySem.W.Frag} {G : Gh} {H : Hp} {v : V} {d : D} {k : Key} (h : RepT K cl G H v d) (e : d.key = some k) : v = kV k := RepV.key h.vw e
def putD (ds : List (Key × D)) (k : Key) (d : D) : List (Key × D) := if (ds.any fun kv => decide (kv.1 = k)) = true then ds.map (fun kv => if kv.1 = k then (kv.1, d) else kv) else ds ++ [(k, d)]
def hasD (ds : List (Key × D)) (k : Key) : Bool := ds.any fun kv => decide (kv.1 = k)
theorem RepK.any {K : PySem.W.Frag} {mu : List Addr} {Z : Hp} {k : Key} : ∀ {vs : List (Key × V)} {ds : List (Key × D)}, RepK K cl mu Z vs ds → (vs.any fun kv => decide (kv.1 = k)) = (ds.any fun kv => decide (kv.1 = k))
  | _, _, .nil => rfl
  | _, _, .cons r t => by rw [List.any_cons, List.any_cons, RepK.any t]
theorem RepK.append {K : PySem.W.Frag} {mu : List Addr} {Z : Hp} : ∀ {vs ws : List (Key × V)} {ds es : List (Key × D)}, RepK K cl mu Z vs ds → RepK K cl mu Z ws es → RepK K cl mu Z (vs ++ ws) (ds ++ es)
  | _, _, _, _, .nil, t => t
  | _, _, _, _, .cons r s, t => .cons r (RepK.append s t)
theorem RepK.mapPut {K : PySem.W.Frag} {mu : List Addr} {Z : Hp} {k : Key} {v : V} {d : D} (rv : Rep K cl mu Z v d) : ∀ {vs : List (Key × V)} {ds : List (Key × D)}, RepK K cl mu Z vs ds → RepK K cl mu Z (vs.map fun kv => if kv.1 = k then (kv.1, v) else kv) (ds.map fun kv => if kv.1 = k then (kv.1, d) else kv)
  | _, _, .nil => .nil
  | _, _, @RepK.cons _ _ _ _ k' v' vs d' ds r t => by
    rw [List.map_cons, List.map_cons]
    by_cases h : k' = k
    · rw [if_pos h, if_pos h]; exact .cons rv (RepK.mapPut rv t)
    · rw [if_neg h, if_neg h]; exact .cons r (RepK.mapPut rv t)
theorem RepK.put {K : PySem.W.Frag} {mu : List Addr} {Z : Hp} {k : Key} {v : V} {d : D} (rv : Rep K cl mu Z v d) {vs : List (Key × V)} {ds : List (Key × D)} (r : RepK K cl mu Z vs ds) : RepK K cl mu Z (putK vs k v) (putD ds k d) := by
  unfold putK putD
  rw [r.any]
  split
  · exact r.mapPut rv
  · exact r.append (.cons rv .nil)
theorem RepK.val {K : PySem.W.Frag} {mu : List Addr} {Z : Hp} {k : Key} : ∀ {vs : List (Key × V)} {ds : List (Key × D)}, RepK K cl mu Z vs ds → (valV vs k).isSome = hasD ds k
  | _, _, .nil => rfl
  | _, _, @RepK.cons _ _ _ _ k' v' vs d' ds r t => by
    have ih := RepK.val (k := k) t
    unfold valV hasD at ih ⊢
    rw [List.find?_cons, List.any_cons]
    by_cases h : k' = k
    · simp [h]
    · rw [decide_eq_false h]
      simpa using ih
section
variable {a b : Expr} {ca cb : Ex}
end
end
end PM
set_option maxHeartbeats 1000000
namespace PM
open PySem PySem.Spec PyProof.Rows L2

section
variable {K : PySem.W.Frag} {cl : ClsP} {W : WX} {G0 G G' G1 : Gh} {H0 H H' H1 : Hp} {S S' : Store} {ρ ρ' : Env} {σ : L2.St} {v : V} {d : D} {a : Addr} {as : List Addr} {i : Nat}
theorem Rel.step (R : Rel K cl G0 H0 S ρ G σ H) (s : Stp G H G' H') (ok : GOk K cl S' G' H') : Rel K cl G0 H0 S' ρ G' σ H' :=
  ⟨ok, R.len, fun i sl e => by
    obtain ⟨o, h1, h2⟩ := R.slot i sl e
    exact ⟨o, h1, h2.mono (fun b hb o ho => s.keep b o ho fun l hl => by rw [hb] at hl; cases hl; rfl) s.z (fun b hb => s.lab b _ hb) s.mu⟩, R.stp.trans s, R.s0⟩
theorem Rel.poke (R : Rel K cl G0 H0 S ρ G σ H) (h1 : G.lab a = none) (h2 : G.Z a = none) (h3 : H0 a = none) (h4 : ∃ o, H a = some o) (o : HO) : Rel K cl G0 H0 S ρ G σ (upd H a o) := by
  have oth : ∀ b l, G.lab b = some l → ∀ o', H b = some o' → upd H a o b = some o' := fun b l e o' ho => by
    rw [upd_ne fun q => by subst q; rw [h1] at e; cases e]
    exact ho
  refine ⟨⟨fun b o' e => ?_, fun b l e => ?_, fun n c e => (R.ok.st n c e).mono (fun b l e _ o' ho => oth b l e o' ho) (Same.refl _) (fun _ _ e _ => e) ⟨[], by simp⟩, R.ok.stn⟩, R.len, fun i s e => ?_, ⟨R.stp.z, R.stp.lab, fun b o' e hs => ?_, R.stp.labn, R.stp.zn, R.stp.mu, fun b e => ?_⟩, R.s0⟩
  · rw [upd_ne fun q => by subst q; rw [h2] at e; cases e]
    exact R.ok.zsub b o' e
  · obtain ⟨q1, o', q2⟩ := R.ok.labz b l e
    exact ⟨q1, o', oth b l e o' q2⟩
  · obtain ⟨o', q1, q2⟩ := R.slot i s e
    exact ⟨o', q1, q2.mono (fun b hb o' ho => oth b _ hb o' ho) (Same.refl _) (fun _ e => e) ⟨[], by simp⟩⟩
  · rw [upd_ne fun q => by subst q; rw [h3] at e; cases e]
    exact R.stp.keep b o' e hs
  · by_cases q : b = a
    · subst q; exact h3
    · rw [upd_ne q] at e; exact R.stp.dom b e
theorem Stp.poke (s : Stp G H G' H') (h : H a = none) (o : HO) : Stp G H G' (upd H' a o) :=
  ⟨s.z, s.lab, fun b o' e hs => by rw [upd_ne fun q => by subst q; rw [h] at e; cases e]; exact s.keep b o' e hs, s.labn, s.zn, s.mu, fun b e => by
    by_cases q : b = a
    · subst q; exact h
    · rw [upd_ne q] at e; exact s.dom b e⟩

structure IterOk (K : PySem.W.Frag) (cl : ClsP) (J : It) (ds : List D) (G0 : Gh) (H0 : Hp) (G : Gh) : Prop where
  go : ∀ S ρ G' σ H i d, Rel K cl G0 H0 S ρ G' σ H → Zle G G' → ds[i]? = some d → J.go i H ∧ ∀ x H2, J.yld i H x H2 → H2 = H ∧ RepG K cl G' x d
  stop : ∀ S ρ G' σ H, Rel K cl G0 H0 S ρ G' σ H → Zle G G' → J.stop ds.length H
abbrev Ix := Env → Store → Res (List D)
def tI (K : PySem.W.Frag) (cl : ClsP) (W : WX) (c : Ix) : TI := fun σ H R => ∃ (G0 : Gh) (H0 : Hp) (S : Store) (ρ : Env) (G : Gh), Rel K cl G0 H0 S ρ G σ H ∧
  match c ρ S with
  | .ok ds S' => ∀ J G' H', Rel K cl G0 H0 S' ρ G' σ H' → Stp G H G' H' → IterOk K cl J ds G0 H0 G' → R J H'
  | .exc n S' => ∀ G' H', Rel K cl G0 H0 S' ρ G' σ H' → Stp G H G' H' → W (.ref (cl n)) none σ H'
  | .stuck => False
end
abbrev SI (X : Cx) (cl : ClsP) (W : WX) (tg e : Expr) (c : Ix) : Prop := PI X tg e (tI X.K cl W c)
theorem PI.weak {X : Cx} {tg e : Expr} {t t' : TI} (h : PI X tg e t) (w : ∀ σ H R, t' σ H R → t σ H R) : PI X tg e t' := ⟨fun pins s σ H R I q => h.run pins s σ H R I (w σ H R q)⟩

section
variable {X : Cx} {cl : ClsP} {W : WX} {e tg : Expr} {c ca cb : Ex} {pos : Pos} {st : Stmt} {rest : List Stmt} {s1 s2 : Stm} {es : List Expr}
theorem iter_list {K : PySem.W.Frag} {G0 G : Gh} {H0 : Hp} {a : Addr} {vs : List V} {ds : List D} (h : ∀ S ρ G' σ H, Rel K cl G0 H0 S ρ G' σ H → Zle G G' → SqL K H a vs) (r : RepAll K cl G.mu G.Z vs ds)
    : IterOk K cl (Itl K a) ds G0 H0 G where
  go := fun S ρ G' σ H i d R z e => by
    obtain ⟨v, hv, rv⟩ := r.get e
    refine ⟨⟨vs, v, h S ρ G' σ H R z, hv⟩, fun x H2 y => ⟨y.1, ?_⟩⟩
    have hx := y.2 vs (h S ρ G' σ H R z)
    rw [hv] at hx
    cases hx
    exact Rep.mono z.z z.mu _ _ rv
  stop := fun S ρ G' σ H R z => ⟨vs, h S ρ G' σ H R z, by rw [r.length]; exact Nat.le_refl _⟩
def iL (ca : Ex) : Ix := fun ρ S => (ca ρ S).bind fun d S => match d with
  | .lst ds => .ok ds S
  | .scr ns => .ok (ns.map .int) S
  | _ => .stuck
theorem si_list (ha : SE X cl W e ca) : SI X cl W tg e (iL ca) := PI.weak (pi_list ha) fun σ H Rr ⟨G0, H0, S, ρ, G, R, h⟩ => by
  refine ⟨G0, H0, S, ρ, G, R, ?_⟩
  unfold iL at h
  cases q : ca ρ S with
  | ok d S' =>
    rw [q] at h
    intro v G' H' R' s p
    cases d <;> simp only [Res.bind] at h
    · rename_i ds
      cases p with
      | lst hs ra =>
        rename_i a vs
        exact ⟨a, rfl, ⟨vs, .inl (.inl (R'.ok.zsub _ _ hs))⟩, h (Itl X.K a) G' H' R' s (iter_list (vs := vs) (fun S ρ G'' σ H'' R'' z => .inl (.inl (R''.ok.zsub _ _ (z.z _ _ hs)))) ra)⟩
    · rename_i ns
      cases p with
      | scr hs =>
        rename_i a
        exact ⟨a, rfl, ⟨_, R'.ok.zsub.seq hs⟩, h (Itl X.K a) G' H' R' s (iter_list (vs := ns.map V.int) (fun S ρ G'' σ H'' R'' z => (z.z.trans R''.ok.zsub).seq hs) (RepAll.ints ns))⟩
  | exc n S' => rw [q] at h; exact h
  | stuck => rw [q] at h; exact h
def iB (i : Nat) : Ix := fun ρ S => match ρ[i]? with
  | some (.fr (.lst ds)) => .ok ds S
  | some (.bo (.lst ds)) => .ok ds S
  | some (.fr (.scr ns)) => .ok (ns.map .int) S
  | some (.bo (.scr ns)) => .ok (ns.map .int) S
  | _ => .stuck
theorem bor_sem {i : Nat} {σ : L2.St} {H : Hp} {Rr : It → Hp → Prop} (h0 : tI X.K cl W (iB i) σ H Rr) : iList X.K (tVar i) σ H Rr := by
  obtain ⟨G0, H0, S, ρ, G, R, h⟩ := h0
  have lists : ∀ ds v, σ[i]? = some (some v) → RepG X.K cl G v (.lst ds) → (∀ J G' H', Rel X.K cl G0 H0 S ρ G' σ H' → Stp G H G' H' → IterOk X.K cl J ds G0 H0 G' → Rr J H') → iList X.K (tVar i) σ H Rr := fun ds v ho r k => by
    cases r with
    | lst hs ra =>
      rename_i a vs
      exact ⟨_, ho, a, rfl, ⟨vs, .inl (.inl (R.ok.zsub _ _ hs))⟩, k (Itl X.K a) G H R (Stp.refl _ _) (iter_list (vs := vs) (fun S ρ G'' σ H'' R'' z => .inl (.inl (R''.ok.zsub _ _ (z.z _ _ hs)))) ra)⟩
  have scrs : ∀ ns v, σ[i]? = some (some v) → RepG X.K cl G v (.scr ns) → (∀ J G' H', Rel X.K cl G0 H0 S ρ G' σ H' → Stp G H G' H' → IterOk X.K cl J (ns.map .int) G0 H0 G' → Rr J H') → iList X.K (tVar i) σ H Rr := fun ns v ho r k => by
    cases r with
    | scr hs =>
      rename_i a
      exact ⟨_, ho, a, rfl, ⟨_, R.ok.zsub.seq hs⟩, k (Itl X.K a) G H R (Stp.refl _ _) (iter_list (vs := ns.map V.int) (fun S ρ G'' σ H'' R'' z => (z.z.trans R''.ok.zsub).seq hs) (RepAll.ints ns))⟩
  unfold iB at h
  cases q : ρ[i]? with
  | none => rw [q] at h; exact h.elim
  | some s =>
    obtain ⟨o, ho, hs⟩ := R.slot i s q
    rw [q] at h
    cases s with
    | un => exact h.elim
    | ow d => exact h.elim
    | me d => exact h.elim
    | fr d =>
      obtain ⟨v, rfl, r⟩ := hs
      cases d <;> simp only at h
      · exact lists _ v ho r h
      · exact scrs _ v ho r h
    | bo d =>
      obtain ⟨v, rfl, r⟩ := hs
      rcases r with r | ⟨a, as, rfl, cc, hl⟩
      · cases d <;> simp only at h
        · exact lists _ v ho r h
        · exact scrs _ v ho r h
      · cases d <;> simp only at h
        · rename_i ds
          cases cc with
          | lst h1 ra =>
            rename_i vs
            have ln : ∀ l, G0.lab a = some l → l.st = false := fun l e => by rw [hl a (by simp)] at e; cases e
            exact ⟨_, ho, a, rfl, ⟨vs, .inl (.inl (R.stp.keep _ _ h1 ln))⟩, h (Itl X.K a) G H R (Stp.refl _ _) (iter_list (vs := vs) (fun S ρ G'' σ H'' R'' z => .inl (.inl (R''.stp.keep _ _ h1 ln))) ra)⟩
        · cases cc
theorem si_bor {i : Nat} {x : Str} {p : Pos} (hv : PE X (.Name x p) (tVar i)) : SI X cl W tg (.Name x p) (iB i) := PI.weak (pi_list hv) fun σ H Rr h => bor_sem h
def iS (ca : Ex) : Ix := fun ρ S => (ca ρ S).bind fun d S => match d with
  | .str x => .ok (x.cps.toList.map fun c => .str ⟨#[c]⟩) S
  | _ => .stuck
theorem si_str (ha : SB X cl W e ca) : SI X cl W tg e (iS ca) := PI.weak (pi_str ha) fun σ H Rr ⟨G0, H0, S, ρ, G, R, h⟩ => by
  refine ⟨G0, H0, S, ρ, G, R, ?_⟩
  unfold iS at h
  cases q : ca ρ S with
  | ok d S' =>
    rw [q] at h
    intro v G' H' R' s p
    cases d <;> simp only [Res.bind] at h
    rename_i x
    refine ⟨x, RepT.str p, h (Its x) G' H' R' s ⟨fun S ρ G'' σ H'' i d R'' z e => ?_, fun S ρ G'' σ H'' R'' z => ?_⟩⟩
    · rw [List.getElem?_map] at e
      cases q2 : x.cps.toList[i]? with
      | none => rw [q2] at e; cases e
      | some cc =>
        rw [q2] at e
        cases e
        have hlt : i < x.cps.size := by rw [← Array.length_toList]; exact (List.getElem?_eq_some_iff.mp q2).1
        refine ⟨hlt, fun y H2 hy => ⟨hy.1, ?_⟩⟩
        obtain ⟨c', h1, h2⟩ := hy.2
        rw [Array.getElem?_toList] at q2
        rw [q2] at h1
        cases h1
        subst h2
        exact .str _
    · show x.cps.size ≤ _
      rw [List.length_map, Array.length_toList]
      exact Nat.le_refl _
  | exc n S' => rw [q] at h; exact h
  | stuck => rw [q] at h; exact h
def rngD (lo : Int) (n : Nat) : List D := (List.range n).map fun (k : Nat) => .int (lo + (k : Int))
theorem iter_rng {K : PySem.W.Frag} {G0 G : Gh} {H0 : Hp} {lo : Int} {n : Nat} : IterOk K cl (Itr lo n) (rngD lo n) G0 H0 G where
  go := fun S ρ G' σ H i d R z e => by
    unfold rngD at e
    rw [List.getElem?_map] at e
    by_cases hi : i < n
    · rw [List.getElem?_range hi] at e
      cases e
      refine ⟨hi, fun x H2 y => ⟨y.1, ?_⟩⟩
      rw [y.2]
      exact .int _
    · rw [List.getElem?_eq_none (by simpa using hi)] at e
      cases e
  stop := fun S ρ G' σ H R z => by
    show n ≤ (rngD lo n).length
    unfold rngD
    rw [List.length_map, List.length_range]
    exact Nat.le_refl _
def fR1 : List D → Option (List D)
  | [.int j] => if -1000000000 ≤ j ∧ j ≤ 1000000000 then some (rngD 0 j.toNat) else none
  | _ => none
theorem fR1_some {ds zs : List D} (h : fR1 ds = some zs) : ∃ j, ds = [.int j] ∧ (-1000000000 ≤ j ∧ j ≤ 1000000000) ∧ zs = rngD 0 j.toNat := by
  unfold fR1 at h
  split at h
  · split at h
    · cases h
      exact ⟨_, rfl, by assumption, rfl⟩
    · cases h
  · cases h
def iFn (f : List D → Option (List D)) (ca : Ax) : Ix := fun ρ S => (ca ρ S).bind fun ds S => Res.opt (f ds) S
abbrev iR1 := iFn fR1
theorem si_range1 {a : Expr} {ax : Ax} {p : Pos} (hg : Gl X "range") (hm : X.mg "range" = none) (ha : SA X cl W [true] [a] ax) (hs : starEach [a] X.env = [(false, eval a X.env)] := by rfl) : SI X cl W tg (.Call (.Name "range" p) [a] [] pos) (iR1 ax) := PI.weak (pi_range1 hg hm ha hs) fun σ H Rr ⟨G0, H0, S, ρ, G, R, h⟩ => by
  refine ⟨G0, H0, S, ρ, G, R, ?_⟩
  unfold iR1 iFn at h
  cases q : ax ρ S with
  | ok ds S' =>
    rw [q] at h
    intro vs G' H' R' s p
    simp only [Res.bind] at h
    cases q2 : fR1 ds with
    | none => rw [q2] at h; exact h.elim
    | some zs =>
      rw [q2] at h
      obtain ⟨j, rfl, hz, rfl⟩ := fR1_some q2
      obtain ⟨v, rfl, rv⟩ := ArgsOk.one p
      exact ⟨j, by rw [rv.int], by have := hz.1; omega, by have := hz.2; omega, h _ G' H' R' s iter_rng⟩
  | exc n S' => rw [q] at h; exact h
  | stuck => rw [q] at h; exact h
abbrev Tgt := D → Env → Option Env
def TgS (X : Cx) (cl : ClsP) (g : TG) (tg : Tgt) : Prop :=
  ∀ {G0 : Gh} {H0 : Hp} {S : Store} {ρ ρ' : Env} {G : Gh} {σ : L2.St} {H : Hp} {x : V} {d : D} {Q : L2.St → Hp → Prop}, Rel X.K cl G0 H0 S ρ G σ H → RepG X.K cl G x d → tg d ρ = some ρ' → (∀ σ', Rel X.K cl G0 H0 S ρ' G σ' H → Q σ' H) → g x σ H Q
def gN (i : Nat) : Tgt := fun d ρ => some (ρ.set i (.fr d))
theorem tg_name {i : Nat} : TgS X cl (gName i) (gN i) := fun R r e k => by
  cases e
  exact k _ (R.setF i r)
def forS (tg : Tgt) (body : Stm) : List D → Stm
  | [] => sNx
  | d :: ds => fun ρ S => match tg d ρ with
    | none => .stuck
    | some ρ1 => match body ρ1 S with
      | .nx ρ' S' => forS tg body ds ρ' S'
      | .ct ρ' S' => forS tg body ds ρ' S'
      | .bk ρ' S' => .nx ρ' S'
      | .rt v S' => .rt v S'
      | .exc n ρ' S' => .exc n ρ' S'
      | .stuck => .stuck
def sFor (ci : Ix) (tg : Tgt) (body : Stm) : Stm := sEx ci fun ds ρ S => forS tg body ds ρ S
theorem ss_for {iter : Expr} {body : List Stmt} {g : TG} {gt : Tgt} {ci : Ix} {cb : Stm} (hp : PassesOwn (model X.prog X.w) X.A X.env X.xe) (hc : X.calm = true) (hi : SI X cl W tg iter ci) (hg : PG X tg g) (hgs : TgS X cl g gt) (hb : SSs X cl W body cb)
    (hs : ∀ x, foldedSetIterable iter X.env x = pure x := by intro _; rfl) : SS X cl W (.For tg iter body [] pos) (sFor ci gt cb) := PS.weak (ps_for hp hc hi hg hb hs) fun D σ H ⟨G0, H0, S, ρ, G, R, h⟩ => by
  refine ⟨G0, H0, S, ρ, G, R, ?_⟩
  unfold sFor sEx at h
  cases q : ci ρ S with
  | exc n S' => rw [q] at h; exact fun G' H' R' s => h G' σ H' R' s.zle
  | stuck => rw [q] at h; exact h
  | ok ds S1 =>
    rw [q] at h
    intro J G1 H1 R1 s1 it
    refine ⟨fun i m σ H => ∃ (S : Store) (ρ : Env) (G : Gh), Rel X.K cl G0 H0 S ρ G σ H ∧ Zle G1 G ∧ m = ds.length - i ∧ i ≤ ds.length ∧ AftS X.K cl W G0 H0 G D (forS gt cb (ds.drop i) ρ S), ⟨_, S1, ρ, G1, R1, Zle.refl _, rfl, Nat.zero_le _, by rw [List.drop_zero]; exact h.pre s1.zle⟩, ?_⟩
    rintro i m σ H ⟨S, ρ, G, R, z, rfl, hi, h⟩
    by_cases hlt : i < ds.length
    · right
      have hd : ds[i]? = some ds[i] := List.getElem?_eq_getElem hlt
      obtain ⟨go, yl⟩ := it.go S ρ G σ H i _ R z hd
      rw [List.drop_eq_getElem_cons hlt] at h
      refine ⟨go, fun σ H => ∃ (S : Store) (ρ : Env) (G : Gh), Rel X.K cl G0 H0 S ρ G σ H ∧ Zle G1 G ∧ AftS X.K cl W G0 H0 G D (forS gt cb (ds.drop (i + 1)) ρ S), fun σ' H' ⟨S', ρ', G', R', z', h'⟩ => ⟨ds.length - (i + 1), by omega, S', ρ', G', R', z', rfl, hlt, h'⟩, fun x H2 y => ?_⟩
      obtain ⟨rfl, rx⟩ := yl x H2 y
      unfold forS at h
      cases qt : gt ds[i] ρ with
      | none => simp only [qt, AftS] at h
      | some ρ1 =>
        simp only [qt] at h
        refine hgs R rx qt fun σ2 R2 => ⟨G0, H0, S, ρ1, G, R2, ?_⟩
        cases qb : cb ρ1 S with
        | nx ρ' S' => simp only [qb] at h; exact fun G' σ' H' R' z' => ⟨S', ρ', G', R', z.trans z', h.pre z'⟩
        | ct ρ' S' => simp only [qb] at h; exact fun G' σ' H' R' z' => ⟨S', ρ', G', R', z.trans z', h.pre z'⟩
        | bk ρ' S' => simp only [qb] at h; exact fun G' σ' H' R' z' => h G' σ' H' R' z'
        | rt v S' => simp only [qb] at h; exact h
        | exc n ρ' S' => simp only [qb] at h; exact h
        | stuck => simp only [qb] at h; exact h
    · left
      have e : i = ds.length := by omega
      subst e
      rw [List.drop_length] at h
      exact ⟨it.stop S ρ G σ H R z, h G σ H R (Zle.refl _)⟩

def wipeE (ρ : Env) : List Nat → Env
  | [] => ρ
  | v :: vs => (wipeE ρ vs).set v .un
theorem Rel.wipe {K : PySem.W.Frag} {G0 G : Gh} {H0 H : Hp} {S : Store} {ρ : Env} {σ : L2.St} (R : Rel K cl G0 H0 S ρ G σ H) : ∀ vs : List Nat, Rel K cl G0 H0 S (wipeE ρ vs) G (L2.wipe σ vs) H
  | [] => R
  | v :: vs => (Rel.wipe R vs).setU v none
theorem wipe_set {i : Nat} {o : Option V} : ∀ {vs : List Nat} {σ : L2.St}, i ∈ vs → L2.wipe (σ.set i o) vs = L2.wipe σ vs
  | v :: vs, σ, h => by
    unfold L2.wipe
    by_cases hv : i ∈ vs
    · rw [wipe_set hv]
    · have e : i = v := by simpa [hv] using h
      subst e
      have comm : ∀ (us : List Nat) (σ : L2.St), i ∉ us → L2.wipe (σ.set i o) us = (L2.wipe σ us).set i o := fun us => by
        induction us with
        | nil => intro σ _; rfl
        | cons u us ih =>
          intro σ hu
          unfold L2.wipe
          rw [ih σ fun q => hu (List.mem_cons_of_mem _ q), List.set_comm _ _ (show i ≠ u from fun q => hu (by simp [q]))]
      rw [comm vs σ hv, List.set_set]
theorem wipe_wipe : ∀ (us : List Nat) (vs : List Nat) (σ : L2.St), (∀ u ∈ us, u ∈ vs) → L2.wipe (L2.wipe σ us) vs = L2.wipe σ vs
  | [], vs, σ, _ => rfl
  | u :: us, vs, σ, h => by
    show L2.wipe ((L2.wipe σ us).set u none) vs = _
    rw [wipe_set (h u (by simp)), wipe_wipe us vs σ fun x hx => h x (List.mem_cons_of_mem _ hx)]
def lcS (tg : Tgt) (tt : Tx) (elt : Ex) (ρ : Env) : List D → List D → Store → Res D
  | [], acc, S => .ok (.lst acc) S
  | d :: ds, acc, S => match tg d ρ with
    | none => .stuck
    | some ρ1 => match tt ρ1 S with
      | .ok k S => if k = true then (match elt ρ1 S with
          | .ok y S => if acc.length < 1000000 then lcS tg tt elt ρ ds (acc ++ [y]) S else .stuck
          | _ => .stuck) else lcS tg tt elt ρ ds acc S
      | _ => .stuck
def eLc (own : List Nat) (ci : Ix) (tg : Tgt) (tt : Tx) (elt : Ex) : Ex := fun ρ S => (ci ρ S).bind fun ds S => lcS tg tt elt (wipeE ρ own) ds [] S
def tYesD : Tx := fun _ S => .ok true S
abbrev W0 : WX := fun _ _ _ _ => False
abbrev STs (X : Cx) (cl : ClsP) (W : WX) (ifs : List Expr) (c : Tx) : Prop := PTs X ifs (tX X.K cl PT1 W c)
theorem sts_nil : STs X cl W [] tYesD := ⟨fun pins s σ H Q I ⟨G0, H0, S, ρ, G, R, h⟩ => pts_nil.run pins s σ H Q I (h true G H R (Stp.refl _ _) rfl)⟩
def TgO (g : TG) (own : List Nat) : Prop := ∀ x σ H (Q Q' : L2.St → Hp → Prop), g x σ H Q → (∀ σ' H', Q σ' H' → H' = H → L2.wipe σ' own = L2.wipe σ own → Q' σ' H') → g x σ H Q'
theorem tgo_name {i : Nat} {own : List Nat} (h : i ∈ own) : TgO (gName i) own := fun x σ H Q Q' q k => k _ _ q rfl (wipe_set h)
theorem lc_sem {G0 : Gh} {H0 : Hp} {g : TG} {gt : Tgt} {own : List Nat} {tt : Tx} {elt : Ex} {ds : List D} {J : It} {Gs G1 : Gh} {Hs H1 : Hp} {S1 : Store} {ρ : Env} {σ : L2.St} {Q : VK} (R1 : Rel X.K cl G0 H0 S1 ρ G1 σ H1) (s1 : Stp Gs Hs G1 H1) (it : IterOk X.K cl J ds G0 H0 G1)
    (hgs : TgS X cl g gt) (hgo : TgO g own) (h : Aft X.K cl (PN X.K cl) W G0 H0 ρ σ Gs Hs (lcS gt tt elt (wipeE ρ own) ds [] S1) Q) (L : Addr) (hL : H1 L = none) :
    ∃ Wv : Nat → Nat → Hp → Prop, (∃ m, Wv 0 m (upd H1 L (.lst []))) ∧ ∀ i m H, Wv i m H → (J.stop i H ∧ Q (.ref L) H) ∨ (J.go i H ∧ ∃ Nx : Hp → Prop, (∀ H', Nx H' → ∃ m', m' < m ∧ Wv (i + 1) m' H') ∧ ∀ x H', J.yld i H x H' → g x (L2.wipe σ own) H' fun σ2 H2 => L2.wipe σ2 own = L2.wipe σ own ∧ (tX X.K cl PT1 W0 tt) σ2 H2 fun b H3 =>
      if b = true then (tX X.K cl (PF X.K cl) W0 elt) σ2 H3 fun y H4 => ∃ acc, H4 L = some (.lst acc) ∧ acc.length < sizeLine ∧ Nx (upd H4 L (.lst (acc ++ [y]))) else Nx H3) := by
  have hLs : Hs L = none := s1.dom L hL
  let Wv : Nat → Hp → Prop := fun i H => ∃ (S : Store) (G : Gh) (vs : List V) (acc : List D), Rel X.K cl G0 H0 S ρ G σ H ∧ Stp Gs Hs G H ∧ Zle G1 G ∧ H L = some (.lst vs) ∧ RepAll X.K cl G.mu G.Z vs acc ∧ G.lab L = none ∧ G.Z L = none ∧ i ≤ ds.length ∧
    Aft X.K cl (PN X.K cl) W G0 H0 ρ σ Gs Hs (lcS gt tt elt (wipeE ρ own) (ds.drop i) acc S) Q
  refine ⟨fun i m H => m = ds.length - i ∧ Wv i H, ⟨_, rfl, ?_⟩, ?_⟩
  · obtain ⟨R2, s2, n⟩ := R1.newL hL (vs := []) (ds := []) .nil
    exact ⟨S1, G1, [], [], R2, s1.trans s2, Zle.refl _, upd_same, .nil, (n.2 L (by simp)).1, (n.2 L (by simp)).2, Nat.zero_le _, by rw [List.drop_zero]; exact h⟩
  · rintro i m H ⟨rfl, S, G, vs, acc, R, s, z, hv, r, l1, l2, hi, h⟩
    by_cases hlt : i < ds.length
    · right
      have hd : ds[i]? = some ds[i] := List.getElem?_eq_getElem hlt
      obtain ⟨go, yl⟩ := it.go S ρ G σ H i _ R z hd
      rw [List.drop_eq_getElem_cons hlt] at h
      refine ⟨go, fun H' => Wv (i + 1) H', fun H' w => ⟨ds.length - (i + 1), by omega, rfl, w⟩, fun x H2 y => ?_⟩
      obtain ⟨rfl, rx⟩ := yl x H2 y
      unfold lcS at h
      cases qt : gt ds[i] (wipeE ρ own) with
      | none => simp only [qt, Aft] at h
      | some ρ1 =>
        simp only [qt] at h
        refine hgo _ _ _ _ _ (hgs (Q := fun σ' H' => Rel X.K cl G0 H0 S ρ1 G σ' H2) (R.wipe own) rx qt fun σ2 R2 => R2) fun σ2 H2' R2 eH hw => ⟨hw.trans (wipe_wipe own own σ fun _ h => h), G0, H0, S, ρ1, G, by rw [eH]; exact R2, ?_⟩
        subst eH
        cases qtt : tt ρ1 S with
        | exc n S2 => simp only [qtt, Aft] at h
        | stuck => simp only [qtt, Aft] at h
        | ok k S2 =>
          simp only [qtt] at h
          intro b G2 H3 R3 s3 eb
          obtain rfl : b = k := eb
          have out : ∀ {G' : Gh} {H' : Hp}, Stp G H2' G' H' → H' L = some (.lst vs) ∧ G'.lab L = none ∧ G'.Z L = none := fun {G' H'} st => by
            refine ⟨st.keep L _ hv (fun l e => by rw [l1] at e; cases e), ?_, ?_⟩
            · cases e : G'.lab L with
              | none => rfl
              | some l =>
                rcases st.labn L l e with h | h
                · rw [l1] at h; cases h
                · rw [hv] at h; cases h
            · cases e : G'.Z L with
              | none => rfl
              | some o =>
                rcases st.zn L o e with h | h
                · rw [l2] at h; cases h
                · rw [hv] at h; cases h
          cases b with
          | false =>
            obtain ⟨o1, o2, o3⟩ := out s3
            exact ⟨S2, G2, vs, acc, R.step s3 R3.ok, s.trans s3, z.trans s3.zle, o1, RepAll.mono s3.z s3.mu _ _ r, o2, o3, hlt, h⟩
          | true =>
            rw [if_pos rfl]
            refine ⟨G0, H0, S2, ρ1, G2, R3, ?_⟩
            cases qe : elt ρ1 S2 with
            | exc n S3 => simp only [qe, if_true, Aft] at h
            | stuck => simp only [qe, if_true, Aft] at h
            | ok y S3 =>
              simp only [qe, if_true] at h
              intro yv G3 H4 R4 s4 ry
              have s34 := s3.trans s4
              obtain ⟨o1, o2, o3⟩ := out s34
              split at h
              · rename_i hz
                refine ⟨vs, o1, by rw [r.length]; exact lim_lt hz, S3, G3, vs ++ [yv], acc ++ [y], (R.step s34 R4.ok).poke o2 o3 (R1.stp.dom L hL) ⟨_, o1⟩ _, (s.trans s34).poke hLs _, z.trans s34.zle, upd_same, (RepAll.mono s34.z s34.mu _ _ r).append (.cons ry .nil), o2, o3, hlt, h⟩
              · exact h.elim
    · left
      have e : i = ds.length := by omega
      subst e
      rw [List.drop_length] at h
      exact ⟨it.stop S ρ G σ H R z, h _ G H R s ⟨L, [L], rfl, ⟨.lst hv r, fun b hb => by simp at hb; subst hb; exact ⟨l1, l2⟩⟩, fun b hb => by simp at hb; subst hb; exact hLs⟩⟩
theorem sn_lc {elt iter : Expr} {ifs : List Expr} {scope : Scope} {own : List (Str × Nat)} {g : TG} {gt : Tgt} {ci : Ix} {tt : Tx} {ce : Ex} (hc : X.calm = true) (hN : X.N.Nodup) (hi : SI X cl W tg iter ci) (ok : BlkOk X.N X.env.scope scope own)
    (hg : ∀ (s : Shared) (H : Hp) (C : Addr) (cs : List (Str × Addr)) (fp : List Addr), PG (X.blk s H scope (compEnvC scope cs C X.env) fp) tg g) (hgs : TgS X cl g gt) (hgo : TgO g (own.map (·.2)))
    (ht : ∀ (s : Shared) (H : Hp) (C : Addr) (cs : List (Str × Addr)) (fp : List Addr), STs (X.blk s H scope (compEnvC scope cs C X.env) fp) cl W0 ifs tt) (he : ∀ (s : Shared) (H : Hp) (C : Addr) (cs : List (Str × Addr)) (fp : List Addr), SE (X.blk s H scope (compEnvC scope cs C X.env) fp) cl W0 elt ce)
    (hs : ∀ x, foldedSetIterable iter X.env x = pure x := by intro _; rfl) : SN X cl W (.ListComp elt [⟨tg, iter, ifs, 0⟩] scope pos) (eLc (own.map (·.2)) ci gt tt ce) := PE.weak (pe_lc (tt := tX X.K cl PT1 W0 tt) (te := tX X.K cl (PF X.K cl) W0 ce) hc hN hi ok hg ht he hs) fun σ H Q ⟨G0, H0, S, ρ, G, R, h⟩ => by
  refine ⟨G0, H0, S, ρ, G, R, ?_⟩
  unfold eLc at h
  cases q : ci ρ S with
  | exc n S' => rw [q] at h; exact h
  | stuck => rw [q] at h; exact h
  | ok ds S1 =>
    rw [q] at h
    exact fun J G1 H1 R1 s1 it L hL => lc_sem R1 s1 it hgs hgo h L hL
theorem ss_setLcN {i : Nat} {y : Str} {py spos : Pos} {elt iter : Expr} {ifs : List Expr} {scope : Scope} {own : List (Str × Nat)} {g : TG} {gt : Tgt} {ci : Ix} {tt : Tx} {ce : Ex} (hc : X.calm = true) (hN : X.N.Nodup) (hy : X.N[i]? = some y) (hyl : X.env.scope.names.lookup y = some .local)
    (hsw : swapsWith (.ListComp elt [⟨tg, iter, ifs, 0⟩] scope pos) (some (.Name y py)) spos.line X.env = pure true) (hi : SI X cl W tg iter ci) (ok : BlkOk X.N X.env.scope scope own)
    (hg : ∀ (s : Shared) (H : Hp) (C : Addr) (cs : List (Str × Addr)) (fp : List Addr), PG (X.blk s H scope (compEnvC scope cs C X.env) fp) tg g) (hgs : TgS X cl g gt) (hgo : TgO g (own.map (·.2)))
    (ht : ∀ (s : Shared) (H : Hp) (C : Addr) (cs : List (Str × Addr)) (fp : List Addr), STs (X.blk s H scope (compEnvC scope cs C X.env) fp) cl W0 ifs tt) (he : ∀ (s : Shared) (H : Hp) (C : Addr) (cs : List (Str × Addr)) (fp : List Addr), SE (X.blk s H scope (compEnvC scope cs C X.env) fp) cl W0 elt ce)
    (hs : ∀ x, foldedSetIterable iter X.env x = pure x := by intro _; rfl) : SS X cl W (.Assign [.Name y py] (.ListComp elt [⟨tg, iter, ifs, 0⟩] scope pos) spos) (sSetN i (eLc (own.map (·.2)) ci gt tt ce)) := PS.weak (ps_setLc (tt := tX X.K cl PT1 W0 tt) (te := tX X.K cl (PF X.K cl) W0 ce) hc hN hy hyl hsw hi ok hg ht he hs) fun D σ H ⟨G0, H0, S, ρ, G, R, h⟩ => by
  refine ⟨G0, H0, S, ρ, G, R, ?_⟩
  unfold sSetN sEx eLc at h
  cases q : ci ρ S with
  | exc n S' => simp only [q, Res.bind] at h; exact fun G' H' R' s => h G' σ H' R' s.zle
  | stuck => simp only [q, Res.bind] at h; exact h
  | ok ds S1 =>
    simp only [q, Res.bind] at h
    intro J G1 H1 R1 s1 it L hL
    refine lc_sem (W := W) (Q := fun x H1 => gName i x σ H1 D.nx) (tt := tt) (elt := ce) R1 s1 it hgs hgo ?_ L hL
    cases q2 : lcS gt tt ce (wipeE ρ (own.map (·.2))) ds [] S1 with
    | exc n S2 => simp only [q2] at h; exact fun G' H' R' s => h G' σ H' R' s.zle
    | stuck => simp only [q2] at h; exact h
    | ok d S2 =>
      simp only [q2] at h
      rintro v G' H' R' s ⟨a, as, rfl, n, hn⟩
      exact h _ _ H' (R'.setN i n fun b hb => R.stp.dom b (hn b hb)) ⟨s.z, s.mu⟩
theorem ss_setLc {i : Nat} {y : Str} {py spos : Pos} {elt iter : Expr} {ifs : List Expr} {scope : Scope} {own : List (Str × Nat)} {g : TG} {gt : Tgt} {ci : Ix} {tt : Tx} {ce : Ex} (hc : X.calm = true) (hN : X.N.Nodup) (hy : X.N[i]? = some y) (hyl : X.env.scope.names.lookup y = some .local)
    (hsw : swapsWith (.ListComp elt [⟨tg, iter, ifs, 0⟩] scope pos) (some (.Name y py)) spos.line X.env = pure true) (hi : SI X cl W tg iter ci) (ok : BlkOk X.N X.env.scope scope own)
    (hg : ∀ (s : Shared) (H : Hp) (C : Addr) (cs : List (Str × Addr)) (fp : List Addr), PG (X.blk s H scope (compEnvC scope cs C X.env) fp) tg g) (hgs : TgS X cl g gt) (hgo : TgO g (own.map (·.2)))
    (ht : ∀ (s : Shared) (H : Hp) (C : Addr) (cs : List (Str × Addr)) (fp : List Addr), STs (X.blk s H scope (compEnvC scope cs C X.env) fp) cl W0 ifs tt) (he : ∀ (s : Shared) (H : Hp) (C : Addr) (cs : List (Str × Addr)) (fp : List Addr), SE (X.blk s H scope (compEnvC scope cs C X.env) fp) cl W0 elt ce)
    (hs : ∀ x, foldedSetIterable iter X.env x = pure x := by intro _; rfl) : SS X cl W (.Assign [.Name y py] (.ListComp elt [⟨tg, iter, ifs, 0⟩] scope pos) spos) (sSet i (eLc (own.map (·.2)) ci gt tt ce)) := PS.weak (ss_setLcN hc hN hy hyl hsw hi ok hg hgs hgo ht he hs) fun D σ H ⟨G0, H0, S, ρ, G, R, h⟩ => by
  refine ⟨G0, H0, S, ρ, G, R, ?_⟩
  unfold sSet sEx at h
  unfold sSetN sEx
  cases q : eLc (own.map (·.2)) ci gt tt ce ρ S with
  | exc n S2 => simp only [q] at h ⊢; exact h
  | stuck => simp only [q] at h ⊢; exact h
  | ok d S2 =>
    simp only [q] at h ⊢
    intro G' σ' H' R' z
    by_cases hi2 : i < ρ.length
    · obtain ⟨G2, R2, z2⟩ := R'.thaw (i := i) (List.getElem?_set_self hi2)
      rw [List.set_set] at R2
      exact h G2 σ' H' R2 (z.trans z2)
    · have e1 : ∀ s : Slot, ρ.set i s = ρ := fun s => List.set_eq_of_length_le (by omega)
      rw [e1] at R' h
      exact h G' σ' H' R' z
end
end PM
set_option maxHeartbeats 1000000
namespace PM
open PySem PySem.Spec PyProof.Rows L2

section
variable (K : PySem.W.Frag) (cl : ClsP)
def FnEnd (G : Gh) (H : Hp) (r : Res Val) (Q : VK) (E : XK) : Prop :=
  match r with
  | .ok v S' => RtOk K cl G H S' v Q
  | .exc n S' => ∀ G' H', GOk K cl S' G' H' → StOnly G' → Stp G H G' H' → E (.ref (cl n)) none H'
  | .stuck => False
def spOf (bm : List Bool) (m : Fn) : Sp := fun vs H Q E => ∃ (G : Gh) (S : Store) (ds : List D), GOk K cl S G H ∧ StOnly G ∧ ArgsOk K cl G H bm vs ds ∧ FnEnd K cl G H (m ds S) Q E
end
def parE : List Bool → List D → List Slot
  | true :: bm, d :: ds => .bo d :: parE bm ds
  | false :: bm, d :: ds => .fr d :: parE bm ds
  | _, _ => []
def startE (bm : List Bool) (ds : List D) (k : Nat) : Env := parE bm ds ++ List.replicate k .un
def fin (r : SR) : Res Val := match r with
  | .nx _ S => .ok (.fr .non) S
  | .rt v S => .ok v S
  | .exc n _ S => .exc n S
  | _ => .stuck
def mkFn (bm : List Bool) (k : Nat) (body : Stm) : Fn := fun ds S => fin (body (startE bm ds k) S)

section
variable {K : PySem.W.Frag} {cl : ClsP} {W : WX} {G0 G G' G1 : Gh} {H0 H H' H1 : Hp} {S S' : Store} {ρ ρ' : Env} {σ : L2.St} {v : V} {d : D} {a : Addr} {as : List Addr} {i : Nat}
theorem ArgsOk.slots : ∀ {bm : List Bool} {vs : List V} {ds : List D}, ArgsOk K cl G H bm vs ds → StOnly G → ∀ (j i : Nat) (s : Slot), (parE bm ds)[i]? = some s → ∃ o, (vs.map some)[i]? = some o ∧ SlotOk K cl G H G H (.slot j) s o
  | _, _, _, .nil, _, _, _, _, h => by simp [parE] at h
  | _, _, _, .fr r t, hs, j, 0, s, h => by
    simp only [parE, List.getElem?_cons_zero, Option.some.injEq] at h
    subst h
    exact ⟨_, rfl, _, rfl, r⟩
  | _, _, _, .bo r t, hs, j, 0, s, h => by
    simp only [parE, List.getElem?_cons_zero, Option.some.injEq] at h
    subst h
    refine ⟨_, rfl, _, rfl, ?_⟩
    rcases r with r | ⟨a, as, e, c, q⟩
    · exact .inl r
    · refine .inr ⟨a, as, e, c, fun b hb => ?_⟩
      cases e2 : G.lab b with
      | none => rfl
      | some l =>
        have h1 := q b hb l e2
        rw [hs b l e2] at h1
        cases h1
  | _, _, _, .fr r t, hs, j, i + 1, s, h => by
    simp only [parE, List.getElem?_cons_succ] at h
    obtain ⟨o, h1, h2⟩ := t.slots hs j i s h
    exact ⟨o, by simpa using h1, h2⟩
  | _, _, _, .bo r t, hs, j, i + 1, s, h => by
    simp only [parE, List.getElem?_cons_succ] at h
    obtain ⟨o, h1, h2⟩ := t.slots hs j i s h
    exact ⟨o, by simpa using h1, h2⟩
theorem parE_len : ∀ {bm : List Bool} {vs : List V} {ds : List D}, ArgsOk K cl G H bm vs ds → (parE bm ds).length = vs.length
  | _, _, _, .nil => rfl
  | _, _, _, .fr r t => congrArg (· + 1) (parE_len t)
  | _, _, _, .bo r t => congrArg (· + 1) (parE_len t)
theorem Rel.start {bm : List Bool} {vs : List V} {ds : List D} {k n : Nat} (ok : GOk K cl S G H) (so : StOnly G) (p : ArgsOk K cl G H bm vs ds) (hn : n = k) : Rel K cl G H S (startE bm ds k) G (vs.map some ++ List.replicate n none) H := by
  have sl : ∀ i s, (startE bm ds k)[i]? = some s → ∃ o, (vs.map some ++ List.replicate n none)[i]? = some o ∧ SlotOk K cl G H G H (.slot i) s o := fun i s h => by
    unfold startE at h
    by_cases hi : i < (parE bm ds).length
    · rw [List.getElem?_append_left hi] at h
      obtain ⟨o, h1, h2⟩ := p.slots so i i s h
      exact ⟨o, by rw [List.getElem?_append_left (by rw [List.length_map, ← parE_len p]; exact hi)]; exact h1, h2⟩
    · rw [List.getElem?_append_right (by omega), List.getElem?_replicate] at h
      split at h
      · cases h
        rename_i h2
        refine ⟨none, ?_, trivial⟩
        rw [List.getElem?_append_right (by rw [List.length_map, ← parE_len p]; omega), List.getElem?_replicate, if_pos (by rw [List.length_map, ← parE_len p, hn]; exact h2)]
      · cases h
  exact ⟨ok, by unfold startE; rw [List.length_append, List.length_append, parE_len p, List.length_map, List.length_replicate, List.length_replicate, hn], sl, Stp.refl _ _, so⟩

def Gh.join (G G' : Gh) : Gh := { G' with lab := fun b => match G.lab b with
  | some l => if l.st = true then G'.lab b else some l
  | none => G'.lab b }
theorem join_cases {b : Addr} {l : Lab} (h : (G.join G').lab b = some l) : (G.lab b = some l ∧ l.st = false) ∨ G'.lab b = some l := by
  have h' : (match G.lab b with
    | some l => if l.st = true then G'.lab b else some l
    | none => G'.lab b) = some l := h
  cases q : G.lab b with
  | none => rw [q] at h'; exact .inr h'
  | some m =>
    rw [q] at h'
    simp only at h'
    split at h'
    · exact .inr h'
    · cases h'
      exact .inl ⟨rfl, by simpa using (by assumption : ¬ l.st = true)⟩
theorem join_slot {b : Addr} {l : Lab} (h : G.lab b = some l) (hs : l.st = false) : (G.join G').lab b = some l := by
  show (match G.lab b with
    | some l => if l.st = true then G'.lab b else some l
    | none => G'.lab b) = some l
  rw [h]
  simp [hs]
theorem join_new {b : Addr} (h : G.lab b = none) : (G.join G').lab b = G'.lab b := by
  show (match G.lab b with
    | some l => if l.st = true then G'.lab b else some l
    | none => G'.lab b) = G'.lab b
  rw [h]
theorem join_st {b : Addr} {l : Lab} (h : G.lab b = some l) (hs : l.st = true) : (G.join G').lab b = G'.lab b := by
  show (match G.lab b with
    | some l => if l.st = true then G'.lab b else some l
    | none => G'.lab b) = G'.lab b
  rw [h]
  simp [hs]
theorem Rel.join (R : Rel K cl G0 H0 S ρ G σ H) (ok : GOk K cl S' G' H') (so : StOnly G') (st : Stp G.out H G' H') : Rel K cl G0 H0 S' ρ (G.join G') σ H' ∧ Stp G H (G.join G') H' := by
  have slotOut : ∀ b l, G.lab b = some l → l.st = false → G.out.lab b = none := fun b l h hs => by
    cases e : G.out.lab b with
    | none => rfl
    | some m =>
      have := out_some.mp e
      rw [h] at this
      obtain ⟨h1, h2⟩ := this
      cases h1
      rw [hs] at h2
      cases h2
  -- a store label of the callee is one of the join
  have stl : ∀ b l, G'.lab b = some l → (G.join G').lab b = some l := fun b l h => by
    cases q : G.lab b with
    | none => rw [join_new q]; exact h
    | some m =>
      cases hm : m.st with
      | true => rw [join_st q hm]; exact h
      | false =>
        rcases st.labn b l h with h2 | h2
        · rw [slotOut b m q hm] at h2; cases h2
        · obtain ⟨_, o, h3⟩ := R.ok.labz b m q
          rw [h2] at h3; cases h3
  have sj : Stp G H (G.join G') H' := by
    refine ⟨st.z, fun b l h => ?_, fun b o h hs => st.keep b o h fun l hl => ?_, fun b l h => ?_, st.zn, st.mu, st.dom⟩
    · cases hl : l.st with
      | false => exact join_slot h hl
      | true => exact stl b l (st.lab b l (out_some.mpr ⟨h, hl⟩))
    · exact hs l (out_some.mp hl).1
    · rcases join_cases h with ⟨h1, _⟩ | h1
      · exact .inl h1
      · rcases st.labn b l h1 with h2 | h2
        · exact .inl (out_some.mp h2).1
        · exact .inr h2
  refine ⟨R.step sj ⟨ok.zsub, fun b l h => ?_, fun n c e => (ok.st n c e).mono (fun _ _ _ _ _ e => e) (Same.refl _) (fun b l e _ => stl b l e) ⟨[], by simp [Gh.join]⟩, ok.stn⟩, sj⟩
  rcases join_cases h with ⟨h1, h2⟩ | h1
  · obtain ⟨z, o, ho⟩ := R.ok.labz b l h1
    refine ⟨?_, o, st.keep b o ho fun l' e => ?_⟩
    · cases q : G'.Z b with
      | none => exact q
      | some o' =>
        rcases st.zn b o' q with h3 | h3
        · have z' : G.out.Z b = none := z
          rw [z'] at h3; cases h3
        · rw [ho] at h3; cases h3
    · rw [slotOut b l h1 h2] at e; cases e
  · exact ok.labz b l h1
theorem ArgsOk.out : ∀ {bm : List Bool} {vs : List V} {ds : List D}, ArgsOk K cl G H bm vs ds → ArgsOk K cl G.out H bm vs ds
  | _, _, _, .nil => .nil
  | _, _, _, .fr r t => .fr r t.out
  | _, _, _, .bo r t => .bo (by
    rcases r with r | ⟨a, as, e, c, q⟩
    · exact .inl r
    · exact .inr ⟨a, as, e, c, fun b hb l h => q b hb l (out_some.mp h).1⟩) t.out
def resF (r : Res Val) : Res D := match r with
  | .ok (.fr d) S => .ok d S
  | .ok (.ow d) S => .ok d S
  | .exc n S => .exc n S
  | .stuck => .stuck
def resN (r : Res Val) : Res D := match r with
  | .ok (.ow d) S => .ok d S
  | .exc n S => .exc n S
  | _ => .stuck
theorem new_join (R : Rel K cl G0 H0 S ρ G σ H) (n : NewAt K cl G' H' a d as) (hn : ∀ b ∈ as, H b = none) : NewAt K cl (G.join G') H' a d as :=
  ⟨n.1, fun b hb => ⟨by rw [join_new (R.nobody (hn b hb)).1]; exact (n.2 b hb).1, (n.2 b hb).2⟩⟩
theorem call_semF {r : Res Val} {Q : VK} (R : Rel K cl G0 H0 S ρ G σ H) (h : Aft K cl (PF K cl) W G0 H0 ρ σ G H (resF r) Q) : FnEnd K cl G.out H r Q (WE W σ) := by
  cases r with
  | ok v S' =>
    cases v with
    | fr d =>
      intro v G' H' ok so st r
      obtain ⟨R', s'⟩ := R.join ok so st
      exact h v _ H' R' s' r
    | ow d =>
      intro a as G' H' ok so st n hn
      obtain ⟨R', s'⟩ := R.join ok so st
      obtain ⟨R2, s2, rp⟩ := R'.freeze R.stp s' (new_join R n hn) hn
      exact h _ _ H' R2 s2 rp
  | exc n S' =>
    intro G' H' ok so st
    obtain ⟨R', s'⟩ := R.join ok so st
    exact h _ H' R' s'
  | stuck => exact h
end

section
variable {P : Program} {w : World} {K : PySem.W.Frag} {mg : Str → Option Value} {base : Heap} {cl : ClsP}
theorem fn_ok {x qual : Str} {st : Stmt} {f : Addr} {fd : FuncData} {N ps : List Str} {lv k : Nat} {bm : List Bool} {body : Stm} (F : Fun K x qual st f fd) (Sc : FnScope N ps (defScope st)) (hbm : bm.length = ps.length) (hk : N.length = ps.length + k)
    (hbody : ∀ (cdv : Value) (A : Around) (outer : List PySem.Env) (s : Shared) (H : Hp) (E : XK), Room lv (A.deeper (envOfC qual (defScope st) s.heap.objs.size f cdv)) →
      L2N.Takes (cxOf (L2N.CX P w) P w K mg base N qual (defScope st) f cdv A outer s H E) (fun c d _ H => E c d H) →
      SSs (cxOf (L2N.CX P w) P w K mg base N qual (defScope st) f cdv A outer s H E) cl (fun c d _ H => E c d H) (defBody st) body) : FnOk P w K mg base (L2N.CX P w) (lv + 1) f fd ps (spOf K cl bm (mkFn bm k body)) := by
  refine F.okN Sc (fun vs H Q E ⟨G, S, ds, ok, so, p, q⟩ => (p.len.1).trans hbm) (fun cdv A outer s H vs Q E hr ⟨G, S, ds, ok, so, p, q⟩ => ?_)
  refine ⟨_, hbody cdv A outer s H E hr (L2N.takes_of rfl rfl rfl rfl), G, H, S, startE bm ds k, G, Rel.start ok so p (by rw [p.len.1, hbm, hk]; omega), ?_⟩
  unfold mkFn at q
  cases r : body (startE bm ds k) S with
  | nx ρ' S' => rw [r] at q; exact fun G' σ' H' R' z => q .non _ H' R'.leave.1 out_only R'.leave.2 .non
  | rt v S' => rw [r] at q; exact q
  | exc n ρ' S' => rw [r] at q; exact fun G' σ' H' R' z => q _ H' R'.leave.1 out_only R'.leave.2
  | bk ρ' S' => rw [r] at q; exact q.elim
  | ct ρ' S' => rw [r] at q; exact q.elim
  | stuck => rw [r] at q; exact q.elim
end

section
variable {X : Cx} {cl : ClsP} {W : WX} {e o : Expr} {es : List Expr} {pos : Pos} {k : Nat} {f : Addr} {fd : FuncData} {ps : List Str} {m : Fn} {bm : List Bool} {x : Str} {p : Pos} {ax : Ax}
def eCall (m : Fn) (ca : Ax) : Ex := fun ρ S => (ca ρ S).bind fun ds S => resF (m ds S)
theorem se_call (F : FnOk X.prog X.w X.K X.mg X.base (L2N.CX X.prog X.w) k f fd ps (spOf X.K cl bm m)) (hr : Room k X.A) (hg : Gl X x) (hm : X.mg x = some (.ref f)) (hk : PySem.W.keepIn X.K (.ref f) = true) (hb : Binds X.K fd ps []) (tk : L2N.Takes X W) (ha : SA X cl W bm (e :: es) ax)
    (hdb : (x == ("__debug__" : Str)) = false := by decide) (he : starEach (e :: es) X.env = (false, eval e X.env) :: starEach es X.env := by rfl) (hpl : (backTo pos (starEach es X.env)).any (·.1) = false := by rfl) : SE X cl W (.Call (.Name x p) (e :: es) [] pos) (eCall m ax) :=
  PE.weak (pe_callS F hr hg hm hk hb (L2N.passAt tk) ha hdb he hpl) fun σ H Q ⟨G0, H0, S, ρ, G, R, h⟩ => by
    refine tX.bind (Pa := PA1 X.K cl bm) pfM R h fun ds vs S1 G1 H1 R1 s1 p1 h1 => ?_
    exact ⟨G1.out, S1, ds, R1.leave.1, out_only, ArgsOk.out p1, call_semF R1 h1⟩
def MethOk (X : Cx) (m : Str) (C : Addr) (sp : Sp) : Prop := ∃ (g : Addr) (fd : FuncData) (j : Nat) (ps : List Str), Cls X.K C ∧ Meth X.K C m g ∧ FnOk X.prog X.w X.K X.mg X.base (L2N.CX X.prog X.w) j g fd ps sp ∧ Room j X.A ∧ Binds X.K fd ps []
def tMD (X : Cx) (m : Str) (W : WX) (ta : TE) (t : TA) : TE := fun σ H Q => ta σ H fun v H1 => ∃ (a C dx : Addr) (fs : List (Str × V)) (sp : Sp), v = .ref a ∧ H1 a = some (.ins C dx fs) ∧ fs.lookup m = none ∧ MethOk X m C sp ∧ t σ H1 fun vs H2 => sp (v :: vs) H2 Q (WE W σ)
theorem pe_md0 {mn : Str} {apos : Pos} {ta : TE} {pl : Sem Bool} (ho : PE X o ta) (tk : L2N.Takes X W)
    (ht : eval (.Call (.Attribute o mn apos) [] [] pos) X.env = (do
      let ov ← eval o X.env
      standAt apos.atName
      let (f, first) ← holding [ov] (getMethod ov mn pl)
      callWith pos f first (backTo pos (starEach [] X.env)) (backToKw pos (keywordEach [] X.env))) := by rfl) : PE X (.Call (.Attribute o mn apos) [] [] pos) (tMD X mn W ta tNil) :=
  ⟨fun pins s σ H Q I h => PySem.W.methodCall_KW (pl := pl) (thn (ho.run pins s σ H _ I h) fun u s1 ⟨v, H1, I1, rv, a, C, dx, fs, sp, ev, ea, l, ⟨g, fd, j, ps, c, hm, F, hr, hb⟩, q⟩ => by
    subst ev
    cases (show u = Value.ref a from rv)
    refine getmeth_ok I1 ea c hm l ?_
    exact PySem.W.callWith_K0 (first := [.ref a]) I1.kIn hm.kp (run_fnS (E := WE W) (us := [Value.ref a]) (vs := [V.ref a]) F hr hb (L2N.passAt tk σ) I1 (.cons rfl .nil) q)) ht⟩
abbrev MTab := Nat → Option Fn
def eMeth (mn : Str) (mt : MTab) (co : Ex) (ca : Ax) (fin : Res Val → Res D) : Ex := fun ρ S => (co ρ S).bind fun d S => match d with
  | .obj c fs => (match fs.lookup mn, mt c with
    | none, some fn => (ca ρ S).bind fun ds S => fin (fn (d :: ds) S)
    | _, _ => .stuck)
  | .rf n => (match S[n]? with
    | some (.obj c fs) => (match fs.lookup mn, mt c with
      | none, some fn => (ca ρ S).bind fun ds S => fin (fn (d :: ds) S)
      | _, _ => .stuck)
    | _ => .stuck)
  | _ => .stuck
def MtOk (X : Cx) (cl : ClsP) (mn : Str) (bm : List Bool) (mt : MTab) : Prop := ∀ c fn, mt c = some fn → MethOk X mn (cl c) (spOf X.K cl (true :: bm) fn)
theorem recv {K : PySem.W.Frag} {G0 G : Gh} {H0 H : Hp} {S : Store} {ρ : Env} {σ : L2.St} {v : V} {mn : Str} {mt : MTab} {d : D} {fn : Fn} {c : Nat} (R : Rel K cl G0 H0 S ρ G σ H) (p : RepT K cl G H v d)
    (h : (∃ fs, d = .obj c fs ∧ fs.lookup mn = none ∧ mt c = some fn) ∨ ∃ n fs, d = .rf n ∧ S[n]? = some (.obj c fs) ∧ fs.lookup mn = none ∧ mt c = some fn) : ∃ a dx fs, v = .ref a ∧ H a = some (.ins (cl c) dx fs) ∧ fs.lookup mn = none := by
  rcases h with ⟨fs, rfl, h1, h2⟩ | ⟨n, fs, rfl, hn, h1, h2⟩
  · rcases p with p | ⟨a, as, rfl, cc, _⟩
    · cases p with
      | obj hs hx ha => exact ⟨_, _, _, rfl, R.ok.zsub _ _ hs, ha.lookupN h1⟩
    · cases cc with
      | obj hs hx ha => exact ⟨_, _, _, rfl, hs, ha.lookupN h1⟩
  · rcases p with p | ⟨a, as, rfl, cc, _⟩
    · cases p with
      | rf e =>
        obtain ⟨a, as, e1, cc, _⟩ := (R.ok.st n _ hn).ok
        rw [e] at e1
        cases e1
        cases cc with
        | obj hs hx ha => exact ⟨_, _, _, rfl, hs, ha.lookupN h1⟩
    · cases cc
theorem meth_sem {mn : Str} {mt : MTab} {co : Ex} {bm : List Bool} {P : Post D V} {fn : Res Val → Res D} (hP : PostM P) (hfin : ∀ {G0 : Gh} {H0 : Hp} {S : Store} {ρ : Env} {G : Gh} {σ : L2.St} {H : Hp} {r : Res Val} {Q : VK}, Rel X.K cl G0 H0 S ρ G σ H → Aft X.K cl P W G0 H0 ρ σ G H (fn r) Q → FnEnd X.K cl G.out H r Q (WE W σ)) (hmt : MtOk X cl mn bm mt)
    {σ : L2.St} {H : Hp} {Q : VK} (h : tX X.K cl P W (eMeth mn mt co ax fn) σ H Q) : tMD X mn W (tX X.K cl (PB X.K cl) W co) (tX X.K cl (PA1 X.K cl bm) W ax) σ H Q := by
  obtain ⟨G0, H0, S, ρ, G, R, h⟩ := h
  refine tX.bind hP R h fun d v S1 G1 H1 R1 s1 p1 h1 => ?_
  have go : ∀ (c : Nat) (fn1 : Fn), mt c = some fn1 → ((∃ fs, d = .obj c fs ∧ fs.lookup mn = none ∧ mt c = some fn1) ∨ ∃ n fs, d = .rf n ∧ S1[n]? = some (.obj c fs) ∧ fs.lookup mn = none ∧ mt c = some fn1) →
      Aft X.K cl P W G0 H0 ρ σ G1 H1 ((ax ρ S1).bind fun ds S => fn (fn1 (d :: ds) S)) Q → ∃ (a C dx : Addr) (fs : List (Str × V)) (sp : Sp), v = .ref a ∧ H1 a = some (.ins C dx fs) ∧ fs.lookup mn = none ∧ MethOk X mn C sp ∧ tX X.K cl (PA1 X.K cl bm) W ax σ H1 fun vs H2 => sp (v :: vs) H2 Q (WE W σ) := fun c fn1 hf hr h1 => by
    obtain ⟨a, dx, fs, rfl, h2, h3⟩ := recv R1 p1 hr
    refine ⟨a, cl c, dx, fs, _, rfl, h2, h3, hmt c fn1 hf, tX.bind (Pa := PA1 X.K cl bm) hP R1 h1 fun ds vs S2 G2 H2 R2 s2 p2 h4 => ?_⟩
    exact ⟨G2.out, S2, d :: ds, R2.leave.1, out_only, ArgsOk.out (.bo (RepT.stp p1 s2) p2), hfin R2 h4⟩
  cases d with
  | obj c fs =>
    simp only at h1
    cases q1 : fs.lookup mn with
    | some y => simp only [q1, Aft] at h1
    | none =>
      cases q2 : mt c with
      | none => simp only [q1, q2, Aft] at h1
      | some fn1 =>
        simp only [q1, q2] at h1
        exact go c fn1 q2 (.inl ⟨fs, rfl, q1, q2⟩) h1
  | rf n =>
    simp only at h1
    cases q0 : S1[n]? with
    | none => simp only [q0, Aft] at h1
    | some cell =>
      cases cell with
      | box _ => simp only [q0, Aft] at h1
      | obj c fs =>
        simp only [q0] at h1
        cases q1 : fs.lookup mn with
        | some y => simp only [q1, Aft] at h1
        | none =>
          cases q2 : mt c with
          | none => simp only [q1, q2, Aft] at h1
          | some fn1 =>
            simp only [q1, q2] at h1
            exact go c fn1 q2 (.inr ⟨n, fs, rfl, q0, q1, q2⟩) h1
  | _ => simp only [Aft] at h1
theorem aNil_sem {σ : L2.St} {H : Hp} {Q : List V → Hp → Prop} (h : tX X.K cl (PA1 X.K cl []) W aNil σ H Q) : tNil σ H Q := by
  obtain ⟨G0, H0, S, ρ, G, R, h⟩ := h
  exact h _ G H R (Stp.refl _ _) .nil
theorem tMD_nil {mn : Str} {ta : TE} {σ : L2.St} {H : Hp} {Q : VK} (mono : ∀ (M M' : V → Hp → Prop), (∀ v H, M v H → M' v H) → ta σ H M → ta σ H M') (h : tMD X mn W ta (tX X.K cl (PA1 X.K cl []) W aNil) σ H Q) : tMD X mn W ta tNil σ H Q :=
  mono _ _ (fun v H1 ⟨a, C, dx, fs, sp, e1, e2, e3, e4, q⟩ => ⟨a, C, dx, fs, sp, e1, e2, e3, e4, aNil_sem q⟩) h
theorem tX_mono {K : PySem.W.Frag} {α β : Type} {P : Post α β} {c : Env → Store → Res α} {σ : L2.St} {H : Hp} {Q Q' : β → Hp → Prop} (k : ∀ v H, Q v H → Q' v H) (h : tX K cl P W c σ H Q) : tX K cl P W c σ H Q' := by
  obtain ⟨G0, H0, S, ρ, G, R, h⟩ := h
  refine ⟨G0, H0, S, ρ, G, R, ?_⟩
  cases q : c ρ S with
  | ok d S' => rw [q] at h; exact fun v G' H' R' s p => k _ _ (h v G' H' R' s p)
  | exc n S' => rw [q] at h; exact h
  | stuck => rw [q] at h; exact h
theorem se_meth0 {mn : Str} {apos : Pos} {mt : MTab} {co : Ex} {pl : Sem Bool} (hmt : MtOk X cl mn [] mt) (ho : SB X cl W o co) (tk : L2N.Takes X W)
    (ht : eval (.Call (.Attribute o mn apos) [] [] pos) X.env = (do
      let ov ← eval o X.env
      standAt apos.atName
      let (f, first) ← holding [ov] (getMethod ov mn pl)
      callWith pos f first (backTo pos (starEach [] X.env)) (backToKw pos (keywordEach [] X.env))) := by rfl) : SE X cl W (.Call (.Attribute o mn apos) [] [] pos) (eMeth mn mt co aNil resF) :=
  PE.weak (pe_md0 (pl := pl) ho tk ht) fun σ H Q h => tMD_nil (fun _ _ k q => tX_mono k q) (meth_sem pfM call_semF hmt h)
end

section
variable {X : Cx} {cl : ClsP} {W : WX} {a b c : Expr} {ca cb cc : Ex} {pos : Pos}
theorem se_glE {x : Str} {v : V} {d : D} (hg : Gl X x) (h : ∃ u, X.mg x = some u ∧ RelV v u) (rp : ∀ mu Z, Rep X.K cl mu Z v d) (hd : (x == ("__debug__" : Str)) = false := by decide) : SE X cl W (.Name x pos) (eC d) := by
  obtain ⟨u, hm, r⟩ := h
  exact se_gl hg hm r rp hd
end
theorem _root_.L2.Room.u65 {k : Nat} {A : Around} (r : Room k A) : A.units + 65 < cLine := by have := r.un; omega
theorem _root_.L2.Room.u1 {k : Nat} {A : Around} (r : Room k A) : A.units + 1 < cLine := by have := r.un; omega
end PM
set_option maxHeartbeats 1000000
namespace PM
open PySem PySem.Spec PyProof.Rows L2
theorem cx_end {P : Program} {w : World} {H : Hp} {s : Shared} {e : Value} {s' : Shared} (z : L2N.CX P w [] H s (fun _ _ _ => False) e s') : False := by
  obtain ⟨_, _, _, _, _, _, _, _, _, _, _, _, h⟩ := z
  exact h
end PM
set_option maxHeartbeats 1000000
namespace PM
open PySem PySem.Spec PyProof.Rows L2

abbrev FTab := Nat → Str → Bool
def CInfo (K : PySem.W.Frag) (cl : ClsP) (fl : FTab) : Prop := ∀ c f, fl c f = true → Cls K (cl c) ∧ NoAttr K (cl c) f
def pD (f : Str) (d : D) : List (Str × D) → List (Str × D)
  | [] => [(f, d)]
  | (g, x) :: r => if g = f then (g, d) :: r else (g, x) :: pD f d r
section
variable {K : PySem.W.Frag} {cl : ClsP} {mu : List Addr} {Z H : Hp} {G : Gh} {v : V}
theorem RepF.put {f : Str} {d : D} (r : Rep K cl mu Z v d) : ∀ {vs : List (Str × V)} {ds : List (Str × D)}, RepF K cl mu Z vs ds → RepF K cl mu Z (putF f v vs) (pD f d ds)
  | _, _, .nil => .cons r .nil
  | _, _, @RepF.cons _ _ _ _ g w vs e ds q t => by
    unfold putF pD
    by_cases h : g = f
    · rw [if_pos h, if_pos h]; exact .cons r t
    · rw [if_neg h, if_neg h]; exact .cons q (RepF.put r t)
theorem RepV.obj {c : Nat} {fs : List (Str × D)} (h : RepV K cl G H v (.obj c fs)) (zs : Same G.Z H) : ∃ a dx vs, v = .ref a ∧ H a = some (.ins (cl c) dx vs) ∧ RepF K cl G.mu G.Z vs fs := by
  rcases h with h | ⟨a, as, e, cc, _⟩
  · cases h with
    | obj hs hx ha => exact ⟨_, _, _, rfl, zs _ _ hs, ha⟩
  · cases cc with
    | obj hs hx ha => exact ⟨_, _, _, e, hs, ha⟩
theorem RepT.obj {c : Nat} {fs : List (Str × D)} (h : RepT K cl G H v (.obj c fs)) (zs : Same G.Z H) : ∃ a dx vs, v = .ref a ∧ H a = some (.ins (cl c) dx vs) ∧ RepF K cl G.mu G.Z vs fs := RepV.obj h.vw zs
theorem RepV.rfn {n : Nat} (h : RepV K cl G H v (.rf n)) : ∃ a, v = .ref a ∧ G.mu[n]? = some a := by
  rcases h with h | ⟨a, as, e, cc, _⟩
  · cases h with
    | rf e => exact ⟨_, rfl, e⟩
  · cases cc
theorem RepT.rfn {n : Nat} (h : RepT K cl G H v (.rf n)) : ∃ a, v = .ref a ∧ G.mu[n]? = some a := RepV.rfn h.vw
end
def eFld (fl : FTab) (f : Str) (co : Ex) : Ex := fun ρ S => (co ρ S).bind fun d S => match d with
  | .obj c fs => if fl c f = true then Res.opt (fs.lookup f) S else .stuck
  | .rf n => (match S[n]? with
    | some (.obj c fs) => if fl c f = true then Res.opt (fs.lookup f) S else .stuck
    | _ => .stuck)
  | _ => .stuck
section
variable {X : Cx} {cl : ClsP} {W : WX} {e o : Expr} {c co : Ex} {pos : Pos} {fl : FTab} {f : Str}
theorem se_fld (hi : CInfo X.K cl fl) (ho : SB X cl W o co) (hb : attributeBase o f X.env (eval o X.env) = eval o X.env := by rfl) : SE X cl W (.Attribute o f pos) (eFld fl f co) := PE.weak (pe_fld ho hb) fun σ H Q ⟨G0, H0, S, ρ, G, R, h⟩ => by
  refine tX.bind (Pa := PB X.K cl) pfM R h fun d v S1 G1 H1 R1 s1 p1 h1 => ?_
  cases d with
  | obj k fs =>
    simp only at h1
    split at h1
    · rename_i hf
      obtain ⟨hc, hn⟩ := hi k f hf
      cases q : fs.lookup f with
      | none => rw [q] at h1; exact h1.elim
      | some y =>
        rw [q] at h1
        obtain ⟨a, dx, vs, rfl, ha, r⟩ := RepT.obj p1 R1.ok.zsub
        obtain ⟨w, hw, rw'⟩ := r.lookup q
        exact ⟨a, cl k, dx, vs, w, rfl, ha, hc, hn, hw, h1 _ G1 H1 R1 (Stp.refl _ _) rw'⟩
    · exact h1.elim
  | rf n =>
    simp only at h1
    cases q0 : S1[n]? with
    | none => simp only [q0, Aft] at h1
    | some cell =>
      cases cell with
      | box _ => simp only [q0, Aft] at h1
      | obj k fs =>
        simp only [q0] at h1
        split at h1
        · rename_i hf
          obtain ⟨hc, hn⟩ := hi k f hf
          cases q : fs.lookup f with
          | none => rw [q] at h1; exact h1.elim
          | some y =>
            rw [q] at h1
            obtain ⟨a, rfl, ha⟩ := RepT.rfn p1
            obtain ⟨a', as, e1, cc, _⟩ := (R1.ok.st n _ q0).ok
            rw [ha] at e1
            cases e1
            cases cc with
            | obj hs hx r =>
              obtain ⟨w, hw, rw'⟩ := r.lookup q
              exact ⟨a, cl k, _, _, w, rfl, hs, hc, hn, hw, h1 _ G1 H1 R1 (Stp.refl _ _) rw'⟩
        · exact h1.elim
  | _ => simp only [Aft] at h1
def sFldMe (fl : FTab) (i : Nat) (f : Str) (c : Ex) : Stm := sEx c fun d ρ S => match ρ[i]? with
  | some (.me (.obj k fs)) => if fl k f = true ∧ fs.length < 1000 then .nx (ρ.set i (.me (.obj k (pD f d fs)))) S else .stuck
  | _ => .stuck
theorem ss_fldMe {i : Nat} {x : Str} {p pos' : Pos} (hi : CInfo X.K cl fl) (hv : PE X (.Name x p) (tVar i)) (he : SE X cl W e c) (hs : swapsWith e (some (.Attribute (.Name x p) f pos')) pos.line X.env = pure false := by rfl) : SS X cl W (.Assign [.Attribute (.Name x p) f pos'] e pos) (sFldMe fl i f c) := PS.weak (ps_fld hv he hs) fun D σ H h =>
  sEx_sem (P := PF X.K cl) h fun G0 H0 S' ρ G d v G' H' R' s0 s p q => by
    cases qi : ρ[i]? with
    | none => simp only [qi, AftS] at q
    | some sl =>
      cases sl with
      | me d0 =>
        cases d0 with
        | obj k fs =>
          simp only [qi] at q
          split at q
          · rename_i hf
            obtain ⟨hc, hn⟩ := hi k f hf.1
            obtain ⟨o, ho, w, rfl, ⟨a, as, rfl, cc, hl⟩, hm⟩ := R'.slot i _ qi
            cases cc with
            | obj h1 h2 r =>
              rename_i dx vs
              have ne : dx ≠ a := fun z => by subst z; rw [h1] at h2; cases h2
              exact ⟨_, ho, a, cl k, dx, vs, rfl, h1, hc, hn, by rw [r.length]; exact hf.2, q G' σ _ (R'.writeMe qi ho hl (by simp) (.obj upd_same (by rw [upd_ne ne]; exact h2) (RepF.put p r))) (Zle.refl _)⟩
          · exact q.elim
        | _ => simp only [qi, AftS] at q
      | _ => simp only [qi, AftS] at q
end

abbrev Ini := Nat → List D → Store → Res D
section
variable (K : PySem.W.Frag) (cl : ClsP)
def IniEnd (G : Gh) (H : Hp) (x : Addr) (r : Res D) (Q : VK) (E : XK) : Prop :=
  match r with
  | .ok d S' => ∀ as G' H', GOk K cl S' G' H' → StOnly G' → Stp G H G' H' → NewAt K cl G' H' x d as → (∀ b ∈ as, H b = none) → Q .non H'
  | .exc n S' => ∀ G' H', GOk K cl S' G' H' → StOnly G' → Stp G H G' H' → E (.ref (cl n)) none H'
  | .stuck => False
def spIni (c : Nat) (bm : List Bool) (m : Ini) : Sp := fun vs H Q E => ∃ (G : Gh) (S : Store) (ds : List D) (x dx : Addr) (vs' : List V) (H1 : Hp), vs = .ref x :: vs' ∧ H = upd (upd H1 dx (.own x)) x (.ins (cl c) dx []) ∧ H1 x = none ∧ H1 dx = none ∧ dx ≠ x ∧
  GOk K cl S G H1 ∧ StOnly G ∧ ArgsOk K cl G H1 bm vs' ds ∧ IniEnd K cl G H1 x (m c ds S) Q E
end
def mkIni (bm : List Bool) (k : Nat) (body : Stm) : Ini := fun c ds S => match body (.me (.obj c []) :: startE bm ds k) S with
  | .nx ρ S' => (match (ρ[0]? : Option Slot) with
    | some (Slot.me d) => .ok d S'
    | _ => .stuck)
  | .exc n _ S' => .exc n S'
  | _ => .stuck
section
variable {K : PySem.W.Frag} {cl : ClsP} {G : Gh} {H : Hp} {S : Store}
theorem parE_slots {bm : List Bool} {vs : List V} {ds : List D} {x : Addr} {c dxa : Addr} {H' : Hp} (p : ArgsOk K cl G H bm vs ds) (so : StOnly G) (as : List Addr) (l : Lab) (mv : Option V) : ∀ (j i : Nat) (s : Slot), (parE bm ds)[i]? = some s → ∃ o, (vs.map some)[i]? = some o ∧ SlotOk K cl { G with me := mv } H (({ G with me := mv } : Gh).own as l) H' (.slot j) s o := by
  induction p with
  | nil => intro j i s h; simp [parE] at h
  | @fr bm v vs d ds r t ih =>
    intro j i s h
    cases i with
    | zero =>
      simp only [parE, List.getElem?_cons_zero, Option.some.injEq] at h
      subst h
      exact ⟨_, rfl, _, rfl, r⟩
    | succ i =>
      simp only [parE, List.getElem?_cons_succ] at h
      obtain ⟨o, h1, h2⟩ := ih j i s h
      exact ⟨o, by simpa using h1, h2⟩
  | @bo bm v vs d ds r t ih =>
    intro j i s h
    cases i with
    | zero =>
      simp only [parE, List.getElem?_cons_zero, Option.some.injEq] at h
      subst h
      refine ⟨_, rfl, _, rfl, ?_⟩
      rcases r with r | ⟨a, as', e, cc, q⟩
      · exact .inl r
      · refine .inr ⟨a, as', e, cc, fun b hb => ?_⟩
        show G.lab b = none
        cases e2 : G.lab b with
        | none => rfl
        | some l =>
          have h1 := q b hb l e2
          rw [so b l e2] at h1
          cases h1
    | succ i =>
      simp only [parE, List.getElem?_cons_succ] at h
      obtain ⟨o, h1, h2⟩ := ih j i s h
      exact ⟨o, by simpa using h1, h2⟩
theorem Stp.me {G' : Gh} {H' : Hp} {mv : Option V} (s : Stp { G with me := mv } H G' H') : Stp G H G' H' := ⟨s.z, s.lab, s.keep, s.labn, s.zn, s.mu, s.dom⟩
theorem Rel.startMe {bm : List Bool} {vs : List V} {ds : List D} {k n c : Nat} {x dx : Addr} (ok : GOk K cl S G H) (so : StOnly G) (p : ArgsOk K cl G H bm vs ds) (hn : n = k) (hx : H x = none) (hdx : H dx = none) (ne : dx ≠ x) :
    Rel K cl { G with me := some (.ref x) } H S (.me (.obj c []) :: startE bm ds k) (({ G with me := some (.ref x) } : Gh).own [x, dx] (.slot 0)) ((V.ref x :: vs).map some ++ List.replicate n none) (upd (upd H dx (.own x)) x (.ins (cl c) dx [])) := by
  have sm : Same H (upd (upd H dx (.own x)) x (.ins (cl c) dx [])) := fun b o e => by
    rw [upd_ne (ne_of_none e hx), upd_ne (ne_of_none e hdx)]; exact e
  have hd : upd (upd H dx (.own x)) x (.ins (cl c) dx []) dx = some (.own x) := by rw [upd_ne ne, upd_same]
  have lab : ∀ b l, G.lab b = some l → (({ G with me := some (.ref x) } : Gh).own [x, dx] (.slot 0)).lab b = some l := fun b l e => by
    rw [own_out]
    · exact e
    · intro hb
      obtain ⟨_, o, h⟩ := ok.labz b l e
      simp at hb
      rcases hb with rfl | rfl
      · rw [hx] at h; cases h
      · rw [hdx] at h; cases h
  have labn : ∀ b l, (({ G with me := some (.ref x) } : Gh).own [x, dx] (.slot 0)).lab b = some l → G.lab b = some l ∨ (b = x ∨ b = dx) := fun b l e => by
    by_cases hb : b ∈ [x, dx]
    · exact .inr (by simpa using hb)
    · rw [own_out hb] at e; exact .inl e
  refine ⟨⟨ok.zsub.trans sm, fun b l e => ?_, fun m cc e => (ok.st m cc e).mono (fun b _ _ _ o e => sm b o e) (Same.refl _) (fun b l e _ => lab b l e) ⟨[], by simp [Gh.own]⟩, ok.stn⟩, ?_, fun i s h => ?_, ⟨Same.refl _, lab, fun b o e _ => sm b o e, fun b l e => ?_, fun b o e => .inl e, ⟨[], by simp [Gh.own]⟩, fun b e => sm.free e⟩, so⟩
  · rcases labn b l e with h | h | h
    · obtain ⟨h1, o, h2⟩ := ok.labz b l h
      exact ⟨h1, o, sm b o h2⟩
    · subst h; exact ⟨ok.zsub.free hx, _, upd_same⟩
    · subst h; exact ⟨ok.zsub.free hdx, _, hd⟩
  · have := parE_len p
    unfold startE
    simp only [List.length_cons, List.length_append, List.length_map, List.length_replicate, this, hn]
    omega
  · cases i with
    | zero =>
      simp only [List.getElem?_cons_zero, Option.some.injEq] at h
      subst h
      refine ⟨some (.ref x), rfl, _, rfl, ⟨x, [x, dx], rfl, .obj upd_same hd .nil, fun b hb => own_in hb⟩, rfl⟩
    | succ i =>
      simp only [List.getElem?_cons_succ] at h
      unfold startE at h
      by_cases hi : i < (parE bm ds).length
      · rw [List.getElem?_append_left hi] at h
        obtain ⟨o, h1, h2⟩ := parE_slots (x := x) (c := x) (dxa := x) (H' := upd (upd H dx (.own x)) x (.ins (cl c) dx [])) p so [x, dx] (.slot 0) (some (.ref x)) (i + 1) i s h
        refine ⟨o, ?_, h2⟩
        simp only [List.map_cons, List.cons_append, List.getElem?_cons_succ]
        rw [List.getElem?_append_left (by rw [List.length_map, ← parE_len p]; exact hi)]
        exact h1
      · rw [List.getElem?_append_right (by omega), List.getElem?_replicate] at h
        split at h
        · cases h
          rename_i h2
          refine ⟨none, ?_, trivial⟩
          simp only [List.map_cons, List.cons_append, List.getElem?_cons_succ]
          rw [List.getElem?_append_right (by rw [List.length_map, ← parE_len p]; omega), List.getElem?_replicate, if_pos (by rw [List.length_map, ← parE_len p, hn]; exact h2)]
        · cases h
  · rcases labn b l e with h | h | h
    · exact .inl h
    · subst h; exact .inr hx
    · subst h; exact .inr hdx
end
section
variable {P : Program} {w : World} {K : PySem.W.Frag} {mg : Str → Option Value} {base : Heap} {cl : ClsP}
theorem ini_ok {x qual : Str} {st : Stmt} {f : Addr} {fd : FuncData} {N : List Str} {p0 : Str} {ps : List Str} {lv k c : Nat} {bm : List Bool} {body : Stm} (F : Fun K x qual st f fd) (Sc : FnScope N (p0 :: ps) (defScope st)) (hbm : bm.length = ps.length) (hk : N.length = 1 + ps.length + k)
    (hbody : ∀ (cdv : Value) (A : Around) (outer : List PySem.Env) (s : Shared) (H : Hp) (E : XK), Room lv (A.deeper (envOfC qual (defScope st) s.heap.objs.size f cdv)) →
      L2N.Takes (cxOf (L2N.CX P w) P w K mg base N qual (defScope st) f cdv A outer s H E) (fun c d _ H => E c d H) →
      SSs (cxOf (L2N.CX P w) P w K mg base N qual (defScope st) f cdv A outer s H E) cl (fun c d _ H => E c d H) (defBody st) body) : FnOk P w K mg base (L2N.CX P w) (lv + 1) f fd (p0 :: ps) (spIni K cl c bm (mkIni bm k body)) := by
  refine F.okN Sc (fun vs H Q E ⟨G, S, ds, x, dx, vs', H1, e, _, _, _, _, _, _, p, _⟩ => by rw [e, List.length_cons, p.len.1, hbm, List.length_cons]) (fun cdv A outer s H vs Q E hr ⟨G, S, ds, x, dx, vs', H1, e, eH, hx, hdx, ne, ok, so, p, q⟩ => ?_)
  subst e eH
  refine ⟨_, hbody cdv A outer s _ E hr (L2N.takes_of rfl rfl rfl rfl), _, H1, S, .me (.obj c []) :: startE bm ds k, _, Rel.startMe ok so p (by rw [List.length_cons, p.len.1, hbm, hk]; omega) hx hdx ne, ?_⟩
  unfold mkIni at q
  cases r : body (.me (.obj c []) :: startE bm ds k) S with
  | nx ρ' S' =>
    rw [r] at q
    intro G' σ' H' R' z
    simp only at q
    cases q0 : ρ'[0]? with
    | none => simp only [q0, IniEnd] at q
    | some sl =>
      cases sl with
      | me d =>
        simp only [q0] at q
        obtain ⟨o, ho, v, rfl, ⟨a, as, rfl, cc, hl⟩, hm⟩ := R'.slot 0 _ q0
        have ea : a = x := by
          have : some (V.ref x) = some (V.ref a) := hm
          cases this
          rfl
        subst ea
        refine q as _ H' R'.leave.1 out_only (Stp.me R'.leave.2) ⟨cc, fun b hb => ⟨?_, (R'.ok.labz b _ (hl b hb)).1⟩⟩ fun b hb => R'.ownNew (hl b hb)
        cases e : G'.out.lab b with
        | none => rfl
        | some l =>
          have := out_some.mp e
          rw [hl b hb] at this
          obtain ⟨h1, h2⟩ := this
          cases h1
          simp [Lab.st] at h2
      | _ => simp only [q0, IniEnd] at q
  | rt v S' => rw [r] at q; exact q.elim
  | exc n ρ' S' => rw [r] at q; exact fun G' σ' H' R' z => q _ H' R'.leave.1 out_only (Stp.me R'.leave.2)
  | bk ρ' S' => rw [r] at q; exact q.elim
  | ct ρ' S' => rw [r] at q; exact q.elim
  | stuck => rw [r] at q; exact q.elim
end
section
variable {X : Cx} {cl : ClsP} {W : WX} {e : Expr} {es : List Expr} {pos : Pos} {k : Nat} {f C : Addr} {fd : FuncData} {ps : List Str} {bm : List Bool} {x : Str} {p : Pos} {ax : Ax} {sp : Sp} {t : TA}
def tMakeS (C : Addr) (sp : Sp) (W : WX) (t : TA) : TE := fun σ H Q => t σ H fun vs H1 => ∀ x dx, H1 x = none → H1 dx = none → dx ≠ x → sp (.ref x :: vs) (upd (upd H1 dx (.own x)) x (.ins C dx [])) (fun v H2 => v = .non ∧ Q (.ref x) H2) (WE W σ)
theorem run_makeS {pins : List (Addr × Obj)} {σ : L2.St} {H : Hp} {s : Shared} {Q : VK} {us : List Value} {vs : List V} (M : Mk X.K C f) (F : FnOk X.prog X.w X.K X.mg X.base (L2N.CX X.prog X.w) k f fd ps sp) (hr : Room (k + 1) X.A) (hb : Binds X.K fd ps [])
    (tk : L2N.Takes X W) (I : Inv X pins σ H s) (r : Vals vs us)
    (h : ∀ x dx, H x = none → H dx = none → dx ≠ x → sp (.ref x :: vs) (upd (upd H dx (.own x)) x (.ins C dx [])) (fun v H2 => v = .non ∧ Q (.ref x) H2) (WE W σ)) :
    wpAny (model X.prog X.w) X.A (call (.ref C) us) (EP X pins σ Q) X.xe s := by
  have hq := h (s.heap.objs.size + 1) s.heap.objs.size (I.hok.fresh (Nat.le_succ _)) (I.hok.fresh (Nat.le_refl _)) (Nat.ne_of_lt (Nat.lt_succ_self _))
  have I2 := Inv.made (C := C) I
  have r2 : Vals (V.ref (s.heap.objs.size + 1) :: vs) (Value.ref (s.heap.objs.size + 1) :: us) := .cons rfl r
  have hl : (Value.ref (s.heap.objs.size + 1) :: us).length = ps.length := by
    have e := r2.length
    rw [F.len _ _ _ _ hq] at e
    exact e.symm
  have hl2 : ((Value.ref (s.heap.objs.size + 1) :: us) ++ []).length = ps.length := by rw [List.append_nil]; exact hl
  have hb2 := hb _ (Value.ref (s.heap.objs.size + 1) :: us) I2.kIn hl2
  rw [List.append_nil] at hb2
  refine wpAny_call (make_map (f := f) I.kIn M.makes M.init (beq_iff_eq.mp M.fn) (codeAny_mono (F.run _ X.stack _ _ ⟨Value.ref (s.heap.objs.size + 1) :: us, []⟩ (Value.ref (s.heap.objs.size + 1) :: us) _ _ (WE W σ) (hr.make C us [])
    (I2.env0.make C us []) hb2 r2 hq) fun r s' hq' => ?_))
  cases r with
  | error e => exact L2N.passAt tk σ pins _ _ e s' I2 hq'
  | ok fl =>
    cases fl with
    | ret u =>
      obtain ⟨v, H', I3, rv, ev, q3⟩ := I2.after hq'
      subst ev
      exact ⟨rv, ⟨V.ref (s.heap.objs.size + 1), H', I3, rfl, q3⟩⟩
    | next => exact False.elim hq'
    | brk => exact False.elim hq'
    | cont => exact False.elim hq'
theorem pe_makeS (M : Mk X.K C f) (F : FnOk X.prog X.w X.K X.mg X.base (L2N.CX X.prog X.w) k f fd ps sp) (hr : Room (k + 1) X.A) (hg : Gl X x) (hm : X.mg x = some (.ref C)) (hb : Binds X.K fd ps []) (tk : L2N.Takes X W)
    (ha : PA X (e :: es) t) (hdb : (x == ("__debug__" : Str)) = false := by decide) (he : starEach (e :: es) X.env = (false, eval e X.env) :: starEach es X.env := by rfl) (hpl : (backTo pos (starEach es X.env)).any (·.1) = false := by rfl) :
    PE X (.Call (.Name x p) (e :: es) [] pos) (tMakeS C sp W t) := by
  refine ⟨fun pins s σ H Q I h => ?_⟩
  refine wpAny_Call_Name_kw (ld_glob I hg hm ?_ hdb)
  refine PySem.W.callWith_K (h₀ := X.base) I.ok.mod.kin M.kp (thn (ha.run pos pins s σ H _ I h) fun us s1 ⟨vs, H1, I1, r, q⟩ => ⟨I1.kIn, ?_⟩) he hpl
  exact run_makeS M F hr hb tk I1 r q
def eMake (m : List D → Store → Res D) (ca : Ax) : Ex := fun ρ S => (ca ρ S).bind fun ds S => m ds S
theorem make_sem {G0 : Gh} {H0 : Hp} {S : Store} {ρ : Env} {G : Gh} {σ : L2.St} {H : Hp} {y : Addr} {r : Res D} {Q : VK} (R : Rel X.K cl G0 H0 S ρ G σ H) (h : Aft X.K cl (PN X.K cl) W G0 H0 ρ σ G H r Q) : IniEnd X.K cl G.out H y r (fun v H2 => v = .non ∧ Q (.ref y) H2) (WE W σ) := by
  cases r with
  | ok d S' =>
    intro as G' H' ok so st n hn
    obtain ⟨R', s'⟩ := R.join ok so st
    exact ⟨rfl, h _ _ H' R' s' ⟨y, as, rfl, new_join R n hn, hn⟩⟩
  | exc n S' =>
    intro G' H' ok so st
    obtain ⟨R', s'⟩ := R.join ok so st
    exact h _ H' R' s'
  | stuck => exact h
theorem sn_make {c : Nat} {m : Ini} (M : Mk X.K (cl c) f) (F : FnOk X.prog X.w X.K X.mg X.base (L2N.CX X.prog X.w) k f fd ps (spIni X.K cl c bm m)) (hr : Room (k + 1) X.A) (hg : Gl X x) (hm : X.mg x = some (.ref (cl c))) (hb : Binds X.K fd ps []) (tk : L2N.Takes X W) (ha : SA X cl W bm (e :: es) ax)
    (hdb : (x == ("__debug__" : Str)) = false := by decide) (he : starEach (e :: es) X.env = (false, eval e X.env) :: starEach es X.env := by rfl) (hpl : (backTo pos (starEach es X.env)).any (·.1) = false := by rfl) : SN X cl W (.Call (.Name x p) (e :: es) [] pos) (eMake (m c) ax) :=
  PE.weak (pe_makeS M F hr hg hm hb tk ha hdb he hpl) fun σ H Q ⟨G0, H0, S, ρ, G, R, h⟩ => by
    refine tX.bind (Pa := PA1 X.K cl bm) pnM R h fun ds vs S1 G1 H1 R1 s1 p1 h1 => ?_
    intro y dx hy hdx ne
    exact ⟨G1.out, S1, ds, y, dx, vs, H1, rfl, rfl, hy, hdx, ne, R1.leave.1, out_only, ArgsOk.out p1, make_sem R1 h1⟩
structure ObCls (K : PySem.W.Frag) (C : Addr) : Prop where
  cls : Cls K C
  ha : PySem.W.findIn K (.ref C) "__class__" = some (some (.builtin "object.__class__"))
  hn : PySem.W.specialIn K (.builtin "object.__class__") "__get__" = some (some (.builtin "getset_descriptor.__get__"))
  ht : PySem.W.takesIn K (.builtin "object.__class__") = some true
  hm : PySem.W.mroIn K C (.type "object") = some true
def sRaise (n : Nat) : Stm := fun ρ S => .exc n ρ S
structure ExCls (K : PySem.W.Frag) (C : Addr) : Prop where
  xi : PySem.W.excIn K C [.type "ValueError", .type "Exception", .type "BaseException", .type "object"] "ValueError.__new__" = true
  kp : PySem.W.keepIn K (.ref C) = true
  sb : PySem.W.subIn K (.ref C) (.type "BaseException") = some true
  ty : PySem.W.typeIn K (.ref C) = some (.type "type")
theorem ss_raise {n : Nat} {x m : Str} {j : Nat} {p p2 pos2 : Pos} (hc : X.calm = true) (tk : L2N.Takes X W) (ex : ExCls X.K (cl n)) (gC : X.mg x = some (.ref (cl n))) (hg : Gl X x) (hdb : (x == ("__debug__" : Str)) = false := by decide) : SS X cl W (.Raise (some (.Call (.Name x p) [.Constant (.str m) j p2] [] pos)) none pos2) (sRaise n) :=
  PS.weak (L2N.ps_raise hc tk (L2N.pmk_own PySem.F.excBase_ValueError ex.xi gC ex.kp (raises_own ex.sb ex.ty) hg hdb)) fun D σ H ⟨G0, H0, S, ρ, G, R, h⟩ => h G σ H R (Zle.refl _)
end
def clOf (K : PySem.W.Frag) (names : List Str) (n : Nat) : Addr := match names[n]? with
  | some x => (match PySem.W.nsIn K mainGlobals x with
    | some (some (.ref a)) => a
    | _ => 0)
  | none => 0
theorem clOf_eq {K : PySem.W.Frag} {names : List Str} {n : Nat} {x : Str} {a : Addr} (h1 : names[n]? = some x) (h2 : PySem.W.nsIn K mainGlobals x = some (some (.ref a))) : clOf K names n = a := by
  unfold clOf; rw [h1]; simp only [h2]
end PM
set_option maxHeartbeats 1000000
namespace PM
open PySem PySem.Spec PyProof.Rows L2
section
variable {X : Cx} {cl : ClsP} {W : WX} {e tg a b c : Expr} {ca cb cc : Ex} {pos : Pos}

def fMin2 : List D → Option D
  | [.int i, .int j] => some (.int (if j < i then j else i))
  | _ => none
theorem cs_min2 : CallS X cl [true, true] (fun xs H Q => ∃ i j, xs = [.int i, .int j] ∧ Q (.int (if j < i then j else i)) H) fMin2 (PF X.K cl) := fun {G0 H0 S ρ G σ H vs ds z Q} R p q k => by
  unfold fMin2 at q
  split at q
  · cases q
    obtain ⟨v, v', rfl, h, h'⟩ := p.two
    exact ⟨_, _, by rw [h.int, h'.int], k _ G H R (Stp.refl _ _) (.int _)⟩
  · cases q
def D.ints : List D → Option (List Int)
  | [] => some []
  | .int i :: r => (D.ints r).map (i :: ·)
  | _ :: _ => none
def D.strs : List D → Option (List Str)
  | [] => some []
  | .str i :: r => (D.strs r).map (i :: ·)
  | _ :: _ => none
section
variable {K : PySem.W.Frag} {mu : List Addr} {Z : Hp}
end
def rngC (lo c : Int) (n : Nat) : List D := (List.range n).map fun (k : Nat) => .int (lo + (k : Int) * c)
theorem iter_rngC {K : PySem.W.Frag} {G0 G : Gh} {H0 : Hp} {lo c : Int} {n : Nat} : IterOk K cl (Itc lo c n) (rngC lo c n) G0 H0 G where
  go := fun S ρ G' σ H i d R z e => by
    unfold rngC at e
    rw [List.getElem?_map] at e
    by_cases hi : i < n
    · rw [List.getElem?_range hi] at e
      cases e
      refine ⟨hi, fun x H2 y => ⟨y.1, ?_⟩⟩
      rw [y.2]
      exact .int _
    · rw [List.getElem?_eq_none (by simpa using hi)] at e
      cases e
  stop := fun S ρ G' σ H R z => by
    show n ≤ (rngC lo c n).length
    unfold rngC
    rw [List.length_map, List.length_range]
    exact Nat.le_refl _
def stepN (i j c : Int) : Nat := if i < j then ((j - i - 1) / c + 1).toNat else 0
theorem rgC_pos {i j c : Int} (hi : -1000000000 ≤ i) (hi' : i ≤ 1000000000) (hj : -1000000000 ≤ j) (hj' : j ≤ 1000000000) (hc : 0 < c) (hc' : c ≤ 1000000000) : RgC i j c (stepN i j c) := by
  have hs : Builtin.Range.rangeSize i j c = (stepN i j c : Int) := by
    unfold Builtin.Range.rangeSize stepN
    rw [if_pos hc]
    split
    · have := Int.ediv_nonneg (a := j - i - 1) (b := c) (by omega) (by omega)
      omega
    · rfl
  refine ⟨by omega, by omega, ?_, hs⟩
  unfold Builtin.Range.small
  rw [hs]
  have h1 : (stepN i j c : Int) * c ≤ 2000000000 + c ∧ (stepN i j c : Int) ≤ 2000000001 := by
    unfold stepN
    split
    · have h0 := Int.ediv_nonneg (a := j - i - 1) (b := c) (by omega) (by omega)
      have h2 := Int.ediv_mul_le (j - i - 1) (show c ≠ 0 by omega)
      have h3 := Int.ediv_le_self c (show (0 : Int) ≤ j - i - 1 by omega)
      have e : ((((j - i - 1) / c + 1).toNat : Nat) : Int) = (j - i - 1) / c + 1 := by omega
      rw [e, Int.add_mul]
      omega
    · simp; omega
  have h0 : (0 : Int) ≤ (stepN i j c : Int) * c := Int.mul_nonneg (by omega) (by omega)
  simp only [Builtin.Range.rangeFitsLong, Bool.and_eq_true, Bool.or_eq_true, decide_eq_true_eq, beq_iff_eq, show c > 0 from hc, if_true]
  have e1 : ((stepN i j c : Int) - 1) * c = (stepN i j c : Int) * c - c := by rw [Int.sub_mul, Int.one_mul]
  refine ⟨⟨⟨by omega, by omega⟩, by omega⟩, ?_⟩
  omega
def fR3 : List D → Option (List D)
  | [.int i, .int j, .int c] => if ((-1000000000 ≤ i ∧ i ≤ 1000000000) ∧ -1000000000 ≤ j ∧ j ≤ 1000000000) ∧ 0 < c ∧ c ≤ 1000000000 then some (rngC i c (stepN i j c)) else none
  | _ => none
theorem fR3_some {ds zs : List D} (h : fR3 ds = some zs) : ∃ i j c, ds = [.int i, .int j, .int c] ∧ (((-1000000000 ≤ i ∧ i ≤ 1000000000) ∧ -1000000000 ≤ j ∧ j ≤ 1000000000) ∧ 0 < c ∧ c ≤ 1000000000) ∧ zs = rngC i c (stepN i j c) := by
  unfold fR3 at h
  split at h
  · split at h
    · cases h
      exact ⟨_, _, _, rfl, by assumption, rfl⟩
    · cases h
  · cases h
abbrev iR3 := iFn fR3
theorem ArgsOk.three {K : PySem.W.Frag} {G : Gh} {H : Hp} {vs : List V} {d d' d'' : D} (h : ArgsOk K cl G H [true, true, true] vs [d, d', d'']) : ∃ v v' v'', vs = [v, v', v''] ∧ RepT K cl G H v d ∧ RepT K cl G H v' d' ∧ RepT K cl G H v'' d'' := by
  cases h with
  | bo h t =>
    obtain ⟨v', v'', rfl, h', h''⟩ := t.two
    exact ⟨_, v', v'', rfl, h, h', h''⟩
theorem si_range3 {ax : Ax} {p : Pos} (hg : Gl X "range") (hm : X.mg "range" = none) (ha : SA X cl W [true, true, true] [a, b, c] ax) (hs : starEach [a, b, c] X.env = (false, eval a X.env) :: starEach [b, c] X.env := by rfl) (hpl : (backTo pos (starEach [b, c] X.env)).any (·.1) = false := by rfl) : SI X cl W tg (.Call (.Name "range" p) [a, b, c] [] pos) (iR3 ax) := PI.weak (pi_range3 hg hm ha hs hpl) fun σ H Rr ⟨G0, H0, S, ρ, G, R, h⟩ => by
  refine ⟨G0, H0, S, ρ, G, R, ?_⟩
  unfold iR3 iFn at h
  cases q : ax ρ S with
  | ok ds S' =>
    rw [q] at h
    intro vs G' H' R' s p
    simp only [Res.bind] at h
    cases q2 : fR3 ds with
    | none => rw [q2] at h; exact h.elim
    | some zs =>
      rw [q2] at h
      obtain ⟨i, j, c, rfl, hz, rfl⟩ := fR3_some q2
      obtain ⟨v, v', v'', rfl, rv, rv', rv''⟩ := ArgsOk.three p
      exact ⟨i, j, c, _, by rw [rv.int, rv'.int, rv''.int], rgC_pos hz.1.1.1 hz.1.1.2 hz.1.2.1 hz.1.2.2 hz.2.1 hz.2.2, h _ G' H' R' s iter_rngC⟩
  | exc n S' => rw [q] at h; exact h
  | stuck => rw [q] at h; exact h
theorem eChain_bl {f f' : D → D → Option D} (hb' : Bls f') {ρ : Env} {S S' : Store} {d : D} (h : eChain f f' ca cb cc ρ S = .ok d S') : ∃ k, d = .bl k := by
  unfold eChain at h
  cases q1 : ca ρ S with
  | ok d1 S1 =>
    rw [q1] at h
    simp only [Res.bind] at h
    cases q2 : cb ρ S1 with
    | ok d2 S2 =>
      rw [q2] at h
      simp only at h
      split at h
      · cases q3 : cc ρ S2 with
        | ok d3 S3 =>
          rw [q3] at h
          simp only at h
          cases q4 : f' d2 d3 with
          | none => rw [q4] at h; cases h
          | some z => rw [q4] at h; cases h; exact hb' _ _ _ q4
        | exc n S3 => rw [q3] at h; cases h
        | stuck => rw [q3] at h; cases h
      · cases h; exact ⟨_, rfl⟩
      · cases h
    | exc n S2 => rw [q2] at h; cases h
    | stuck => rw [q2] at h; cases h
  | exc n S1 => rw [q1] at h; cases h
  | stuck => rw [q1] at h; cases h
theorem st_ch {op op' : CmpOp} {r r' : R2} {f f' : D → D → Option D} (hb' : Bls f') (ho : OpR X (compareOp op) r) (ho' : OpR X (compareOp op') r') (hs : OpS X cl r f (PF X.K cl)) (hs' : OpS X cl r' f' (PF X.K cl)) (ha : SB X cl W a ca) (hb : SB X cl W b cb) (hc : SB X cl W c cc) (hm : lastMarks [op, op'] [b, c] = false := by with_unfolding_all rfl) : STt X cl W (.Compare a [op, op'] [b, c] pos) (eTr (eChain f f' ca cb cc)) :=
  PT.weak (pt_chain ho ho' ha hb hc hm) fun σ H Q ⟨G0, H0, S, ρ, G, R, h⟩ => by
    refine chain_sem (Q := fun x H' => ∃ k, x = .bl k ∧ Q k H') hs hs' ⟨G0, H0, S, ρ, G, R, ?_⟩
    unfold eTr at h
    cases q : eChain f f' ca cb cc ρ S with
    | ok d S' =>
      rw [q] at h
      obtain ⟨k, rfl⟩ := eChain_bl hb' q
      intro v G' H' R' s p
      cases p
      exact ⟨k, rfl, h k G' H' R' s rfl⟩
    | exc n S' => rw [q] at h; exact h
    | stuck => rw [q] at h; exact h

end
end PM
set_option maxHeartbeats 1000000
namespace PM
open PySem PySem.Spec PyProof.Rows L2
def sWipe (is : List Nat) : Stm := fun ρ S => .nx (wipeE ρ is) S
section
variable {X : Cx} {cl : ClsP} {W : WX} {s1 : Stm} {rest : List Stmt}
theorem Rel.drops {K : PySem.W.Frag} {G0 G : Gh} {H0 H : Hp} {S : Store} {ρ : Env} {σ : L2.St} (R : Rel K cl G0 H0 S ρ G σ H) : ∀ is : List Nat, Rel K cl G0 H0 S (wipeE ρ is) G σ H
  | [] => R
  | i :: is => (Rel.drops R is).drop1 i
theorem ss_wipe {is : List Nat} (h : SSs X cl W rest s1) : SSs X cl W rest (sSeq (sWipe is) s1) := PSs.weak h fun D σ H ⟨G0, H0, S, ρ, G, R, q⟩ => ⟨G0, H0, S, wipeE ρ is, G, R.drops is, q⟩
end
end PM
namespace PM
open PySem PySem.Spec PyProof.Rows L2
theorem sp_startR {K : PySem.W.Frag} {cl : ClsP} (bm : List Bool) {m : Fn} {H : Hp} {a : Addr} {ns : List Int} (hb : bm = [true] ∨ bm = [false]) (h : ∃ S, resF (m [.scr ns] []) = .ok (.bl true) S) (hS : SqL K H a (ns.map V.int)) : spOf K cl bm m [.ref a] H (fun v _ => v = .bl true) (fun _ _ _ => False) := by
  obtain ⟨S, h⟩ := h
  refine ⟨{ Z := H, lab := fun _ => none, mu := [], me := none }, [], [.scr ns], ⟨fun _ _ e => e, fun _ _ e => (by cases e), fun n c e => (by simp at e), rfl⟩, fun _ _ e => (by cases e), ?_, ?_⟩
  · rcases hb with rfl | rfl
    · exact .bo (.inl (.scr hS)) .nil
    · exact .fr (.scr hS) .nil
  · cases q : m [.scr ns] [] with
    | ok v S' =>
      cases v with
      | fr d =>
        rw [q] at h
        simp only [resF] at h
        cases h
        intro v G' H' _ _ _ r
        cases r
        rfl
      | ow d =>
        rw [q] at h
        simp only [resF] at h
        cases h
        intro a as G' H' _ _ _ n _
        cases n.1
    | exc n S' => rw [q] at h; simp only [resF, reduceCtorEq] at h
    | stuck => rw [q] at h; simp only [resF, reduceCtorEq] at h
end PM
set_option maxHeartbeats 2000000
namespace PM
open PySem PySem.Spec PyProof.Rows L2
section
variable {X : Cx} {pins : List (Addr × Obj)} {σ : L2.St} {H : Hp} {s : Shared}
theorem inv_track {e : Addr} {c : Option Addr} {kind : Value} {ob : Obj} {parts : Array Value} (I : Inv X pins σ H s) (here : s.heap.get? e = some ob) (hz : Zc kind none ob) (hd : ob.data = .fields parts) (hcx : parts[2]? = some (ctxV c)) (hn : H e = none) (new0 : X.s_0.heap.get? e = none)
    (nl : e ≠ X.env.locals) (np : ∀ p ∈ X.pn ++ pins, p.1 ≠ e) : Inv (X.suite e (X.pn ++ pins)) [] σ (upd H e (exnO kind e c)) s := by
  have off : ∀ {b : Addr}, b ≠ e → upd H e (exnO kind e c) b = H b := fun h => upd_ne h
  have far : ∀ {b : Addr} {o : Obj}, X.s_0.heap.get? b = some o → b ≠ e := fun {b o} h z => by rw [z, new0] at h; cases h
  have tracked : ∀ {b : Addr} {o : HO}, H b = some o → upd H e (exnO kind e c) b = some o := fun {b o} h => by
    rw [off fun z => by rw [z, hn] at h; cases h]; exact h
  refine ⟨I.ok.suite _ _, I.os, I.bare, ⟨I.base.keep, I.base.slot, ?_, I.base.there, ?_, ?_, ?_⟩, I.loc, I.cell, ?_, ?_, ?_, ?_, I.len⟩
  · intro b o h1 h2 h3
    rw [off (far h1)]
    exact I.base.free b o h1 h2 h3
  · exact fun b xs h => tracked (I.base.tups b xs h)
  · exact fun b o u h => tracked (I.base.frzs b o u h)
  · intro b ps h
    obtain ⟨more, h'⟩ := I.base.tbls b ps h
    exact ⟨more, tracked h'⟩
  · exact (off fun z => nl z.symm).trans I.free
  · intro x c h
    refine (off fun z => ?_).trans (I.freeC x c h)
    obtain ⟨v, o, h1, h2⟩ := I.cell x c h
    rw [z, here] at h1
    cases h1
    rw [hd] at h2
    cases h2
  · intro p hp
    have hp' : p ∈ X.pn ++ pins := by rw [List.append_nil] at hp; exact hp
    obtain ⟨h1, h2, h3⟩ := I.pin p hp'
    exact ⟨h1, (off (np p hp')).trans h2, h3⟩
  · exact I.hok.laidN (fun _ _ h => h) hn ⟨⟨ob, parts, here, hz, hd, hcx⟩, ⟨ob, here⟩, fun _ _ ⟨o, v, h1, h2⟩ k => ⟨o, v, k o h1, h2⟩⟩
theorem inv_untrack {e : Addr} {pn' : List (Addr × Obj)} (I : Inv (X.suite e (X.pn ++ pins)) pn' σ H s) (ok : X.Ok) : Inv X pins σ H s :=
  ⟨ok, I.os, I.bare, I.base, I.loc, I.cell, I.free, I.freeC, fun p hp => I.pin p (List.mem_append_left _ hp), I.hok, I.len⟩
end
def wAsT (K : PySem.W.Frag) (c : Value) (i : Nat) (ts : Value → Addr → TS) (Wout : WX) (D : Ends) : WX := fun cls d σ H =>
  ∃ hit, PySem.W.exmOne K cls c = some hit ∧ (hit = true → d = none ∧ ∀ e, H e = none → i < σ.length → ts cls e { nx := fun σ' H' => D.nx (σ'.set i none) H', rt := D.rt, bk := fun σ' H' => D.bk (σ'.set i none) H', ct := fun σ' H' => D.ct (σ'.set i none) H' } (σ.set i (some (.ref e))) (upd H e (exnO cls e none))) ∧
    (hit = false → Wout cls d σ H)
section
variable {X : Cx} {x n : Str} {c : Value} {i : Nat} {body suite : List Stmt} {first : Stmt} {np pos pos' : Pos} {tb : WX → TS} {ts : Value → Addr → TS} {Wout : WX}
theorem ps_tryT (hs : X.stack = X.env :: X.outer) (hf : X.env.frame = some X.env.locals) (hN : X.N.Nodup) (hi : X.N[i]? = some n) (hln : X.env.kindOf n = some .local) (hc : Names X x c) (tk : L2N.Takes X Wout) (hex : X.ex = [])
    (hb : ∀ (W : WX) (pn : List (Addr × Obj)) (xe : Value → Shared → Prop), L2N.Takes (X.tr pn xe) W → PassesOwn (model X.prog X.w) X.A X.env xe → PSs (X.tr pn xe) body (tb W))
    (hsu : ∀ (e : Addr) (cls : Value) (pn : List (Addr × Obj)), PSs (X.suite e pn) (first :: suite) (ts cls e)) :
    PS X (.Try body [.ExceptHandler (some (.Name x np)) (some n) (first :: suite) pos'] [] [] pos) (fun D σ H => tb (wAsT X.K c i ts Wout D) D σ H) := by
  refine ⟨fun pins s0 σ H D I want => ?_⟩
  have ok := I.ok
  have fr : X.A.frames = some (X.env :: X.outer) := by rw [ok.frames, hs]
  refine wpAny_Try_except (wpAny_mono ((hb (wAsT X.K c i ts Wout D) (X.pn ++ pins)
    (fun u t => wpAny (model X.prog X.w) X.A (noteFrame u X.env) (fun _ t2 => wpAny (model X.prog X.w) X.A (setFlight u none)
      (fun _ t3 => wpAny (model X.prog X.w) X.A (handleBy u X.env [.ExceptHandler (some (.Name x np)) (some n) (first :: suite) pos']) (SP X pins D) X.xe t3) X.xe t2) X.xe t)
    (fun u t caught => ?_) PassesOwn.looking).run [] s0 σ H D (I.toTry _) want) ?_ fun u t h => h)
  · obtain ⟨e, B, t0, pins', τ, G, cls, d, rfl, J', grd, upS, sky, free, osq, bareq, wish⟩ := caught
    have J : Inv X pins τ G t0 := J'.ofTry ok
    have sky1 : Sky B (X.env :: X.outer) e (L2N.Zn cls d) X.env.locals t.heap := by rw [← hs]; exact sky
    obtain ⟨hit, hm, yes, no⟩ := wish
    show wpAny _ X.A (noteFrame (.ref e) X.env) _ _ _
    refine L2N.Sky.land L2N.Zn.steady fr hf sky1 fun g3 air3 up3 => ?_
    have J3 : Inv X pins τ G { t with heap := g3 } := J.landed grd air3.1 (upS.trans up3) osq bareq
    obtain ⟨o3, v3, at3, z3, d3⟩ := air3.there
    have offFr : e ∉ frs (X.env :: X.outer) := fun hm => by
      obtain ⟨_, o', at', hnf⟩ := air3.2.2.1.mem hm
      rw [at3] at at'; cases at'
      exact hnf _ d3
    have notLoc : e ≠ X.env.locals := fun z => offFr (List.mem_filterMap.mpr ⟨X.env, List.mem_cons_self, by rw [hf, z]⟩)
    have notFs : e ∉ X.fs := fun hm => by
      obtain ⟨q, hq, z⟩ := List.mem_filterMap.mp hm
      exact offFr (List.mem_filterMap.mpr ⟨q, List.mem_cons_of_mem _ hq, z⟩)
    -- the exception is new
    have new : t0.heap.get? e = none := by
      cases q : t0.heap.get? e with
      | none => rfl
      | some o =>
        have z := grd e o q (by rw [hs]; exact offFr)
        rw [air3.2.1] at z; cases z
    have new0 : X.s_0.heap.get? e = none := by
      cases q : X.s_0.heap.get? e with
      | none => rfl
      | some o =>
        obtain ⟨o', z⟩ := J.base.there e o q (by rw [hex]; simp)
        rw [new] at z; cases z
    have offPins : ∀ p ∈ X.pn ++ pins, p.1 ≠ e := fun p hp z => by
      have q := (J.pin p hp).1
      rw [z, new] at q; cases q
    have S3 := J3.suite at3 d3 free notLoc notFs
    refine wpAny_handleBy_cons (codeAny_handlers_test ?_) (by intro q; cases q)
    have kindAt : PySem.W.Looks (model X.prog X.w) g3 (typeOf (.ref e)) cls := fun A Q E s k q => wpAny_typeOf_ref (k _ _ at3) (by rw [z3.1]; exact q)
    have asks := PySem.W.exm_one (M := model X.prog X.w) J3.kIn kindAt hm
    have named : ∀ {Q E : Value → Shared → Prop}, Q c { t with heap := g3 } → wpAny (model X.prog X.w) (X.A.mark (some (.ref e))) (eval (.Name x np) X.env) Q E { t with heap := g3 } := fun {Q E} q => by
      obtain ⟨hg, hdb, h | ⟨h, hv, hnn⟩⟩ := hc
      · exact ld_glob (X := X.suite e ((e, o3) :: (X.pn ++ pins))) S3 hg h q hdb
      · exact ld_blt (X := X.suite e ((e, o3) :: (X.pn ++ pins))) S3 hg h hv q hnn hdb
    refine named (asks.here ?_)
    cases hit with
    | false =>
      show wpAny _ X.A (handleBy (.ref e) X.env []) _ _ _
      refine wpAny_handleBy_nil ?_
      obtain ⟨_, _, _, o, _, T, _, _, hat, _, hdt, hfl, _⟩ := id air3
      unfold PySem.passOn
      refine wpAny_bind (wpAny_field hat hdt hfl ?_)
      rw [if_neg (show ¬ ((Value.ref T == Value.none) = true) by simp)]
      have go : wpAny (model X.prog X.w) X.A (setFlight (.ref e) X.env.frame) (fun _ t4 => wpAny (model X.prog X.w) X.A (throw (.ref e) : Sem Flow) (SP X pins D) X.xe t4) X.xe { t with heap := g3 } := by
        rw [hf]
        exact HandSPX.setFlight_upZ air3 fun g4 air4 up4 => wpAny_throw (tk _ _ ⟨e, B, t0, pins, τ, G, cls, d, rfl, J, grd, (upS.trans up3).trans up4, .inr (.inr (by rw [hs]; exact air4)), free, osq, bareq, no rfl⟩)
      first
        | exact wpAny_bind (wpAny_pure (wpAny_bind go))
        | exact wpAny_bind go
    | true =>
      obtain ⟨hdn, run⟩ := yes rfl
      subst hdn
      refine codeAny_handlers_suite_as (HandSPX.lands_againZ air3 fun g4 air4 up4 => ?_)
      have J4 : Inv X pins τ G { t with heap := g4 } := J.landed grd air4.1 ((upS.trans up3).trans up4) osq bareq
      obtain ⟨o4, v4, at4, z4, d4⟩ := air4.there
      have T4 := inv_track (c := none) J4 at4 z4.zc d4 (z4.2.2 v4 d4) free new0 notLoc offPins
      refine store_ok (X := X.suite e (X.pn ++ pins)) (v := .ref e) T4 hN hi (.inl hln) rfl (fun t5 T5 => ?_) (.inr hln)
      refine wpAny_mono ((hsu e cls (X.pn ++ pins)).run [] t5 _ _ _ T5 (run e free (by rw [J.len]; exact (List.getElem?_eq_some_iff.mp hi).1))) (fun f t6 hsp => ?_) fun _ _ z => z.elim
      have close : ∀ {τ6 : L2.St} {G6 : Hp} {Q : Shared → Prop}, Inv (X.suite e (X.pn ++ pins)) [] τ6 G6 t6 → (∀ t7, Inv X pins (τ6.set i none) G6 t7 → Q t7) →
          wpAny (model X.prog X.w) X.A (do bindName X.env n .none; unbindBehindTheSuite X.env n pos') (fun _ t7 => Q t7) X.xe t6 := fun {τ6 G6 Q} S6 hq => gone_ok (inv_untrack S6 ok) hN hi hln hq
      cases f with
      | next =>
        obtain ⟨τ6, G6, S6, q6⟩ := hsp
        exact close S6 fun t7 J7 => ⟨_, _, J7, q6⟩
      | brk =>
        obtain ⟨τ6, G6, S6, q6⟩ := hsp
        exact close S6 fun t7 J7 => ⟨_, _, J7, q6⟩
      | cont =>
        obtain ⟨τ6, G6, S6, q6⟩ := hsp
        exact close S6 fun t7 J7 => ⟨_, _, J7, q6⟩
      | ret u =>
        obtain ⟨w6, τ6, G6, S6, r6, q6⟩ := hsp
        exact close S6 fun t7 J7 => ⟨_, _, _, J7, r6, q6⟩
  · intro f t hsp
    cases f with
    | next =>
      obtain ⟨τ, G, J', q⟩ := hsp
      exact wpAny_execs_nil ⟨τ, G, J'.ofTry ok, q⟩
    | brk =>
      obtain ⟨τ, G, J', q⟩ := hsp
      exact ⟨τ, G, J'.ofTry ok, q⟩
    | cont =>
      obtain ⟨τ, G, J', q⟩ := hsp
      exact ⟨τ, G, J'.ofTry ok, q⟩
    | ret u =>
      obtain ⟨w, τ, G, J', r, q⟩ := hsp
      exact ⟨w, τ, G, J'.ofTry ok, r, q⟩
end
end PM
set_option maxHeartbeats 1000000
namespace PM
open PySem PySem.Spec PyProof.Rows L2
section
variable {X : Cx} {cl : ClsP} {W : WX} {a : Expr} {ca : Ex} {pos : Pos}
theorem RepV.exnv {K : PySem.W.Frag} {G : Gh} {H : Hp} {v : V} {n : Nat} (h : RepV K cl G H v (.exn n)) (zs : Same G.Z H) : ∃ e c, v = .ref e ∧ H e = some (exnO (.ref (cl n)) e c) := by
  rcases h with h | ⟨_, _, _, c, _⟩
  · cases h with
    | exn hs => exact ⟨_, _, rfl, zs _ _ hs⟩
  · cases c
theorem RepT.exnv {K : PySem.W.Frag} {G : Gh} {H : Hp} {v : V} {n : Nat} (h : RepT K cl G H v (.exn n)) (zs : Same G.Z H) : ∃ e c, v = .ref e ∧ H e = some (exnO (.ref (cl n)) e c) := RepV.exnv h.vw zs
def rIsX (K : PySem.W.Frag) : List V → Hp → VK → Prop := fun xs H Q => ∃ (e C : Addr) (c : V) (cv : Value) (b : Bool), xs = [.ref e, c] ∧ (∀ u, RelV c u → u = cv) ∧ (∃ cx, H e = some (exnO (.ref C) e cx)) ∧ ExcC K C ∧ PySem.W.kitOne K (.ref C) cv = some b ∧ Q (.bl b) H
theorem call_isX : CallR X (.builtin "isinstance") (rIsX X.K) := by
  intro pins s σ H xs us Q I r h
  obtain ⟨e, C, c, cv, b, rfl, hcv, ⟨cx, he⟩, F, hk, q⟩ := h
  obtain ⟨u1, u2, rfl, r1, r2⟩ := vals2 r
  cases hcv _ r2
  cases r1
  obtain ⟨⟨ob, parts, h1, ⟨h2, h3⟩, h4, _⟩, _⟩ := I.hok e _ he
  have J : PySem.W.InstAt s.heap e ob C none := by
    obtain ⟨oc, od, oda, osl⟩ := ob
    cases h2; cases h3; cases h4
    exact ⟨h1, rfl, rfl, trivial⟩
  exact PySem.W.kia_one (PySem.W.handS_kitx_exc F.hg F.hk F.hs F.hd F.ha F.hn F.ht F.hm) I.kIn J hk (fun z => nomatch z) fun tk => ⟨.bl b, H, I.kept (t' := tk) fun _ _ z => z, rfl, q⟩
abbrev HTab := Nat → Option Bool
def eIsX (f : HTab) (ca : Ex) : Ex := fun ρ S => (ca ρ S).bind fun d S => match d with
  | .exn n => Res.opt ((f n).map .bl) S
  | _ => .stuck
def IsXOk (K : PySem.W.Frag) (cl : ClsP) (f : HTab) (cv : Value) : Prop := ∀ n b, f n = some b → ExcC K (cl n) ∧ PySem.W.kitOne K (.ref (cl n)) cv = some b
theorem isx_sem {f : HTab} {cv : Value} {c : V} {t : TA} {σ : L2.St} {H : Hp} {Q : VK} (hf : IsXOk X.K cl f cv) (hc : ∀ u, RelV c u → u = cv) (ht : ∀ σ H (k : List V → Hp → Prop), k [c] H → t σ H k) (h : tX X.K cl (PF X.K cl) W (eIsX f ca) σ H Q) :
    tX X.K cl (PB X.K cl) W ca σ H fun v H1 => t σ H1 fun vs H2 => rIsX X.K (v :: vs) H2 Q := by
  obtain ⟨G0, H0, S, ρ, G, R, h⟩ := h
  refine tX.bind (Pa := PB X.K cl) pfM R h fun d x S1 G1 H1 R1 s1 p1 h1 => ht _ _ _ ?_
  cases d with
  | exn n =>
    simp only at h1
    cases q : f n with
    | none => rw [q] at h1; exact h1.elim
    | some b =>
      rw [q] at h1
      obtain ⟨e, cx, rfl, he⟩ := p1.exnv R1.ok.zsub
      obtain ⟨F, hk⟩ := hf n b q
      exact ⟨e, cl n, c, cv, b, rfl, hc, ⟨cx, he⟩, F, hk, h1 _ G1 H1 R1 (Stp.refl _ _) (.bl _)⟩
  | _ => simp only [Aft] at h1
theorem se_isX {x y : Str} {p p2 : Pos} {f : HTab} {t : Nat} (hf : IsXOk X.K cl f (.ref (cl t))) (hg : Gl X x) (hm : X.mg x = none) (hv : bootBuiltins x = some (.builtin "isinstance")) (ha : SB X cl W a ca)
    (hg2 : Gl X y) (hm2 : X.mg y = some (.ref (cl t))) (hd2 : (y == ("__debug__" : Str)) = false := by decide) (hn : x ≠ "__name__" := by decide) (hdb : (x == ("__debug__" : Str)) = false := by decide)
    (he : starEach [a, .Name y p2] X.env = (false, eval a X.env) :: starEach [.Name y p2] X.env := by rfl) (he2 : starEach [.Name y p2] X.env = (false, eval (.Name y p2) X.env) :: starEach [] X.env := by rfl) (hpl : (backTo pos (starEach [.Name y p2] X.env)).any (·.1) = false := by rfl) : SE X cl W (.Call (.Name x p) [a, .Name y p2] [] pos) (eIsX f ca) :=
  PE.weak (pe_callB call_isX hg hm hv (pa_cons ha (pa_cons (pe_glob hg2 hm2 (v := .ref (cl t)) rfl hd2) pa_nil he2) he) hn hdb he hpl) fun σ H Q h => by
    refine isx_sem (t := tCons (tC (.ref (cl t))) tNil) hf (fun u r => by cases r; rfl) (fun σ H k q => q) h
theorem se_isXv {x y : Str} {p p2 : Pos} {f : HTab} {T : String} (hf : IsXOk X.K cl f (.type T)) (hg : Gl X x) (hm : X.mg x = none) (hv : bootBuiltins x = some (.builtin "isinstance")) (ha : SB X cl W a ca)
    (hg2 : Gl X y) (hm2 : X.mg y = none) (hv2 : bootBuiltins y = some (.type T)) (hn2 : y ≠ "__name__" := by decide) (hd2 : (y == ("__debug__" : Str)) = false := by decide) (hn : x ≠ "__name__" := by decide) (hdb : (x == ("__debug__" : Str)) = false := by decide)
    (he : starEach [a, .Name y p2] X.env = (false, eval a X.env) :: starEach [.Name y p2] X.env := by rfl) (he2 : starEach [.Name y p2] X.env = (false, eval (.Name y p2) X.env) :: starEach [] X.env := by rfl) (hpl : (backTo pos (starEach [.Name y p2] X.env)).any (·.1) = false := by rfl) : SE X cl W (.Call (.Name x p) [a, .Name y p2] [] pos) (eIsX f ca) :=
  PE.weak (pe_callB call_isX hg hm hv (pa_cons ha (pa_cons (pe_bltn hg2 hm2 hv2 (v := .ty T) rfl hn2 hd2) pa_nil he2) he) hn hdb he hpl) fun σ H Q h => by
    refine isx_sem (t := tCons (tC (.ty T)) tNil) hf (fun u r => by cases r; rfl) (fun σ H k q => q) h
end
def sTryT (i : Nat) (hit : HTab) (body suite : Stm) : Stm := fun ρ S => match body ρ S with
  | .exc n ρ' S' => (match hit n with
    | some true => (match suite (ρ'.set i (.fr (.exn n))) S' with
      | .nx r s => .nx (r.set i .un) s
      | .bk r s => .bk (r.set i .un) s
      | .ct r s => .ct (r.set i .un) s
      | .rt v s => .rt v s
      | _ => .stuck)
    | some false => .exc n ρ' S'
    | none => .stuck)
  | r => r
def hands (n : Nat) (ρ : Env) (S : Store) : List (HTab × Stm) → SR
  | [] => .exc n ρ S
  | (hit, suite) :: r => match hit n with
    | some true => (match suite ρ S with
      | .exc _ _ _ => .stuck
      | q => q)
    | some false => hands n ρ S r
    | none => .stuck
def HitOk (K : PySem.W.Frag) (cl : ClsP) (hit : HTab) (c : Value) : Prop := ∀ n b, hit n = some b → PySem.W.exmOne K (.ref (cl n)) c = some b
section
variable {X : Cx} {cl : ClsP} {W : WX} {x n : Str} {c : Value} {i : Nat} {body suite : List Stmt} {first : Stmt} {np pos pos' : Pos} {s1 s2 : Stm} {hit : HTab}
inductive HdsS (X : Cx) (cl : ClsP) : List ExceptHandler → List (HTab × Stm) → List (Value × (Addr → Value → Option Addr → TS)) → Prop
  | nil : HdsS X cl [] [] []
  | cons {x : Str} {c : Value} {first : Stmt} {suite : List Stmt} {np pos' : Pos} {hit : HTab} {s2 : Stm} {hds : List ExceptHandler} {l : List (HTab × Stm)} {l' : List (Value × (Addr → Value → Option Addr → TS))} (hc : Names X x c) (hh : HitOk X.K cl hit c)
      (hsu : ∀ (e : Addr) (oe : Obj) (pn : List (Addr × Obj)), SSs (X.suite e ((e, oe) :: pn)) cl W0 (first :: suite) s2) (r : HdsS X cl hds l l') :
      HdsS X cl (.ExceptHandler (some (.Name x np)) none (first :: suite) pos' :: hds) ((hit, s2) :: l) ((c, fun _ _ _ => tS X.K cl W0 s2) :: l')
theorem HdsS.ok {hds : List ExceptHandler} {l : List (HTab × Stm)} {l' : List (Value × (Addr → Value → Option Addr → TS))} (h : HdsS X cl hds l l') : L2N.HdsOk X hds l' := by
  induction h with
  | nil => exact .nil
  | cons hc hh hsu r ih => exact .cons hc (fun a oe cls d pn _ _ => hsu a oe pn) ih
end
theorem kit_of {K : PySem.W.Frag} {t : Value} {C : Addr} {b : Bool} (h1 : PySem.W.isClsIn K C = true) (h2 : PySem.W.typeIn K (.ref C) = some (.type "type")) (h3 : PySem.W.subIn K t (.ref C) = some b) (h4 : b = true ∨ (t == .ref C) = false) : PySem.W.kitOne K t (.ref C) = some b := by
  unfold PySem.W.kitOne
  split
  · rename_i q
    rcases h4 with rfl | h4
    · rfl
    · rw [h4] at q; cases q
  · unfold PySem.W.kitCls
    have : ((PySem.W.clsIn K C).isSome && PySem.W.typeIn K (.ref C) == some (.type "type")) = true := by
      rw [Bool.and_eq_true]
      exact ⟨h1, beq_iff_eq.mpr h2⟩
    simp only [this, if_true]
    exact h3
theorem kit_ofT {K : PySem.W.Frag} {t : Value} {T : String} {b : Bool} (h1 : PySem.W.kitMeta T = true) (h3 : PySem.W.subIn K t (.type T) = some b) (h4 : b = true ∨ (t == .type T) = false) : PySem.W.kitOne K t (.type T) = some b := by
  unfold PySem.W.kitOne
  split
  · rename_i q
    rcases h4 with rfl | h4
    · rfl
    · rw [h4] at q; cases q
  · unfold PySem.W.kitCls
    simp only [h1, if_true]
    exact h3
end PM
set_option maxHeartbeats 1000000
namespace PM
open PySem PySem.Spec PyProof.Rows L2
theorem _root_.L2H.RoomH.units {k : Nat} {A : Around} (r : L2H.RoomH k A) : A.units + 64 < cLine := by have := r.un; omega
theorem _root_.L2H.RoomH.u65 {k : Nat} {A : Around} (r : L2H.RoomH k A) : A.units + 65 < cLine := by have := r.un; omega
theorem _root_.L2H.RoomH.u1 {k : Nat} {A : Around} (r : L2H.RoomH k A) : A.units + 1 < cLine := by have := r.un; omega
def CXn : CXT := fun _ _ _ _ _ _ => False
structure FnQ (P : Program) (w : World) (K : PySem.W.Frag) (mg : Str → Option Value) (base : Heap) (k : Nat) (f : Addr) (fd : FuncData) (ps : List Str) (sp : Sp) : Prop where
  len : ∀ vs H Q E, sp vs H Q E → vs.length = ps.length
  run : ∀ (A : Around) (outer : List PySem.Env) (s : Shared) (H : Hp) (args : Args) (us : List Value) (vs : List V) (Q : VK), L2H.RoomH k A → Env0 P w K mg base A outer s H → BindsTo s fd args (ps.zip us) → Vals vs us → sp vs H Q (fun _ _ _ => False) →
    codeAny (model P w) A (.call (.ref f) args) (CR CXn outer P w H s Q (fun _ _ _ => False)) s
section
variable {P : Program} {w : World} {K : PySem.W.Frag} {mg : Str → Option Value} {base : Heap} {cl : ClsP}
end
section
variable {X : Cx} {cl : ClsP} {W : WX} {e : Expr} {es : List Expr} {pos : Pos} {k : Nat} {f : Addr} {fd : FuncData} {ps : List Str} {m : Fn} {bm : List Bool} {x : Str} {p : Pos} {ax : Ax}
end
end PM
namespace PM
open PySem PySem.Spec PyProof.Rows L2
section
variable {K : PySem.W.Frag} {cl : ClsP} {G0 G : Gh} {H0 H : Hp} {S : Store} {ρ : Env} {σ : L2.St} {p : Addr}
end
section
variable {X : Cx} {cl : ClsP} {W : WX} {o : Expr} {c : Ex}
end
end PM
namespace PM
open PySem PySem.Spec PyProof.Rows L2
mutual
def D.nk : D → Option NestedKey
  | .int i => some (.num i)
  | .str x => some (.text x)
  | .tup ds => (D.nks ds).map .tup
  | _ => none
def D.nks : List D → Option (List NestedKey)
  | [] => some []
  | d :: ds => match D.nk d, D.nks ds with
    | some k, some ks => some (k :: ks)
    | _, _ => none
end
mutual
theorem D.nk_py : ∀ (d : D) (k : NestedKey), d.nk = some k → d.py = some k.data
  | .int _, _, e => by simp only [D.nk] at e; cases e; rfl
  | .str _, _, e => by simp only [D.nk] at e; cases e; rfl
  | .tup ds, k, e => by
    simp only [D.nk] at e
    cases q : D.nks ds with
    | none => rw [q] at e; cases e
    | some ks =>
      rw [q] at e
      cases e
      simp only [D.py, D.nks_py ds ks q, NestedKey.data]
      rfl
  | .non, _, e => by simp only [D.nk] at e; cases e
  | .bl _, _, e => by simp only [D.nk] at e; cases e
  | .lst _, _, e => by simp only [D.nk] at e; cases e
  | .dic _, _, e => by simp only [D.nk] at e; cases e
  | .obj _ _, _, e => by simp only [D.nk] at e; cases e
  | .rf _, _, e => by simp only [D.nk] at e; cases e
  | .scr _, _, e => by simp only [D.nk] at e; cases e
  | .exn _, _, e => by simp only [D.nk] at e; cases e
  | .dit _, _, e => by simp only [D.nk] at e; cases e
theorem D.nks_py : ∀ (ds : List D) (ks : List NestedKey), D.nks ds = some ks → D.pys ds = some (NestedKey.datas ks)
  | [], _, e => by simp only [D.nks] at e; cases e; rfl
  | d :: ds, _, e => by
    simp only [D.nks] at e
    cases q1 : d.nk with
    | none => rw [q1] at e; cases e
    | some k =>
      cases q2 : D.nks ds with
      | none => rw [q1, q2] at e; cases e
      | some ks =>
        rw [q1, q2] at e
        cases e
        simp only [D.pys, D.nk_py d k q1, D.nks_py ds ks q2, NestedKey.datas]
end
section
variable {K : PySem.W.Frag} {cl : ClsP} {G : Gh} {H Z : Hp} {mu : List Addr} {v : V} {d : D} {k : NestedKey}
def valN (ds : List (NestedKey × D)) (k : NestedKey) : Option D := (ds.find? fun kv => decide (kv.1 = k)).map (·.2)
def hasN (ds : List (NestedKey × D)) (k : NestedKey) : Bool := ds.any fun kv => decide (kv.1 = k)
def putND (ds : List (NestedKey × D)) (k : NestedKey) (d : D) : List (NestedKey × D) := if hasN ds k = true then ds.map (fun kv => if kv.1 = k then (kv.1, d) else kv) else ds ++ [(k, d)]
theorem RepN.keys : ∀ {vs : List NRow} {ds : List (NestedKey × D)}, RepN K cl mu Z vs ds → ∀ x ∈ vs, KeyAt K Z x.1 x.2.1
  | _, _, .nil, x, hx => nomatch hx
  | _, _, .cons h1 _ t, x, hx => by
    rcases List.mem_cons.mp hx with rfl | hx
    · exact h1
    · exact RepN.keys t x hx
theorem RepN.has : ∀ {vs : List NRow} {ds : List (NestedKey × D)}, RepN K cl mu Z vs ds → (atN vs k).isSome = hasN ds k
  | _, _, .nil => rfl
  | _, _, @RepN.cons _ _ _ _ k' b' v' vs d' ds h1 r t => by
    have ih := RepN.has t
    unfold atN hasN at ih ⊢
    rw [List.find?_cons, List.any_cons]
    by_cases h : k' = k
    · simp [h]
    · rw [decide_eq_false h]
      simpa using ih
theorem RepN.val : ∀ {vs : List NRow} {ds : List (NestedKey × D)} {d : D}, RepN K cl mu Z vs ds → valN ds k = some d → ∃ v, atN vs k = some v ∧ Rep K cl mu Z v d
  | _, _, _, .nil, e => by simp [valN] at e
  | _, _, d, @RepN.cons _ _ _ _ k' b' v' vs d' ds h1 r t, e => by
    have ih := fun e => RepN.val (d := d) t e
    unfold valN atN at *
    rw [List.find?_cons] at e ⊢
    by_cases h : k' = k
    · simp only [h, decide_true] at e ⊢
      cases e
      exact ⟨v', rfl, r⟩
    · simp only [h, decide_false] at e ⊢
      exact ih e
theorem valN_has {ds : List (NestedKey × D)} : (valN ds k).isSome = hasN ds k := by
  induction ds with
  | nil => rfl
  | cons p ds ih =>
    unfold valN hasN at ih ⊢
    rw [List.find?_cons, List.any_cons]
    by_cases h : p.1 = k
    · simp [h]
    · rw [decide_eq_false h]
      simpa using ih
theorem RepN.append : ∀ {vs ws : List NRow} {ds es : List (NestedKey × D)}, RepN K cl mu Z vs ds → RepN K cl mu Z ws es → RepN K cl mu Z (vs ++ ws) (ds ++ es)
  | _, _, _, _, .nil, t => t
  | _, _, _, _, .cons h1 r s, t => .cons h1 r (RepN.append s t)
theorem RepN.repl (rv : Rep K cl mu Z v d) : ∀ {vs : List NRow} {ds : List (NestedKey × D)}, RepN K cl mu Z vs ds → RepN K cl mu Z (vs.map fun x => if x.1 = k then (x.1, x.2.1, v) else x) (ds.map fun kv => if kv.1 = k then (kv.1, d) else kv)
  | _, _, .nil => .nil
  | _, _, @RepN.cons _ _ _ _ k' b' v' vs d' ds h1 r t => by
    rw [List.map_cons, List.map_cons]
    by_cases h : k' = k
    · rw [if_pos h, if_pos h]; exact .cons h1 rv (RepN.repl rv t)
    · rw [if_neg h, if_neg h]; exact .cons h1 r (RepN.repl rv t)
theorem RepN.put {b : Addr} (hk : KeyAt K Z k b) (rv : Rep K cl mu Z v d) {vs : List NRow} {ds : List (NestedKey × D)} (r : RepN K cl mu Z vs ds) : RepN K cl mu Z (putN vs k b v) (putND ds k d) := by
  unfold putN putND
  rw [r.has]
  split
  · exact r.repl rv
  · exact r.append (.cons hk rv .nil)
theorem OwnAt.dit {l : Lab} {ds : List (NestedKey × D)} (h : OwnAt K cl G H l v (.dit ds)) : ∃ a vs, v = .ref a ∧ H a = some (nestO cl.P cl.w a vs) ∧ RepN K cl G.mu G.Z vs ds ∧ G.lab a = some l := by
  obtain ⟨a, as, rfl, c, hl⟩ := h
  cases c with
  | dit h1 r => exact ⟨a, _, rfl, h1, r, hl a (by simp)⟩
end
section
variable {X : Cx} {cl : ClsP} {W : WX} {a b e : Expr} {ca cb c : Ex} {pos : Pos}
theorem RepN.getD {K : PySem.W.Frag} {mu : List Addr} {Z : Hp} {vs : List NRow} {ds : List (NestedKey × D)} {k : NestedKey} {z : D} {v : V} (r : RepN K cl mu Z vs ds) (rv : Rep K cl mu Z v z) : Rep K cl mu Z ((atN vs k).getD v) ((valN ds k).getD z) := by
  cases q : valN ds k with
  | none =>
    have h : (atN vs k).isSome = false := by rw [r.has, ← valN_has, q]; rfl
    cases q2 : atN vs k with
    | none => exact rv
    | some y => rw [q2] at h; cases h
  | some d =>
    obtain ⟨y, hy, ry⟩ := r.val q
    rw [hy]
    exact ry
end
end PM
namespace PM
open PySem PySem.Spec PyProof.Rows L2
section
variable {X : Cx} {cl : ClsP} {W : WX} {a : Expr} {ca : Ex}
end
end PM
namespace PM
open PySem PySem.Spec PyProof.Rows L2
def strsOf : List D → Option (List Str)
  | [] => some []
  | .str x :: r => (strsOf r).map (x :: ·)
  | _ => none
theorem strsOf_map : ∀ (ys : List Str), strsOf (ys.map D.str) = some ys
  | [] => rfl
  | y :: r => by simp only [List.map_cons, strsOf, strsOf_map r, Option.map_some]
theorem strsOf_rep {K : PySem.W.Frag} {cl : ClsP} {mu : List Addr} {Z : Hp} : ∀ {ds : List D} {vs : List V} {ys : List Str}, strsOf ds = some ys → RepAll K cl mu Z vs ds → vs = ys.map V.str
  | [], _, _, e, h => by cases e; cases h; rfl
  | d :: ds, _, ys, e, h => by
    cases h with
    | cons h1 h2 =>
      cases d <;> simp only [strsOf, reduceCtorEq] at e
      rename_i x
      cases q : strsOf ds with
      | none => rw [q] at e; cases e
      | some zs =>
        rw [q] at e
        cases e
        cases h1
        rw [strsOf_rep q h2]
        rfl
def joinD (a : Str) (ds : List D) : Option D := (strsOf ds).bind fun ys => if (ys.map (·.length)).sum + ys.length * a.length ≤ 16777216 then some (.str (Txt.join a ys)) else none
def eJoin (co ce : Ex) : Ex := fun ρ S => (co ρ S).bind fun d S => match d with
  | .str a => (ce ρ S).bind fun e S => (match e with
    | .lst ds => Res.opt (joinD a ds) S
    | .tup ds => Res.opt (joinD a ds) S
    | _ => .stuck)
  | _ => .stuck
theorem joinD_some {a : Str} {ds : List D} {z : D} (h : joinD a ds = some z) : ∃ ys, strsOf ds = some ys ∧ (ys.map (·.length)).sum + ys.length * a.length ≤ 16777216 ∧ z = .str (Txt.join a ys) := by
  unfold joinD at h
  cases q : strsOf ds with
  | none => rw [q] at h; cases h
  | some ys =>
    rw [q, Option.bind_some] at h
    split at h
    · cases h; exact ⟨ys, rfl, by assumption, rfl⟩
    · cases h
def splitD (a b : Str) : Option (List Str) := if (b.length == 0) = false ∧ a.length + 2 ≤ 16777216 then some (Txt.split a b) else none
def eSplit (co ce : Ex) : Ex := fun ρ S => (co ρ S).bind fun d S => match d with
  | .str a => (ce ρ S).bind fun e S => (match e with
    | .str b => (match splitD a b with
      | some ys => .ok (.lst (ys.map D.str)) S
      | none => .stuck)
    | _ => .stuck)
  | _ => .stuck
section
variable {X : Cx} {cl : ClsP} {W : WX} {o e : Expr} {co ce : Ex} {apos pos : Pos} {st : Stmt} {body : List Stmt}
theorem se_join (ho : SB X cl W o co) (he : SB X cl W e ce) (hs : starEach [e] X.env = [(false, eval e X.env)] := by rfl) (hbase : attributeBase o "join" X.env (eval o X.env) = eval o X.env := by rfl) (hline : (apos.endLine == pos.line) = true := by rfl) :
    SE X cl W (.Call (.Attribute o "join" apos) [e] [] pos) (eJoin co ce) := PE.weak (pe_join ho he hs hbase hline) fun σ H Q ⟨G0, H0, S, ρ, G, R, h⟩ => by
  refine tX.bind (Pa := PB X.K cl) pfM R h fun d x S1 G1 H1 R1 s1 p1 h1 => ?_
  cases d <;> simp only [Aft] at h1
  rename_i a
  cases RepT.str p1
  refine ⟨⟨a, rfl⟩, ?_⟩
  refine tX.bind (Pa := PB X.K cl) pfM R1 h1 fun e y S2 G2 H2 R2 s2 p2 h2 => ?_
  cases e <;> simp only [Aft] at h2
  · rename_i ds
    obtain ⟨p, vs, rfl, h3, r3⟩ := RepT.lst p2 R2.ok.zsub
    cases q : joinD a ds with
    | none => rw [q] at h2; exact h2.elim
    | some z =>
      rw [q] at h2
      obtain ⟨ys, q1, q2, rfl⟩ := joinD_some q
      have e3 := strsOf_rep q1 r3
      subst e3
      exact ⟨a, p, ys, rfl, rfl, .inl (.inl (.inl h3)), q2, h2 _ G2 H2 R2 (Stp.refl _ _) (.str _)⟩
  · rename_i ds
    obtain ⟨p, vs, rfl, h3, r3⟩ := RepT.tup p2 R2.ok.zsub
    cases q : joinD a ds with
    | none => rw [q] at h2; exact h2.elim
    | some z =>
      rw [q] at h2
      obtain ⟨ys, q1, q2, rfl⟩ := joinD_some q
      have e3 := strsOf_rep q1 r3
      subst e3
      exact ⟨a, p, ys, rfl, rfl, .inr h3, q2, h2 _ G2 H2 R2 (Stp.refl _ _) (.str _)⟩
theorem sn_split (ho : SB X cl W o co) (he : SB X cl W e ce) (hs : starEach [e] X.env = [(false, eval e X.env)] := by rfl) (hbase : attributeBase o "split" X.env (eval o X.env) = eval o X.env := by rfl) (hline : (apos.endLine == pos.line) = true := by rfl) :
    SN X cl W (.Call (.Attribute o "split" apos) [e] [] pos) (eSplit co ce) := PE.weak (pe_split ho he hs hbase hline) fun σ H Q ⟨G0, H0, S, ρ, G, R, h⟩ => by
  refine tX.bind (Pa := PB X.K cl) pnM R h fun d x S1 G1 H1 R1 s1 p1 h1 => ?_
  cases d <;> simp only [Aft] at h1
  rename_i a
  cases RepT.str p1
  refine ⟨⟨a, rfl⟩, ?_⟩
  refine tX.bind (Pa := PB X.K cl) pnM R1 h1 fun e y S2 G2 H2 R2 s2 p2 h2 => ?_
  cases e <;> simp only [Aft] at h2
  rename_i b
  cases RepT.str p2
  cases q : splitD a b with
  | none => rw [q] at h2; exact h2.elim
  | some ys =>
    rw [q] at h2
    unfold splitD at q
    split at q
    · rename_i hq
      cases q
      refine ⟨a, b, rfl, rfl, hq.1, hq.2, fun l hl => ?_⟩
      obtain ⟨R', s', nn⟩ := R2.newL hl (RepAll.strs (K := X.K) (cl := cl) (Txt.split a b))
      exact h2 _ _ _ R' s' ⟨l, [l], rfl, nn, fun b hb => by simp at hb; subst hb; exact hl⟩
    · cases q
end
end PM
set_option maxHeartbeats 1000000
namespace PM
open PySem PySem.Spec PyProof.Rows L2
section
variable {K : PySem.W.Frag} {cl : ClsP} {W : WX} {G0 G G' G'' G1 : Gh} {H0 H H' H'' H1 : Hp} {S S' : Store} {ρ ρ' : Env} {σ : L2.St} {v : V} {d : D} {a b p : Addr} {as bs : List Addr} {i j : Nat} {mu : List Addr} {Z : Hp} {ds es : List D} {vs : List V}
theorem OwnAt.nst {l : Lab} (h : OwnAt K cl G H l v (.nst ds)) : ∃ a bs, v = .ref a ∧ H a = some (.lst (bs.map .ref)) ∧ Inn K cl G.mu G.Z H bs ds ∧ (a :: bs).Nodup ∧ ∀ b ∈ a :: bs, G.lab b = some l := by
  obtain ⟨a, as, rfl, c, hl⟩ := h
  cases c with
  | nst h1 r n => exact ⟨a, _, rfl, h1, r, n, hl⟩
theorem Rel.back (R : Rel K cl G0 H0 S ρ G σ H) (hl : ∀ b l, G'.lab b = some l → G.lab b = some l) (hS : S = []) (hs : S' = []) (k : Stp G' H G'' H'') : Rel K cl G0 H0 S' ρ G σ H'' ∧ Stp G H G H'' := by
  have keep : ∀ a o, H a = some o → (∀ l, G.lab a = some l → l.st = false) → H'' a = some o := fun a o h q => k.keep a o h fun l e => q l (hl a l e)
  have st : Stp G H G H'' := ⟨Same.refl _, fun _ _ e => e, keep, fun _ _ e => .inl e, fun _ _ e => .inl e, ⟨[], by simp⟩, k.dom⟩
  subst hs hS
  exact ⟨R.step st ⟨fun b o e => keep b o (R.ok.zsub b o e) fun l q => (by rw [(R.ok.labz b l q).1] at e; cases e), fun b l e => (by
    obtain ⟨h1, o, h2⟩ := R.ok.labz b l e
    refine ⟨h1, ?_⟩
    cases q : H'' b with
    | none => rw [k.dom b q] at h2; cases h2
    | some o' => exact ⟨o', rfl⟩), fun n c e => (by simp at e), R.ok.stn⟩, st⟩
end

section
variable {X : Cx} {cl : ClsP} {W : WX} {e tg elt iter : Expr} {c ce : Ex} {tc : Tx} {pos : Pos} {es : List Expr}
def dFlat : D → D
  | .nst ds => .lst ds
  | d => d
theorem Inn.snoc {K : PySem.W.Frag} {mu : List Addr} {Z H : Hp} {b : Addr} {vs : List V} {es : List D} (h : H b = some (.lst vs)) (r : RepAll K cl mu Z vs es) : ∀ {bs : List Addr} {ds : List D}, Inn K cl mu Z H bs ds → Inn K cl mu Z H (bs ++ [b]) (ds ++ [.lst es])
  | _, _, .nil => .cons h r .nil
  | _, _, .cons h1 r1 t => .cons h1 r1 (Inn.snoc h r t)
end
end PM
set_option maxHeartbeats 1000000
namespace PM
open PySem PySem.Spec PyProof.Rows L2
section
variable {K : PySem.W.Frag} {cl : ClsP} {H : Hp} {mu : List Addr} {Z : Hp}
theorem Inn.get : ∀ {bs : List Addr} {ds : List D} {k : Nat} {d : D}, Inn K cl mu Z H bs ds → ds[k]? = some d → ∃ b vs es, bs[k]? = some b ∧ d = .lst es ∧ H b = some (.lst vs) ∧ RepAll K cl mu Z vs es
  | _, _, _, _, .nil, e => by simp at e
  | _, _, 0, _, .cons h r t, e => by
    simp at e
    subst e
    exact ⟨_, _, _, rfl, rfl, h, r⟩
  | _, _, k + 1, d, .cons h r t, e => by
    obtain ⟨b, vs, es, h1, h2⟩ := Inn.get (k := k) (d := d) t (by simpa using e)
    exact ⟨b, vs, es, by simpa using h1, h2⟩
theorem Inn.upd {x : HO} {p : Addr} : ∀ {bs : List Addr} {ds : List D}, Inn K cl mu Z H bs ds → p ∉ bs → Inn K cl mu Z (L2.upd H p x) bs ds
  | _, _, .nil, _ => .nil
  | _, _, .cons h r t, hp => by
    simp only [List.mem_cons, not_or] at hp
    exact .cons (by rw [upd_ne (Ne.symm hp.1)]; exact h) r (Inn.upd t hp.2)
theorem Inn.set {b : Addr} {vs : List V} {es : List D} (r' : RepAll K cl mu Z vs es) : ∀ {bs : List Addr} {ds : List D} {k : Nat}, Inn K cl mu Z H bs ds → bs.Nodup → bs[k]? = some b → Inn K cl mu Z (L2.upd H b (.lst vs)) bs (ds.set k (.lst es))
  | _, _, _, .nil, _, e => by simp at e
  | _, _, 0, .cons h r t, hn, e => by
    simp at e
    subst e
    exact .cons upd_same r' (t.upd (List.nodup_cons.mp hn).1)
  | _, _, k + 1, .cons (b := b0) h r t, hn, e => by
    have e' := (show _ = some b by simpa using e)
    have hm : b ∈ _ := List.mem_of_getElem? e'
    have ne : b0 ≠ b := fun q => (List.nodup_cons.mp hn).1 (by rw [q]; exact hm)
    exact .cons (by rw [upd_ne ne]; exact h) r (Inn.set r' t (List.nodup_cons.mp hn).2 e')
end
section
variable {X : Cx} {cl : ClsP} {W : WX} {e tg elt iter : Expr} {c ce : Ex} {tc : Tx} {pos : Pos} {es : List Expr}
end
end PM
set_option maxHeartbeats 1000000
namespace PM
open PySem PySem.Spec PyProof.Rows L2
section
variable {K : PySem.W.Frag} {cl : ClsP} {W : WX} {G0 G G' G'' G1 : Gh} {H0 H H' H'' H1 : Hp} {S S' : Store} {ρ ρ' : Env} {σ : L2.St} {v : V} {d : D} {a b p : Addr} {as bs : List Addr} {i j : Nat} {ds es : List D}
end
section
variable {X : Cx} {cl : ClsP} {W : WX} {e tg elt iter : Expr} {c ce : Ex} {tc : Tx} {pos : Pos} {es : List Expr}
end
end PM
set_option maxHeartbeats 1000000
namespace PM
open PySem PySem.Spec PyProof.Rows L2
end PM
set_option maxHeartbeats 1000000
namespace PM
open PySem PySem.Spec PyProof.Rows L2
section
variable {X : Cx} {W : WX} {e : Expr} {es : List Expr} {pos : Pos} {k : Nat} {g C : Addr} {fd : FuncData} {ps : List Str} {sp : Sp} {t : TA} {mc : Value} {cx mn : Str} {p apos : Pos}
end
section
variable {K : PySem.W.Frag} {cl : ClsP} {W : WX} {G0 G G' G1 : Gh} {H0 H H' H1 : Hp} {S S' : Store} {ρ : Env} {σ : L2.St} {d : D} {x dx : Addr}
theorem ArgsOk.loose : ∀ {bm : List Bool} {vs : List V} {ds : List D}, ArgsOk K cl G H (bm.map fun _ => false) vs ds → ArgsOk K cl G.out H1 bm vs ds
  | [], _, _, .nil => .nil
  | true :: bm, _, _, .fr r t => .bo (.inl r) t.loose
  | false :: bm, _, _, .fr r t => .fr r t.loose
def cutH (H : Hp) (x dx : Addr) : Hp := fun b => if b = x ∨ b = dx then none else H b
def Gh.cut (G : Gh) (x dx : Addr) : Gh := { G with lab := fun b => if b = x ∨ b = dx then none else G.lab b }
theorem cutH_ne {b : Addr} (h : ¬ (b = x ∨ b = dx)) : cutH H x dx b = H b := if_neg h
theorem cut_lab {b : Addr} {l : Lab} (h : (G.cut x dx).lab b = some l) : ¬ (b = x ∨ b = dx) ∧ G.lab b = some l := by
  have h' : (if b = x ∨ b = dx then none else G.lab b) = some l := h
  by_cases hb : b = x ∨ b = dx
  · rw [if_pos hb] at h'; cases h'
  · rw [if_neg hb] at h'; exact ⟨hb, h'⟩
theorem Rel.cut (R : Rel K cl G0 H0 S ρ G σ H) (h1 : G.lab x = some (.slot 0)) (h2 : G.lab dx = some (.slot 0)) : Rel K cl G0 H0 S (ρ.set 0 .un) (G.cut x dx) σ (cutH H x dx) := by
  have R1 := R.drop1 0
  have l0 : ∀ b, (b = x ∨ b = dx) → G.lab b = some (.slot 0) := fun b hb => by rcases hb with rfl | rfl <;> assumption
  have ne : ∀ b l, G.lab b = some l → l ≠ .slot 0 → ¬ (b = x ∨ b = dx) := fun b l e hl hb => by rw [l0 b hb] at e; cases e; exact hl rfl
  have labc : ∀ b l, G.lab b = some l → l ≠ .slot 0 → (G.cut x dx).lab b = some l := fun b l e hl => by
    show (if b = x ∨ b = dx then none else G.lab b) = some l
    rw [if_neg (ne b l e hl)]; exact e
  refine ⟨⟨fun b o e => ?_, fun b l e => ?_, fun n c e => (R.ok.st n c e).mono (fun b l hb hs o ho => by rw [cutH_ne (ne b l hb (fun q => by subst q; simp [Lab.st] at hs))]; exact ho) (Same.refl _) (fun b l hb hs => labc b l hb (fun q => by subst q; simp [Lab.st] at hs)) ⟨[], by simp [Gh.cut]⟩, R.ok.stn⟩, R1.len, fun j s e => ?_, ⟨R.stp.z, fun b l e => ?_, fun b o e hl => ?_, fun b l e => R.stp.labn b l (cut_lab e).2, R.stp.zn, R.stp.mu, fun b e => ?_⟩, R.s0⟩
  · have : ¬ (b = x ∨ b = dx) := fun hb => by
      have e' : G.Z b = some o := e
      rw [(R.ok.labz b _ (l0 b hb)).1] at e'
      cases e'
    rw [cutH_ne this]
    exact R.ok.zsub b o e
  · obtain ⟨hb, e⟩ := cut_lab e
    obtain ⟨z, o, ho⟩ := R.ok.labz b l e
    exact ⟨z, o, by rw [cutH_ne hb]; exact ho⟩
  · by_cases hj : j = 0
    · subst hj
      have hl : 0 < ρ.length := by
        rcases Nat.lt_or_ge 0 ρ.length with h | h
        · exact h
        · rw [List.getElem?_eq_none (by simpa using h)] at e; cases e
      rw [List.getElem?_set_self hl] at e
      cases e
      exact ⟨σ[0]'(by rw [← R.len]; exact hl), List.getElem?_eq_getElem _, trivial⟩
    · rw [List.getElem?_set_ne (Ne.symm hj)] at e
      obtain ⟨o, q1, q2⟩ := R.slot j s e
      have hne : (.slot j : Lab) ≠ .slot 0 := fun q => hj (by cases q; rfl)
      exact ⟨o, q1, q2.mono (fun b hb o ho => by rw [cutH_ne (ne b _ hb hne)]; exact ho) (Same.refl _) (fun b hb => labc b _ hb hne) ⟨[], by simp [Gh.cut]⟩⟩
  · refine labc b l (R.stp.lab b l e) fun q => ?_
    subst q
    exact absurd (R.s0 b _ e) (by simp [Lab.st])
  · have : ¬ (b = x ∨ b = dx) := fun hb => by rw [R.ownNew (l0 b hb)] at e; cases e
    rw [cutH_ne this]
    exact R.stp.keep b o e hl
  · by_cases hb : b = x ∨ b = dx
    · exact R.ownNew (l0 b hb)
    · rw [cutH_ne hb] at e
      exact R.stp.dom b e
end
section
variable {X : Cx} {cl : ClsP} {W : WX} {es : List Expr} {pos : Pos} {k : Nat} {g : Addr} {fd : FuncData} {ps : List Str} {mc : Value} {cx mn self : Str} {p sp_ apos cpos : Pos} {ca : Ax} {bm : List Bool} {m : Ini} {bc : Nat}
end
end PM
set_option maxHeartbeats 1000000
namespace PM
open PySem PySem.Spec PyProof.Rows L2
section
variable {K : PySem.W.Frag} {cl : ClsP} {W : WX} {G0 G G' G1 : Gh} {H0 H H' H1 : Hp} {S S' : Store} {ρ ρ' : Env} {σ : L2.St} {v : V} {d : D} {a : Addr} {as : List Addr} {n i : Nat} {c : Cell}
def D.at (S : Store) : D → D
  | .rf n => match S[n]? with
    | some (.box d) => d
    | _ => .rf n
  | d => d
theorem RepT.at (R : Rel K cl G0 H0 S ρ G σ H) (p : RepT K cl G H v d) : RepV K cl G H v (d.at S) := by
  cases d with
  | rf n =>
    cases q : S[n]? with
    | none => simp only [D.at, q]; exact p.vw
    | some c =>
      cases c with
      | obj k fs => simp only [D.at, q]; exact p.vw
      | box d =>
        simp only [D.at, q]
        obtain ⟨a, rfl, e⟩ := RepT.rfn p
        obtain ⟨a', as, e', cc, _⟩ := (R.ok.st n _ q).ok
        rw [e] at e'
        cases e'
        exact .inr ⟨a, as, rfl, cc, trivial⟩
  | _ => exact p.vw
end
section
variable {X : Cx} {cl : ClsP} {W : WX} {e o a b : Expr} {es : List Expr} {c co ca cb : Ex} {ta tb : Tx} {pos : Pos} {fl : FTab}
section
variable {k : Nat} {f : Addr} {fd : FuncData} {ps : List Str} {bm : List Bool} {x : Str} {p : Pos} {ax : Ax}
end
end
end PM
set_option maxHeartbeats 1000000
namespace PM
open PySem PySem.Spec PyProof.Rows L2
section
variable {X : Cx} {cl : ClsP} {W : WX} {e o tg elt : Expr} {c co ca cb : Ex} {pos : Pos}
end
end PM
set_option maxHeartbeats 1000000
namespace PM
open PySem PySem.Spec PyProof.Rows L2
section
variable {X : Cx} {cl : ClsP}
end
end PM
set_option maxHeartbeats 1000000
namespace PM
open PySem PySem.Spec PyProof.Rows L2
section
variable {X : Cx} {cl : ClsP} {W : WX} {e o tg elt a b : Expr} {c co ca cb : Ex} {pos : Pos}
def Reads (K : PySem.W.Frag) (H : Hp) (v : V) (d : D) : Prop := ∀ p, d.py = some p → Dp K H v p
end
end PM
set_option maxHeartbeats 1000000
namespace PM
open PySem PySem.Spec PyProof.Rows L2
section
variable {X : Cx} {cl : ClsP} {W : WX} {a b : Expr} {ca cb : Ex} {pos : Pos}
end
end PM
set_option maxHeartbeats 1000000
namespace L2
open PySem PySem.Spec PyProof.Rows
end L2
set_option maxHeartbeats 1000000
namespace PM
open PySem PySem.Spec PyProof.Rows L2
section
variable {X : Cx} {cl : ClsP} {W : WX}
end
end PM
set_option maxHeartbeats 1000000
namespace PM
open PySem PySem.Spec PyProof.Rows L2
section
variable {X : Cx} {cl : ClsP} {W : WX} {tg e : Expr} {c : Ex} {pos : Pos} {g : TG} {gt : Tgt}
end
end PM
set_option maxHeartbeats 1000000
namespace L2
open PySem PySem.Spec PyProof.Rows
section
variable {X : Cx}
end
end L2
set_option maxHeartbeats 1000000
namespace PM
open PySem PySem.Spec PyProof.Rows L2
def Hot2 (A : Around) (x1 : Addr) (h : Heap) : Prop := A.handled = some (.ref x1) ∧ ∃ (o : Obj) (vs : Array Value), h.get? x1 = some o ∧ o.data = .fields vs ∧
  (vs[2]? = some .none ∨ ∃ (b : Addr) (ob : Obj) (vb : Array Value), vs[2]? = some (.ref b) ∧ h.get? b = some ob ∧ ob.data = .fields vb ∧ vb[2]? = some .none)
theorem Hot2.keep {A : Around} {x1 : Addr} {h h' : Heap} (x : Hot2 A x1 h) (k : ∀ b o vs, h.get? b = some o → o.data = .fields vs → vs[2]? ≠ none → h'.get? b = some o) : Hot2 A x1 h' := by
  obtain ⟨hh, o, vs, h1, h2, h3⟩ := x
  refine ⟨hh, o, vs, k _ _ _ h1 h2 (by rcases h3 with h3 | ⟨_, _, _, h3, _⟩ <;> rw [h3] <;> exact fun z => nomatch z), h2, ?_⟩
  rcases h3 with h3 | ⟨b, ob, vb, h3, h4, h5, h6⟩
  · exact .inl h3
  · exact .inr ⟨b, ob, vb, h3, k _ _ _ h4 h5 (by rw [h6]; exact fun z => nomatch z), h5, h6⟩
theorem fresh_push (h : Heap) (o1 : Obj) : h.get? (h.push o1).objs.size = none := by
  cases q : h.get? (h.push o1).objs.size with
  | none => rfl
  | some o => exact absurd (Heap.lt_size (Heap.get?_push_of_some o1 q)) (Nat.lt_irrefl _)
section
variable {prog : Program} {w : World} {A : Around} {E : Value → Shared → Prop} {s : Shared}
theorem unchained2 {x1 a : Addr} {g : Heap} {Q : Value → Shared → Prop} (hot : Hot2 A x1 g) (k : ∀ b o, g.get? b = some o → s.heap.get? b = some o) (hn : g.get? a = none) (q : Q .none s) :
    wpAny (model prog w) A (holding [Value.ref a] (runValue (.builtin "proto.unchain" ⟨[.ref a, .ref x1, .ref x1, .bool false], []⟩))) Q E s := by
  obtain ⟨hh, o, vs, h1, h2, h3⟩ := hot
  refine wpAny_holding (wpAny_runValue (codeAny_builtin HotX.entry_unchain ?_))
  unfold Builtin.«proto.unchain»
  dsimp only
  rcases h3 with h3 | ⟨b, ob, vb, h3, h4, h5, h6⟩
  · refine wpAny_bind (wpAny_field (k _ _ h1) h2 h3 ?_)
    rw [if_pos (show (Value.none == Value.none) = true from rfl)]
    first
    | exact wpAny_bind (wpAny_pure (wpAny_pure q))
    | exact wpAny_pure q
  · refine wpAny_bind (wpAny_field (k _ _ h1) h2 h3 ?_)
    have n1 : b ≠ a := fun z => by
      rw [z, hn] at h4
      cases h4
    have n2 : b ≠ x1 := fun z => by
      subst z
      rw [h1] at h4
      cases h4
      rw [h2] at h5
      cases h5
      rw [h3] at h6
      cases h6
    rw [if_neg (show ¬ ((Value.ref b == Value.none) = true) from Bool.false_ne_true)]
    rw [if_neg (show ¬ ((Value.ref b == Value.ref a) = true) from fun z => n1 (Value.ref.inj (beq_iff_eq.mp z)))]
    rw [if_neg (show ¬ ((Value.ref b == Value.ref x1) = true) from fun z => n2 (Value.ref.inj (beq_iff_eq.mp z)))]
    simp only [Bool.false_eq_true, if_false]
    refine wpAny_bind (wpAny_pure (wpAny_pure ⟨Code.quiet_builtin _ (by first | rfl | decide +kernel), codeAny_builtin HotX.entry_unchain ?_⟩))
    unfold Builtin.«proto.unchain»
    dsimp only
    refine wpAny_bind (wpAny_field (k _ _ h4) h5 h6 ?_)
    rw [if_pos (show (Value.none == Value.none) = true from rfl)]
    first
    | exact wpAny_bind (wpAny_pure (wpAny_pure q))
    | exact wpAny_pure q
theorem raiseNew_hot2 {α : Type} {a x1 : Addr} {g : Heap} {oe : Obj} {vs : Array Value} {Q : α → Shared → Prop} (hot : Hot2 A x1 g) (k : ∀ b o, g.get? b = some o → s.heap.get? b = some o) (hn : g.get? a = none) (ha : s.heap.get? a = some oe) (da : oe.data = .fields vs) (hi : 2 < vs.size)
    (hE : E (.ref a) { s with heap := s.heap.update a (Obj.mapFields (·.setIfInBounds 2 (.ref x1))) }) : wpAny (model prog w) A (raiseNew (.ref a) : Sem α) Q E s := by
  have hne : x1 ≠ a := fun z => by
    obtain ⟨_, o, _, h1, _⟩ := hot
    rw [z, hn] at h1
    cases h1
  unfold raiseNew
  refine wpAny_bind (wpAny_handled ?_)
  rw [hot.1]
  have hb : (Value.ref x1 != Value.ref a) = true := HotX.ref_bne hne
  first
  | (show wpAny _ _ (if (Value.ref x1 != Value.ref a) = true then _ else _) _ _ _
     rw [if_pos hb]
     first
     | exact wpAny_bind (unchained2 hot k hn (wpAny_bind (HotX.chained ha da hi (wpAny_throw hE))))
     | exact wpAny_bind (wpAny_bind (unchained2 hot k hn (HotX.chained ha da hi (wpAny_throw hE)))))
  | (refine wpAny_bind ?_
     show wpAny _ _ (if (Value.ref x1 != Value.ref a) = true then _ else _) _ _ _
     rw [if_pos hb]
     exact wpAny_bind (unchained2 hot k hn (HotX.chained ha da hi (wpAny_throw hE))))
theorem pyNext_list_end_hot2 {it l x1 : Addr} {i : Nat} {items : Array Value} {Q : Option Value → Shared → Prop} (hot : Hot2 A x1 s.heap)
    (hit : s.heap.IsListIter it l i) (hl : s.heap.IsList l items) (hx : items[i]? = none)
    (hQ : ∀ h', Heap.ExtBut it s.heap h' → Q none { s with heap := h' }) : wpAny (model prog w) A (pyNext (.ref it)) Q E s := by
  obtain ⟨o, ho, hc, hd⟩ := id hit
  obtain ⟨ol, hol, _, nl, hdl⟩ := hl
  unfold pyNext
  refine wpAny_bind (wpAny_attempt (wpAny_callSpecial?_slot (name := Str.ofString "__next__") hit.typeIs slot_listiter_next
    (wpAny_call_entry slot_listiter_next hit.typeIs entry_listiter_next ?_ (args_listiter_next _))))
  show wpAny _ _ (field (.ref it) 0 >>= _) _ _ s
  refine wpAny_bind (wpAny_field ho hd (x := .ref l) rfl ?_)
  show wpAny _ _ (if (Value.ref l == Value.none) = true then _ else _) _ _ s
  rw [if_neg (show ¬ ((Value.ref l == Value.none) = true) from Bool.false_ne_true)]
  show wpAny _ _ (field (.ref it) 1 >>= _) _ _ s
  refine wpAny_bind (wpAny_field ho hd (x := .int i 0) rfl ?_)
  show wpAny _ _ (seqItems? (.ref l) >>= _) _ _ s
  refine wpAny_bind (wpAny_seqItems hol hdl ?_)
  simp only [Int.toNat_natCast, hx]
  refine wpAny_bind (wpAny_rule (wpAny_bind (wpAny_setField ho hd (by simp) ?_)))
  have hot1 : Hot2 A x1 (s.heap.update it (Obj.mapFields (·.setIfInBounds 0 Value.none))) := hot.keep fun b ob vs e1 e2 e3 => (Heap.get?_update_other s.heap (Obj.mapFields (·.setIfInBounds 0 Value.none)) (fun z => by
    subst z
    rw [ho] at e1
    cases e1
    rw [hd] at e2
    cases e2
    exact e3 rfl)).trans e1
  show wpAny _ _ (newExc (.type "StopIteration") [] >>= _) _ _ _
  refine wpAny_bind ?_
  simp only [newExc, newTuple]
  refine wpAny_bind (wpAny_newObj_type ?_ (by size_fits))
  refine wpAny_bind (m := firstArgMember _ _) (wpAny_of_eq (a := Value.none) (by first | rfl | (simp only [firstArgMember]; rfl)) ?_)
  refine wpAny_newObj_type ?_ (by size_fits)
  refine raiseNew_hot2 hot1 (fun b o e => Heap.get?_push_of_some _ (Heap.get?_push_of_some _ e)) ?_ (Heap.get?_push_size _ rfl) rfl (by first | (simp; done) | (simp; omega) | (simp only [Array.size_append]; simp; omega)) ?_
  · exact fresh_push _ _
  refine wpAny_bind (wpAny_isInstance (T := "StopIteration") (b := true) ⟨_, Heap.get?_update_self _ (Heap.get?_push_size _ rfl) rfl, rfl⟩ isSubtype_stop ?_)
  refine wpAny_pure (hQ _ fun b o hb e => ?_)
  have e1 := (Heap.get?_update_other s.heap (Obj.mapFields (·.setIfInBounds 0 Value.none)) (Ne.symm hb)).trans e
  rw [Heap.get?_update_other _ _ (Nat.ne_of_gt (Heap.lt_size (Heap.get?_push_of_some _ e1)))]
  exact Heap.get?_push_of_some _ (Heap.get?_push_of_some _ e1)
end
end PM
set_option maxHeartbeats 1000000
namespace PM
open PySem PySem.Spec PyProof.Rows L2
def CtxPin (pn : List (Addr × Obj)) (c : Option Addr) : Prop := ∀ b, c = some b → ∃ (ob : Obj) (vb : Array Value), (b, ob) ∈ pn ∧ ob.data = .fields vb ∧ vb[2]? = some .none
theorem ctxPin_none {pn : List (Addr × Obj)} : CtxPin pn none := fun _ e => nomatch e
theorem hot_tracked {X : Cx} {pins : List (Addr × Obj)} {σ : L2.St} {H : Hp} {s : Shared} {e : Addr} {c : Option Addr} {kind : Value} (I : Inv X pins σ H s) (hp : CtxPin X.pn c) (hh : X.A.handled = some (.ref e)) (he : H e = some (exnO kind e c)) : Hot2 X.A e s.heap := by
  obtain ⟨⟨ob, parts, h1, _, h5, h6⟩, _⟩ := I.hok e _ he
  refine ⟨hh, ob, parts, h1, h5, ?_⟩
  cases c with
  | none => exact .inl h6
  | some b =>
    obtain ⟨o2, vb, q1, q2, q3⟩ := hp b rfl
    exact .inr ⟨b, o2, vb, h6, (I.pin (b, o2) (List.mem_append_left _ q1)).1, q2, q3⟩
def tForH (K : PySem.W.Frag) (e : Addr) (c : Option Addr) (te : TE) (g : TG) (tb : TS) : TS := fun D σ H => te σ H fun x H1 => ∃ a, x = .ref a ∧ (∃ xs, SqL K H1 a xs) ∧ ∃ W : Nat → Nat → L2.St → Hp → Prop, (∃ m, W 0 m σ H1) ∧ ∀ i m σ H, W i m σ H →
  ((Itl K a).stop i H ∧ (∃ kind, H e = some (exnO kind e c)) ∧ D.nx σ H) ∨ ((Itl K a).go i H ∧ ∃ N : L2.St → Hp → Prop, (∀ σ' H', N σ' H' → ∃ m', m' < m ∧ W (i + 1) m' σ' H') ∧ ∀ x, (Itl K a).yld i H x H → g x σ H fun σ2 H2 => tb { D with nx := N, ct := N, bk := D.nx } σ2 H2)
theorem ps_forHL {X : Cx} {e : Addr} {c : Option Addr} {tg iter : Expr} {body : List Stmt} {te : TE} {g : TG} {tb : TS} {pos : Pos} (hp : PassesOwn (model X.prog X.w) X.A X.env X.xe) (hh : X.A.handled = some (.ref e)) (hcp : CtxPin X.pn c) (hi : PE X iter te) (hg : PG X tg g) (hb : PSs X body tb)
    (hs : ∀ x, foldedSetIterable iter X.env x = pure x := by intro _; rfl) : PS X (.For tg iter body [] pos) (tForH X.K e c te g tb) := by
  refine ⟨fun pins s σ H D I h => ?_⟩
  refine wpAny_For (thn (hi.run pins s σ H _ I h) fun v s1 h1 => ?_) hs
  obtain ⟨x, H2, I1, rx, a, rfl, ⟨xs0, hq0⟩, W, ⟨m0, w0⟩, turn⟩ := h1
  cases rx
  obtain ⟨its0, rv0, p0, hz0⟩ := I1.list hq0
  refine wpAny_pyIter_list p0.isList ?_
  generalize hit : s1.heap.objs.size = it
  generalize hs2 : ({ s1 with heap := s1.heap.push { cls := .type "list_iterator", data := .fields #[.ref a, .int 0 0] } } : Shared) = s2
  have I2 : Inv X pins σ H2 s2 := by rw [← hs2]; exact I1.kept (t' := s1.toks) fun b o e => Heap.get?_push_of_some _ e
  have st2 : s2.heap.IsListIter it a 0 := by rw [← hs2, ← hit]; exact ⟨_, Heap.get?_push_size _ rfl, rfl, rfl⟩
  have f2 : FpOk X pins H2 it := by rw [← hit]; exact I1.fpOk (Nat.le_refl _) (I1.hok.fresh (Nat.le_refl _))
  have stat : ∀ {H' : Hp}, H' it = none → FpOk X pins H' it := fun hn => ⟨hn, f2.2⟩
  refine codeAny_forLoop_any (fun n s' => ∃ i σ' H', Inv X pins σ' H' s' ∧ s'.heap.IsListIter it a i ∧ H' it = none ∧ W i n σ' H') ?_ m0 ⟨0, σ, H2, I2, st2, f2.1, w0⟩
  rintro n s3 ⟨i, σ3, H3, I3, st3, fr3, w3⟩
  obtain ⟨f0, f1, f2', f3, f4, f5⟩ := stat fr3
  rcases turn i n σ3 H3 w3 with ⟨⟨xs, hq, hx⟩, ⟨kind, hex⟩, qn⟩ | ⟨⟨xs, x, hq, hx⟩, N, hN, step⟩
  · obtain ⟨its, rv, p, hz⟩ := I3.list hq
    have hl := rv.length
    refine wpAny_passesOwn hp (pyNext_list_end_hot2 (hot_tracked I3 hcp hh hex) st3 p.isList (by simp; omega) fun h' eb => ?_)
    exact wpAny_execs_nil ⟨σ3, H3, I3.turned (t' := s3.toks) (fun b o hb e => eb b o hb e) f0 f1 f3 f4 f5, qn⟩
  · obtain ⟨its, rv, p, hz⟩ := I3.list hq
    obtain ⟨u, hu, ru⟩ := rv.get hx
    refine wpAny_passesOwn hp (wpAny_pyNext_list_item st3 p.isList (x := u) (by simpa using hu) fun h' st' sb => ?_)
    have I4 : Inv X pins σ3 H3 { s3 with heap := h' } := I3.turned (t' := s3.toks) (fun b o hb e => (sb.2 b hb).trans e) f0 f1 f3 f4 f5
    obtain ⟨o, e4, c4, d4⟩ := id st'
    refine wpAny_passesOwn hp (go_of (s := { s3 with heap := h' }) e4 c4 d4 (by decide) ?_)
    have I5' := I4.pinned (fp := [it]) (fun b hb => by
      have e : b = it := by simpa using hb
      subst e; exact stat fr3) (fun b hb => by
      have e : b = it := by simpa using hb
      subst e; exact ⟨o, e4, fun v z => by rw [d4] at z; cases z⟩)
    have yl : (Itl X.K a).yld i H3 x H3 := ⟨rfl, fun ys hy => by rw [I3.list_inj hy hq]; exact hx⟩
    refine wpAny_passesOwn hp (thn (hg.run _ _ σ3 H3 x u _ I5' ru (step x yl)) fun _ s6 ⟨σ6, H6, I6, q6⟩ => ?_)
    refine wpAny_passesOwn hp (thn (hb.run _ s6 σ6 H6 _ I6 q6) fun f s7 q7 => ?_)
    have again : ∀ {σ7 : L2.St} {H7 : Hp}, Inv X (pins ++ pinsAt [it] h') σ7 H7 s7 → N σ7 H7 → ∃ m, m < n ∧ ∃ i σ' H', Inv X pins σ' H' s7 ∧ s7.heap.IsListIter it a i ∧ H' it = none ∧ W i m σ' H' := fun {σ7 H7} I7 n7 => by
      obtain ⟨m', hm, w7⟩ := hN σ7 H7 n7
      have pp := I7.pin (it, o) (List.mem_append_right _ (List.mem_append_right _ (mem_pinsAt (by simp) e4)))
      exact ⟨m', hm, i + 1, σ7, H7, I7.unpinned, ⟨o, pp.1, c4, d4⟩, pp.2.1, w7⟩
    cases f with
    | next => obtain ⟨σ7, H7, I7, n7⟩ := q7; exact again I7 n7
    | cont => obtain ⟨σ7, H7, I7, n7⟩ := q7; exact again I7 n7
    | brk => obtain ⟨σ7, H7, I7, q7⟩ := q7; exact ⟨σ7, H7, I7.unpinned, q7⟩
    | ret v => obtain ⟨x7, σ7, H7, I7, r7, q7⟩ := q7; exact ⟨x7, σ7, H7, I7.unpinned, r7, q7⟩
def forK (j : Nat) (sb : Stm) : List D → Stm
  | [] => fun ρ S => .nx (ρ.set j .un) S
  | d :: ds => fun ρ S => match d with
    | .bl true => (match sb (ρ.set j (.fr (.bl true))) S with
      | .rt v S' => .rt v S'
      | _ => .stuck)
    | .bl false => forK j sb ds ρ S
    | _ => .stuck
def sForK (i j : Nat) (ci : Ex) (sb : Stm) : Stm := fun ρ S => match ρ[i]?, ρ[j]? with
  | some (.fr (.exn _)), some _ => (match ci ρ S with
    | .ok (.lst ds) S' => forK j sb ds ρ S'
    | _ => .stuck)
  | _, _ => .stuck
section
variable {X : Cx} {cl : ClsP} {W : WX} {x n : Str} {c : Value} {i j : Nat} {body suite rest : List Stmt} {first ret : Stmt} {np pos pos' ip py p2 : Pos} {s1 s2 sb : Stm} {hit : HTab} {y : Str} {iter : Expr} {ci : Ex}
theorem ss_forK {e : Addr} {cx : Option Addr} {pn : List (Addr × Obj)} (hcp : CtxPin pn cx) (hij : i ≠ j) (hi : SE (X.suite e pn) cl W0 iter ci) (hg : PG (X.suite e pn) (.Name y py) (gName j)) (hv : PE (X.suite e pn) (.Name y p2) (tVar j)) (hr : SS (X.suite e pn) cl W0 ret sb) (hrest : SSs (X.suite e pn) cl W0 rest s2)
    (hp : PassesOwn (model (X.suite e pn).prog (X.suite e pn).w) (X.suite e pn).A (X.suite e pn).env (X.suite e pn).xe := by exact PassesOwn.never)
    (hs : ∀ x, foldedSetIterable iter (X.suite e pn).env x = pure x := by intro _; rfl) :
    PSs (X.suite e pn) (.For (.Name y py) iter [.If (.Name y p2) [ret] [] ip] [] pos :: rest) (fun D σ H => (σ[i]? = some (some (.ref e)) ∧ ∃ kind, H e = some (exnO kind e cx)) ∧ tS X.K cl W0 (sSeq (sForK i j ci sb) s2) D σ H) :=
  PSs.weak (pss_cons (ps_forHL hp (e := e) (c := cx) rfl hcp hi hg (pss_one (ps_if (pt_val hv) (pss_one hr) pss_nil)) hs) hrest) fun D σ H ⟨⟨hσ, kind0, hk0⟩, G0, H0, S, ρ, G, R, h⟩ => by
    unfold sSeq sForK at h
    cases qi : ρ[i]? with
    | none => simp only [qi, AftS] at h
    | some si =>
    cases qj : ρ[j]? with
    | none => cases si <;> simp only [qi, qj, AftS] at h
    | some sj =>
    cases si with
    | fr di =>
      cases di with
      | exn n0 =>
        simp only [qi, qj] at h
        cases qc : ci ρ S with
        | stuck => simp only [qc, AftS] at h
        | exc _ _ => simp only [qc, AftS] at h
        | ok dd S1 =>
          cases dd with
          | lst ds =>
            simp only [qc] at h
            refine ⟨G0, H0, S, ρ, G, R, ?_⟩
            show Aft _ _ _ _ _ _ _ _ _ _ (ci ρ S) _
            rw [qc]
            intro v G1 H1 R1 st1 pv
            have pv : RepG X.K cl G1 v (.lst ds) := pv
            cases pv with
            | @lst a vs _ hz ra =>
              have ha := R1.ok.zsub _ _ hz
              obtain ⟨o, ho, v2, rfl, r2⟩ := R.slot i _ qi
              rw [hσ] at ho
              cases ho
              have hex : H1 e = some (exnO kind0 e cx) := by
                cases r2 with
                | exn hs => exact R1.ok.zsub _ _ (st1.z _ _ (hs.trans ((R.ok.zsub _ _ hs).symm.trans hk0)))
              have sq : SqL X.K H1 a vs := .inl (.inl ha)
              refine ⟨a, rfl, ⟨vs, sq⟩, fun k m σ' H' => H' = H1 ∧ m = ds.length - k ∧ k ≤ ds.length ∧ ∃ ρ', Rel X.K cl G0 H0 S1 ρ' G1 σ' H1 ∧ j < ρ'.length ∧ ρ'.set j .un = ρ.set j .un ∧ AftS X.K cl W0 G0 H0 G1 D (sSeq (forK j sb (ds.drop k)) s2 ρ S1), ⟨_, rfl, rfl, Nat.zero_le _, ρ, R1, (List.getElem?_eq_some_iff.mp qj).1, rfl, ?_⟩, ?_⟩
              · rw [List.drop_zero]
                exact AftS.pre h st1.zle
              · rintro k m σ' H' ⟨rfl, rfl, hk, ρ', R', hjl, hset, h'⟩
                by_cases hlt : k < ds.length
                · right
                  rw [List.drop_eq_getElem_cons hlt] at h'
                  have hd : ds[k]? = some ds[k] := List.getElem?_eq_getElem hlt
                  obtain ⟨vk, hvk, rk⟩ := ra.get hd
                  refine ⟨⟨vs, vk, sq, hvk⟩, fun σ2 H2 => H2 = H' ∧ ∃ ρ', Rel X.K cl G0 H0 S1 ρ' G1 σ2 H' ∧ j < ρ'.length ∧ ρ'.set j .un = ρ.set j .un ∧ AftS X.K cl W0 G0 H0 G1 D (sSeq (forK j sb (ds.drop (k + 1))) s2 ρ S1), fun σ2 H2 ⟨e2, q2⟩ => ⟨ds.length - (k + 1), by omega, e2, rfl, hlt, q2⟩, fun x yl => ?_⟩
                  have hx := yl.2 _ sq
                  rw [hvk] at hx
                  cases hx
                  obtain ⟨o3, ho3, _⟩ := R'.slot j _ (List.getElem?_eq_getElem hjl)
                  have hjs := (List.getElem?_eq_some_iff.mp ho3).1
                  unfold sSeq forK at h'
                  cases qd : ds[k] with
                  | bl b =>
                    rw [qd] at rk h'
                    cases rk
                    have R2 := R'.setF j (v := .bl b) (d := .bl b) (.bl b)
                    refine ⟨.bl b, List.getElem?_set_self hjs, b, rfl, ?_⟩
                    cases b with
                    | true =>
                      rw [if_pos rfl]
                      have hs2 := congrArg (fun l => l.set j (.fr (.bl true))) hset
                      simp only [List.set_set] at hs2
                      rw [hs2] at R2
                      refine ⟨G0, H0, S1, _, G1, R2, ?_⟩
                      simp only at h'
                      cases qb : sb (ρ.set j (.fr (.bl true))) S1 with
                      | rt v S' => simp only [qb] at h'; exact h'
                      | _ => simp only [qb, AftS] at h'
                    | false =>
                      rw [if_neg (by decide)]
                      refine ⟨rfl, _, R2, by rw [List.length_set]; exact hjl, by rw [List.set_set]; exact hset, ?_⟩
                      simp only at h'
                      unfold sSeq
                      exact h'
                  | _ => rw [qd] at h'; simp only [AftS] at h'
                · left
                  have e : k = ds.length := by omega
                  subst e
                  rw [List.drop_length] at h'
                  have R3 := R'.drop1 j
                  rw [hset] at R3
                  exact ⟨⟨vs, sq, by rw [ra.length]; exact Nat.le_refl _⟩, ⟨_, hex⟩, G0, H0, S1, _, G1, R3, h'⟩
          | _ => simp only [qc, AftS] at h
      | _ => simp only [qi, qj, AftS] at h
    | _ => simp only [qi, qj, AftS] at h
theorem ss_tryTK (hN : X.N.Nodup) (hi : X.N[i]? = some n) (hln : X.env.kindOf n = some .local) (hc : Names X x c) (tk : L2N.Takes X W) (hh : HitOk X.K cl hit c)
    (hb : ∀ (W : WX) (pn : List (Addr × Obj)) (xe : Value → Shared → Prop), L2N.Takes (X.tr pn xe) W → PassesOwn (model X.prog X.w) X.A X.env xe → SSs (X.tr pn xe) cl W body s1)
    (hsu : ∀ (e : Addr) (pn : List (Addr × Obj)) (cx : Option Addr), CtxPin pn cx → PSs (X.suite e pn) (first :: suite) (fun D σ H => (σ[i]? = some (some (.ref e)) ∧ ∃ kind, H e = some (exnO kind e cx)) ∧ tS X.K cl W0 s2 D σ H))
    (hs : X.stack = X.env :: X.outer := by rfl) (hf : X.env.frame = some X.env.locals := by rfl) (hex : X.ex = [] := by rfl) :
    SS X cl W (.Try body [.ExceptHandler (some (.Name x np)) (some n) (first :: suite) pos'] [] [] pos) (sTryT i hit s1 s2) :=
  PS.weak (ps_tryT (tb := fun W' => tS X.K cl W' s1) (ts := fun _ e => fun D σ H => (σ[i]? = some (some (.ref e)) ∧ ∃ kind, H e = some (exnO kind e none)) ∧ tS X.K cl W0 s2 D σ H) hs hf hN hi hln hc tk hex (fun W' pn xe t p => hb W' pn xe t p) fun e _ pn => hsu e pn none ctxPin_none) fun D σ H ⟨G0, H0, S, ρ, G, R, h⟩ => by
    refine ⟨G0, H0, S, ρ, G, R, ?_⟩
    unfold sTryT at h
    cases q : s1 ρ S with
    | nx ρ' S' => rw [q] at h; exact h
    | rt v S' => rw [q] at h; exact h
    | bk ρ' S' => rw [q] at h; exact h
    | ct ρ' S' => rw [q] at h; exact h
    | stuck => rw [q] at h; exact h.elim
    | exc m ρ' S' =>
      simp only [q] at h
      intro G' σ' H' R' z
      cases e : hit m with
      | none => simp only [e, AftS] at h
      | some b =>
        refine ⟨b, hh m b e, fun hb' => ⟨rfl, fun p hp hl => ?_⟩, fun hb' => ?_⟩
        · subst hb'
          simp only [e] at h
          obtain ⟨R1, st1, hz1⟩ := R'.newF hp (exnO (.ref (cl m)) p none)
          have R2 := R1.setF i (v := .ref p) (d := .exn m) (.exn hz1)
          refine ⟨⟨List.getElem?_set_self hl, _, upd_same⟩, G0, H0, S', _, _, R2, ?_⟩
          have zz : Zle G _ := z.trans st1.zle
          cases q2 : s2 (ρ'.set i (.fr (.exn m))) S' with
          | nx r s => simp only [q2] at h; exact fun G3 σ3 H3 R3 z3 => h G3 _ H3 (R3.setU i none) (zz.trans z3)
          | bk r s => simp only [q2] at h; exact fun G3 σ3 H3 R3 z3 => h G3 _ H3 (R3.setU i none) (zz.trans z3)
          | ct r s => simp only [q2] at h; exact fun G3 σ3 H3 R3 z3 => h G3 _ H3 (R3.setU i none) (zz.trans z3)
          | rt v s => simp only [q2] at h; exact h
          | exc _ _ _ => simp only [q2, AftS] at h
          | stuck => simp only [q2, AftS] at h
        · subst hb'
          simp only [e] at h
          exact h G' σ' H' R' z
end
end PM
set_option maxHeartbeats 1000000
namespace PM
open PySem PySem.Spec PyProof.Rows L2
section
variable {X : Cx} {cl : ClsP} {W : WX} {o e : Expr} {co ce : Ex} {apos cpos pos : Pos}
end
section
variable {X : Cx} {cl : ClsP} {W : WX}
end
end PM
set_option maxHeartbeats 1000000
namespace PM
open PySem PySem.Spec PyProof.Rows L2
def eT0 (f : Str → Option D) (co : Ex) : Ex := fun ρ S => (co ρ S).bind fun d S => match d with
  | .str a => Res.opt (f a) S
  | _ => .stuck
def eT1 (f : Str → Str → Option D) (co ce : Ex) : Ex := fun ρ S => (co ρ S).bind fun d S => match d with
  | .str a => (ce ρ S).bind fun e S => (match e with
    | .str b => Res.opt (f a b) S
    | _ => .stuck)
  | _ => .stuck
def gUp (a : Str) : Option Str := if a.length ≤ 1000000 then some (Txt.upper a) else none
def fUp (a : Str) : Option D := (gUp a).map D.str
def fFind1 (a b : Str) : Option D := some (.int (Txt.find a b))
section
variable {X : Cx} {cl : ClsP} {W : WX} {o e e2 : Expr} {co ce ci : Ex} {apos pos : Pos}
theorem se_upper0 (ho : SB X cl W o co) (hbase : attributeBase o "upper" X.env (eval o X.env) = eval o X.env := by rfl) (hline : (apos.endLine == pos.line) = true := by rfl) :
    SE X cl W (.Call (.Attribute o "upper" apos) [] [] pos) (eT0 fUp co) :=
  PE.weak (pe_m0 PySem.F.slot_str_upper PySem.F.type_str_upper mt_upper ho hbase hline) fun σ H Q ⟨G0, H0, S, ρ, G, R, h⟩ => by
    refine tX.bind (Pa := PB X.K cl) pfM R h fun d x S1 G1 H1 R1 s1 p1 h1 => ?_
    cases d <;> simp only [Aft] at h1
    rename_i a
    cases RepT.str p1
    by_cases hz : a.length ≤ 1000000
    · simp only [fUp, gUp, hz, if_true, Option.map_some, Res.opt, Aft] at h1
      exact ⟨⟨a, rfl⟩, a, rfl, rfl, by omega, h1 _ G1 H1 R1 (Stp.refl _ _) (.str _)⟩
    · simp only [fUp, gUp, hz, if_false, Option.map_none, Res.opt, Aft] at h1
theorem se_find1 (ho : SB X cl W o co) (he : SB X cl W e ce) (hs : starEach [e] X.env = [(false, eval e X.env)] := by rfl) (hbase : attributeBase o "find" X.env (eval o X.env) = eval o X.env := by rfl) (hline : (apos.endLine == pos.line) = true := by rfl) :
    SE X cl W (.Call (.Attribute o "find" apos) [e] [] pos) (eT1 fFind1 co ce) :=
  PE.weak (pe_m1 PySem.F.slot_str_find PySem.F.type_str_find mt_find ho he hs hbase hline) fun σ H Q ⟨G0, H0, S, ρ, G, R, h⟩ => by
    refine tX.bind (Pa := PB X.K cl) pfM R h fun d x S1 G1 H1 R1 s1 p1 h1 => ?_
    cases d <;> simp only [Aft] at h1
    rename_i a
    cases RepT.str p1
    refine ⟨⟨a, rfl⟩, ?_⟩
    refine tX.bind (Pa := PB X.K cl) pfM R1 h1 fun e y S2 G2 H2 R2 s2 p2 h2 => ?_
    cases e <;> simp only [Aft] at h2
    rename_i b
    cases RepT.str p2
    exact ⟨a, b, rfl, rfl, h2 _ G2 H2 R2 (Stp.refl _ _) (.int _)⟩
end
section
variable {X : Cx} {cl : ClsP} {W : WX} {a : Expr} {ca : Ex}
end
end PM
set_option maxHeartbeats 1000000
namespace PM
open PySem PySem.Spec PyProof.Rows L2
def PE1 (X : Cx) (e : Expr) (t : TE) : Prop :=
  ∀ (pins : List (Addr × Obj)) (s : Shared) (σ : L2.St) (H : Hp) (Q : VK), Inv X pins σ H s → t σ H Q → wpAny (model X.prog X.w) X.A (eval e X.env) (fun v s' => 1 ≤ s'.toks ∧ EP X pins σ Q v s') X.xe s
section
variable {X : Cx} {cl : ClsP} {W : WX}
theorem pe1_op {op : Operator} {r : R2} {b : Expr} {tb : TE} {c : Str} {j : Nat} {p1 pos : Pos} (ho : OpR X (binaryOp op) r) (hb : PE X b tb) : PE1 X (.BinOp (.Constant (.str c) j p1) op b pos) (tOp r (tC (.str c)) tb) := by
  intro pins s σ H Q I h
  refine wpAny_BinOp (Calls.Constant_str ?_)
  refine wpAny_mono (PySem.wpAny_toks_of (n := 1) (by show 1 ≤ s.toks + 1; omega) (hb.run pins _ σ H _ (I.tok _) h)) (fun u s2 q => ?_) fun _ _ z => z.2
  obtain ⟨hk, y, H2, I2, ry, q⟩ := q
  exact wpAny_mono (PySem.wpAny_toks_of hk (ho pins s2 σ H2 (.str c) y _ u Q I2 ⟨_, rfl⟩ ry q)) (fun v s3 h => h) fun _ _ z => z.2
theorem pa_cons1 {e : Expr} {es : List Expr} {te : TE} {t : TA} (ha : PE1 X e te) (hr : L2.PAT X es t) (hs : starEach (e :: es) X.env = (false, eval e X.env) :: starEach es X.env := by rfl) : PA X (e :: es) (tCons te t) := by
  refine ⟨fun pos pins s σ H Q I h => ?_⟩
  rw [hs]
  show wpAny _ _ (spliced ((false, eval e X.env) :: backTo pos (starEach es X.env))) _ _ s
  refine Calls.spliced_cons (thn (ha pins s σ H _ I h) fun u s1 ⟨hk, x, H1, I1, r1, q1⟩ => ?_)
  exact thn (hr pos pins s1 σ H1 _ hk I1 q1) fun us s2 ⟨xs, H2, I2, r2, q2⟩ => ⟨x :: xs, H2, I2, .cons r1 r2, q2⟩
theorem pat_cons {e : Expr} {es : List Expr} {te : TE} {t : TA} (ha : L2.PET X e te) (hr : PA X es t) (hs : starEach (e :: es) X.env = (false, eval e X.env) :: starEach es X.env := by rfl) : L2.PAT X (e :: es) (tCons te t) := by
  intro pos pins s σ H Q hk I h
  rw [hs]
  show wpAny _ _ (spliced ((false, eval e X.env) :: backTo pos (starEach es X.env))) _ _ s
  refine Calls.spliced_cons (thn (ha pins s σ H _ hk I h) fun u s1 ⟨x, H1, I1, r1, q1⟩ => ?_)
  exact thn (hr.run pos pins s1 σ H1 _ I1 q1) fun us s2 ⟨xs, H2, I2, r2, q2⟩ => ⟨x :: xs, H2, I2, .cons r1 r2, q2⟩
def gRepl (y z x : Str) : Option Str := if x.length + (x.length + 1) * z.length ≤ 16777216 then some (Txt.replace x y z) else none
def fRepl (y z x : Str) : Option D := (gRepl y z x).map D.str
theorem sa_rep {bm : List Bool} {b o : Expr} {es : List Expr} {cb co : Ex} {cr : Ax} {c y z : Str} {j k l : Nat} {p1 p2 c0 c1 apos pos : Pos} (hb : SB X cl W b cb) (ho : SB X cl W o co) (hr : SA X cl W bm es cr) (hyz : (y == z) = false := by decide)
    (hst : starEach [.Constant (.str y) k c0, .Constant (.str z) l c1] X.env = [(false, eval (.Constant (.str y) k c0) X.env), (false, eval (.Constant (.str z) l c1) X.env)] := by rfl)
    (hbase : attributeBase o "replace" X.env (eval o X.env) = eval o X.env := by rfl) (hline : (apos.endLine == pos.line) = true := by rfl)
    (hs : starEach (.BinOp (.Constant (.str c) j p1) .Add b p2 :: .Call (.Attribute o "replace" apos) [.Constant (.str y) k c0, .Constant (.str z) l c1] [] pos :: es) X.env = (false, eval (.BinOp (.Constant (.str c) j p1) .Add b p2) X.env) :: starEach (.Call (.Attribute o "replace" apos) [.Constant (.str y) k c0, .Constant (.str z) l c1] [] pos :: es) X.env := by rfl)
    (hs2 : starEach (.Call (.Attribute o "replace" apos) [.Constant (.str y) k c0, .Constant (.str z) l c1] [] pos :: es) X.env = (false, eval (.Call (.Attribute o "replace" apos) [.Constant (.str y) k c0, .Constant (.str z) l c1] [] pos) X.env) :: starEach es X.env := by rfl) :
    SA X cl W (false :: false :: bm) (.BinOp (.Constant (.str c) j p1) .Add b p2 :: .Call (.Attribute o "replace" apos) [.Constant (.str y) k c0, .Constant (.str z) l c1] [] pos :: es) (aCons (eBin oAdd (eC (.str c)) cb) (aCons (eT0 (fRepl y z) co) cr)) := by
  have h1 : PE1 X (.BinOp (.Constant (.str c) j p1) .Add b p2) (tX X.K cl (PF X.K cl) W (eBin oAdd (eC (.str c)) cb)) := fun pins s σ H Q I h => by
    exact pe1_op op_addAll hb pins s σ H Q I (by
      obtain ⟨G0, H0, S, ρ, G, R, q⟩ := bin_sem (X := X) (W := W) (ca := eC (.str c)) (cb := cb) pfM os_add h
      exact q (.str c) G H R (Stp.refl _ _) (.inl (.str c)))
  have h2 : L2.PET X (.Call (.Attribute o "replace" apos) [.Constant (.str y) k c0, .Constant (.str z) l c1] [] pos) (tX X.K cl (PF X.K cl) W (eT0 (fRepl y z) co)) := fun pins s σ H Q hk I h => by
    refine CwR.pet_replC ho hyz hst hbase hline pins s σ H Q hk I ?_
    obtain ⟨G0, H0, S, ρ, G, R, h⟩ := h
    refine tX.bind (Pa := PB X.K cl) pfM R h fun d x S1 G1 H1 R1 s1 p1 h1 => ?_
    cases d <;> simp only [Aft] at h1
    rename_i a
    cases RepT.str p1
    by_cases hz : a.length + (a.length + 1) * z.length ≤ 16777216
    · simp only [fRepl, gRepl, if_pos hz, Option.map_some, Res.opt, Aft] at h1
      exact ⟨a, rfl, hz, h1 _ G1 H1 R1 (Stp.refl _ _) (.str _)⟩
    · simp only [fRepl, gRepl, if_neg hz, Option.map_none, Res.opt, Aft] at h1
  refine PA.weak (pa_cons1 h1 (pat_cons h2 hr hs2) hs) fun σ H Q ⟨G0, H0, S, ρ, G, R, h⟩ => ?_
  refine tX.bind (Pa := PF X.K cl) paM R h fun d x S1 G1 H1 R1 s1 p1 h1 => ?_
  have ea : (aCons (eT0 (fRepl y z) co) cr ρ S1).bind (fun ds S => (.ok (d :: ds) S : Res (List D))) = (eT0 (fRepl y z) co ρ S1).bind fun d2 S => (cr ρ S).bind fun ds S => .ok (d :: d2 :: ds) S := by
    unfold aCons
    cases eT0 (fRepl y z) co ρ S1 with
    | ok a S2 =>
      simp only [Res.bind]
      cases cr ρ S2 <;> rfl
    | exc n S2 => rfl
    | stuck => rfl
  rw [ea] at h1
  refine tX.bind (Pa := PF X.K cl) paM R1 h1 fun d2 x2 S2 G2 H2 R2 s2 p2 h2 => ?_
  refine tX.bind (Pa := PA1 X.K cl bm) paM R2 h2 fun ds xs S3 G3 H3 R3 s3 p3 h3 => ?_
  exact h3 _ G3 H3 R3 (Stp.refl _ _) (.fr (RepG.stp (s2.trans s3) p1) (.fr (RepG.stp s3 p2) p3))
end
end PM
set_option maxHeartbeats 1000000
namespace PM
open PySem PySem.Spec PyProof.Rows L2
section
variable {X : Cx} {cl : ClsP}
end
section
variable {X : Cx} {cl : ClsP} {W : WX}
end
section
variable {X : Cx} {cl : ClsP}
end
end PM
set_option maxHeartbeats 1000000
namespace PM
namespace C
open PySem PySem.Spec PyProof.Rows L2
section
theorem _root_.L2.Fun.okC {P : Program} {w : World} {K : PySem.W.Frag} {mg : Str → Option Value} {base : Heap} {x qual : Str} {st : Stmt} {f : Addr} {fd : FuncData} {N ps : List Str} {k : Nat} {sp : Sp} (F : Fun K x qual st f fd) (S : FnScope N ps (defScope st)) (len : ∀ vs H Q E, sp vs H Q E → vs.length = ps.length)
    (hbody : ∀ (cdv : Value) (A : Around) (outer : List PySem.Env) (s : Shared) (H : Hp) (vs : List V) (Q : VK) (E : XK), Room k (A.deeper (envOfC qual (defScope st) s.heap.objs.size f cdv)) → sp vs H Q E →
      ∃ t, PSs (cxOf (L2.CX P w) P w K mg base N qual (defScope st) f cdv A outer s H E) (defBody st) t ∧ t { nx := fun _ H' => Q .non H', rt := Q } (L2.start N vs) H) : FnOk P w K mg base (L2.CX P w) (k + 1) f fd ps sp := by
  obtain ⟨oc, od, kV, doc, pm, an, cdv, ct, osl, rfl, lk, hcd⟩ := F.ex
  exact fn_of lk hcd S len fun A outer s H vs Q E hr hsp => hbody cdv A outer s H vs Q E hr hsp
end
section
variable {P : Program} {w : World} {K : PySem.W.Frag} {mg : Str → Option Value} {base : Heap} {cl : ClsP}
theorem fn_ok {x qual : Str} {st : Stmt} {f : Addr} {fd : FuncData} {N ps : List Str} {lv k : Nat} {bm : List Bool} {body : Stm} (F : Fun K x qual st f fd) (Sc : FnScope N ps (defScope st)) (hbm : bm.length = ps.length) (hk : N.length = ps.length + k)
    (hbody : ∀ (cdv : Value) (A : Around) (outer : List PySem.Env) (s : Shared) (H : Hp) (E : XK), Room lv (A.deeper (envOfC qual (defScope st) s.heap.objs.size f cdv)) →
      L2.Takes (cxOf (L2.CX P w) P w K mg base N qual (defScope st) f cdv A outer s H E) (fun c d _ H => E c d H) →
      SSs (cxOf (L2.CX P w) P w K mg base N qual (defScope st) f cdv A outer s H E) cl (fun c d _ H => E c d H) (defBody st) body) : FnOk P w K mg base (L2.CX P w) (lv + 1) f fd ps (spOf K cl bm (mkFn bm k body)) := by
  refine F.okC Sc (fun vs H Q E ⟨G, S, ds, ok, so, p, q⟩ => (p.len.1).trans hbm) (fun cdv A outer s H vs Q E hr ⟨G, S, ds, ok, so, p, q⟩ => ?_)
  refine ⟨_, hbody cdv A outer s H E hr (L2.takes_of rfl rfl rfl rfl), G, H, S, startE bm ds k, G, Rel.start ok so p (by rw [p.len.1, hbm, hk]; omega), ?_⟩
  unfold mkFn at q
  cases r : body (startE bm ds k) S with
  | nx ρ' S' => rw [r] at q; exact fun G' σ' H' R' z => q .non _ H' R'.leave.1 out_only R'.leave.2 .non
  | rt v S' => rw [r] at q; exact q
  | exc n ρ' S' => rw [r] at q; exact fun G' σ' H' R' z => q _ H' R'.leave.1 out_only R'.leave.2
  | bk ρ' S' => rw [r] at q; exact q.elim
  | ct ρ' S' => rw [r] at q; exact q.elim
  | stuck => rw [r] at q; exact q.elim
end
section
variable {X : Cx} {cl : ClsP} {W : WX} {e o : Expr} {es : List Expr} {pos : Pos} {k : Nat} {f : Addr} {fd : FuncData} {ps : List Str} {m : Fn} {bm : List Bool} {x : Str} {p : Pos} {ax : Ax}
theorem se_call (F : FnOk X.prog X.w X.K X.mg X.base (L2.CX X.prog X.w) k f fd ps (spOf X.K cl bm m)) (hr : Room k X.A) (hg : Gl X x) (hm : X.mg x = some (.ref f)) (hk : PySem.W.keepIn X.K (.ref f) = true) (hb : Binds X.K fd ps []) (tk : L2.Takes X W) (ha : SA X cl W bm (e :: es) ax)
    (hdb : (x == ("__debug__" : Str)) = false := by decide) (he : starEach (e :: es) X.env = (false, eval e X.env) :: starEach es X.env := by rfl) (hpl : (backTo pos (starEach es X.env)).any (·.1) = false := by rfl) : SE X cl W (.Call (.Name x p) (e :: es) [] pos) (eCall m ax) :=
  PE.weak (pe_callS F hr hg hm hk hb (L2.passAt tk) ha hdb he hpl) fun σ H Q ⟨G0, H0, S, ρ, G, R, h⟩ => by
    refine tX.bind (Pa := PA1 X.K cl bm) pfM R h fun ds vs S1 G1 H1 R1 s1 p1 h1 => ?_
    exact ⟨G1.out, S1, ds, R1.leave.1, out_only, ArgsOk.out p1, call_semF R1 h1⟩
def MethOk (X : Cx) (m : Str) (C : Addr) (sp : Sp) : Prop := ∃ (g : Addr) (fd : FuncData) (j : Nat) (ps : List Str), Cls X.K C ∧ Meth X.K C m g ∧ FnOk X.prog X.w X.K X.mg X.base (L2.CX X.prog X.w) j g fd ps sp ∧ Room j X.A ∧ Binds X.K fd ps []
def tMD (X : Cx) (m : Str) (W : WX) (ta : TE) (t : TA) : TE := fun σ H Q => ta σ H fun v H1 => ∃ (a C dx : Addr) (fs : List (Str × V)) (sp : Sp), v = .ref a ∧ H1 a = some (.ins C dx fs) ∧ fs.lookup m = none ∧ MethOk X m C sp ∧ t σ H1 fun vs H2 => sp (v :: vs) H2 Q (WE W σ)
theorem pe_md0 {mn : Str} {apos : Pos} {ta : TE} {pl : Sem Bool} (ho : PE X o ta) (tk : L2.Takes X W)
    (ht : eval (.Call (.Attribute o mn apos) [] [] pos) X.env = (do
      let ov ← eval o X.env
      standAt apos.atName
      let (f, first) ← holding [ov] (getMethod ov mn pl)
      callWith pos f first (backTo pos (starEach [] X.env)) (backToKw pos (keywordEach [] X.env))) := by rfl) : PE X (.Call (.Attribute o mn apos) [] [] pos) (tMD X mn W ta tNil) :=
  ⟨fun pins s σ H Q I h => PySem.W.methodCall_KW (pl := pl) (thn (ho.run pins s σ H _ I h) fun u s1 ⟨v, H1, I1, rv, a, C, dx, fs, sp, ev, ea, l, ⟨g, fd, j, ps, c, hm, F, hr, hb⟩, q⟩ => by
    subst ev
    cases (show u = Value.ref a from rv)
    refine getmeth_ok I1 ea c hm l ?_
    exact PySem.W.callWith_K0 (first := [.ref a]) I1.kIn hm.kp (run_fnS (E := WE W) (us := [Value.ref a]) (vs := [V.ref a]) F hr hb (L2.passAt tk σ) I1 (.cons rfl .nil) q)) ht⟩
def MtOk (X : Cx) (cl : ClsP) (mn : Str) (bm : List Bool) (mt : MTab) : Prop := ∀ c fn, mt c = some fn → MethOk X mn (cl c) (spOf X.K cl (true :: bm) fn)
theorem meth_sem {mn : Str} {mt : MTab} {co : Ex} {bm : List Bool} {P : Post D V} {fn : Res Val → Res D} (hP : PostM P) (hfin : ∀ {G0 : Gh} {H0 : Hp} {S : Store} {ρ : Env} {G : Gh} {σ : L2.St} {H : Hp} {r : Res Val} {Q : VK}, Rel X.K cl G0 H0 S ρ G σ H → Aft X.K cl P W G0 H0 ρ σ G H (fn r) Q → FnEnd X.K cl G.out H r Q (WE W σ)) (hmt : MtOk X cl mn bm mt)
    {σ : L2.St} {H : Hp} {Q : VK} (h : tX X.K cl P W (eMeth mn mt co ax fn) σ H Q) : tMD X mn W (tX X.K cl (PB X.K cl) W co) (tX X.K cl (PA1 X.K cl bm) W ax) σ H Q := by
  obtain ⟨G0, H0, S, ρ, G, R, h⟩ := h
  refine tX.bind hP R h fun d v S1 G1 H1 R1 s1 p1 h1 => ?_
  have go : ∀ (c : Nat) (fn1 : Fn), mt c = some fn1 → ((∃ fs, d = .obj c fs ∧ fs.lookup mn = none ∧ mt c = some fn1) ∨ ∃ n fs, d = .rf n ∧ S1[n]? = some (.obj c fs) ∧ fs.lookup mn = none ∧ mt c = some fn1) →
      Aft X.K cl P W G0 H0 ρ σ G1 H1 ((ax ρ S1).bind fun ds S => fn (fn1 (d :: ds) S)) Q → ∃ (a C dx : Addr) (fs : List (Str × V)) (sp : Sp), v = .ref a ∧ H1 a = some (.ins C dx fs) ∧ fs.lookup mn = none ∧ MethOk X mn C sp ∧ tX X.K cl (PA1 X.K cl bm) W ax σ H1 fun vs H2 => sp (v :: vs) H2 Q (WE W σ) := fun c fn1 hf hr h1 => by
    obtain ⟨a, dx, fs, rfl, h2, h3⟩ := recv R1 p1 hr
    refine ⟨a, cl c, dx, fs, _, rfl, h2, h3, hmt c fn1 hf, tX.bind (Pa := PA1 X.K cl bm) hP R1 h1 fun ds vs S2 G2 H2 R2 s2 p2 h4 => ?_⟩
    exact ⟨G2.out, S2, d :: ds, R2.leave.1, out_only, ArgsOk.out (.bo (RepT.stp p1 s2) p2), hfin R2 h4⟩
  cases d with
  | obj c fs =>
    simp only at h1
    cases q1 : fs.lookup mn with
    | some y => simp only [q1, Aft] at h1
    | none =>
      cases q2 : mt c with
      | none => simp only [q1, q2, Aft] at h1
      | some fn1 =>
        simp only [q1, q2] at h1
        exact go c fn1 q2 (.inl ⟨fs, rfl, q1, q2⟩) h1
  | rf n =>
    simp only at h1
    cases q0 : S1[n]? with
    | none => simp only [q0, Aft] at h1
    | some cell =>
      cases cell with
      | box _ => simp only [q0, Aft] at h1
      | obj c fs =>
        simp only [q0] at h1
        cases q1 : fs.lookup mn with
        | some y => simp only [q1, Aft] at h1
        | none =>
          cases q2 : mt c with
          | none => simp only [q1, q2, Aft] at h1
          | some fn1 =>
            simp only [q1, q2] at h1
            exact go c fn1 q2 (.inr ⟨n, fs, rfl, q0, q1, q2⟩) h1
  | _ => simp only [Aft] at h1
theorem tMD_nil {mn : Str} {ta : TE} {σ : L2.St} {H : Hp} {Q : VK} (mono : ∀ (M M' : V → Hp → Prop), (∀ v H, M v H → M' v H) → ta σ H M → ta σ H M') (h : tMD X mn W ta (tX X.K cl (PA1 X.K cl []) W aNil) σ H Q) : tMD X mn W ta tNil σ H Q :=
  mono _ _ (fun v H1 ⟨a, C, dx, fs, sp, e1, e2, e3, e4, q⟩ => ⟨a, C, dx, fs, sp, e1, e2, e3, e4, aNil_sem q⟩) h
theorem se_meth0 {mn : Str} {apos : Pos} {mt : MTab} {co : Ex} {pl : Sem Bool} (hmt : MtOk X cl mn [] mt) (ho : SB X cl W o co) (tk : L2.Takes X W)
    (ht : eval (.Call (.Attribute o mn apos) [] [] pos) X.env = (do
      let ov ← eval o X.env
      standAt apos.atName
      let (f, first) ← holding [ov] (getMethod ov mn pl)
      callWith pos f first (backTo pos (starEach [] X.env)) (backToKw pos (keywordEach [] X.env))) := by rfl) : SE X cl W (.Call (.Attribute o mn apos) [] [] pos) (eMeth mn mt co aNil resF) :=
  PE.weak (pe_md0 (pl := pl) ho tk ht) fun σ H Q h => tMD_nil (fun _ _ k q => tX_mono k q) (meth_sem pfM call_semF hmt h)
end
section
theorem cx_end {P : Program} {w : World} {H : Hp} {s : Shared} {e : Value} {s' : Shared} (z : L2.CX P w [] H s (fun _ _ _ => False) e s') : False := by
  obtain ⟨_, _, _, _, _, _, _, _, _, _, _, _, h⟩ := z
  exact h
end
section
variable {X : Cx} {cl : ClsP} {W : WX} {e : Expr} {es : List Expr} {pos : Pos} {k : Nat} {f C : Addr} {fd : FuncData} {ps : List Str} {bm : List Bool} {x : Str} {p : Pos} {ax : Ax} {sp : Sp} {t : TA}
theorem run_makeS {pins : List (Addr × Obj)} {σ : L2.St} {H : Hp} {s : Shared} {Q : VK} {us : List Value} {vs : List V} (M : Mk X.K C f) (F : FnOk X.prog X.w X.K X.mg X.base (L2.CX X.prog X.w) k f fd ps sp) (hr : Room (k + 1) X.A) (hb : Binds X.K fd ps [])
    (tk : L2.Takes X W) (I : Inv X pins σ H s) (r : Vals vs us)
    (h : ∀ x dx, H x = none → H dx = none → dx ≠ x → sp (.ref x :: vs) (upd (upd H dx (.own x)) x (.ins C dx [])) (fun v H2 => v = .non ∧ Q (.ref x) H2) (WE W σ)) :
    wpAny (model X.prog X.w) X.A (call (.ref C) us) (EP X pins σ Q) X.xe s := by
  have hq := h (s.heap.objs.size + 1) s.heap.objs.size (I.hok.fresh (Nat.le_succ _)) (I.hok.fresh (Nat.le_refl _)) (Nat.ne_of_lt (Nat.lt_succ_self _))
  have I2 := Inv.made (C := C) I
  have r2 : Vals (V.ref (s.heap.objs.size + 1) :: vs) (Value.ref (s.heap.objs.size + 1) :: us) := .cons rfl r
  have hl : (Value.ref (s.heap.objs.size + 1) :: us).length = ps.length := by
    have e := r2.length
    rw [F.len _ _ _ _ hq] at e
    exact e.symm
  have hl2 : ((Value.ref (s.heap.objs.size + 1) :: us) ++ []).length = ps.length := by rw [List.append_nil]; exact hl
  have hb2 := hb _ (Value.ref (s.heap.objs.size + 1) :: us) I2.kIn hl2
  rw [List.append_nil] at hb2
  refine wpAny_call (make_map (f := f) I.kIn M.makes M.init (beq_iff_eq.mp M.fn) (codeAny_mono (F.run _ X.stack _ _ ⟨Value.ref (s.heap.objs.size + 1) :: us, []⟩ (Value.ref (s.heap.objs.size + 1) :: us) _ _ (WE W σ) (hr.make C us [])
    (I2.env0.make C us []) hb2 r2 hq) fun r s' hq' => ?_))
  cases r with
  | error e => exact L2.passAt tk σ pins _ _ e s' I2 hq'
  | ok fl =>
    cases fl with
    | ret u =>
      obtain ⟨v, H', I3, rv, ev, q3⟩ := I2.after hq'
      subst ev
      exact ⟨rv, ⟨V.ref (s.heap.objs.size + 1), H', I3, rfl, q3⟩⟩
    | next => exact False.elim hq'
    | brk => exact False.elim hq'
    | cont => exact False.elim hq'
theorem pe_makeS (M : Mk X.K C f) (F : FnOk X.prog X.w X.K X.mg X.base (L2.CX X.prog X.w) k f fd ps sp) (hr : Room (k + 1) X.A) (hg : Gl X x) (hm : X.mg x = some (.ref C)) (hb : Binds X.K fd ps []) (tk : L2.Takes X W)
    (ha : PA X (e :: es) t) (hdb : (x == ("__debug__" : Str)) = false := by decide) (he : starEach (e :: es) X.env = (false, eval e X.env) :: starEach es X.env := by rfl) (hpl : (backTo pos (starEach es X.env)).any (·.1) = false := by rfl) :
    PE X (.Call (.Name x p) (e :: es) [] pos) (tMakeS C sp W t) := by
  refine ⟨fun pins s σ H Q I h => ?_⟩
  refine wpAny_Call_Name_kw (ld_glob I hg hm ?_ hdb)
  refine PySem.W.callWith_K (h₀ := X.base) I.ok.mod.kin M.kp (thn (ha.run pos pins s σ H _ I h) fun us s1 ⟨vs, H1, I1, r, q⟩ => ⟨I1.kIn, ?_⟩) he hpl
  exact run_makeS M F hr hb tk I1 r q
theorem sn_make {c : Nat} {m : Ini} (M : Mk X.K (cl c) f) (F : FnOk X.prog X.w X.K X.mg X.base (L2.CX X.prog X.w) k f fd ps (spIni X.K cl c bm m)) (hr : Room (k + 1) X.A) (hg : Gl X x) (hm : X.mg x = some (.ref (cl c))) (hb : Binds X.K fd ps []) (tk : L2.Takes X W) (ha : SA X cl W bm (e :: es) ax)
    (hdb : (x == ("__debug__" : Str)) = false := by decide) (he : starEach (e :: es) X.env = (false, eval e X.env) :: starEach es X.env := by rfl) (hpl : (backTo pos (starEach es X.env)).any (·.1) = false := by rfl) : SN X cl W (.Call (.Name x p) (e :: es) [] pos) (eMake (m c) ax) :=
  PE.weak (pe_makeS M F hr hg hm hb tk ha hdb he hpl) fun σ H Q ⟨G0, H0, S, ρ, G, R, h⟩ => by
    refine tX.bind (Pa := PA1 X.K cl bm) pnM R h fun ds vs S1 G1 H1 R1 s1 p1 h1 => ?_
    intro y dx hy hdx ne
    exact ⟨G1.out, S1, ds, y, dx, vs, H1, rfl, rfl, hy, hdx, ne, R1.leave.1, out_only, ArgsOk.out p1, make_sem R1 h1⟩
theorem ss_raise {n : Nat} {x m : Str} {j : Nat} {p p2 pos2 : Pos} (hc : X.calm = true) (tk : L2.Takes X W) (ex : ExCls X.K (cl n)) (gC : X.mg x = some (.ref (cl n))) (hg : Gl X x) (hdb : (x == ("__debug__" : Str)) = false := by decide) : SS X cl W (.Raise (some (.Call (.Name x p) [.Constant (.str m) j p2] [] pos)) none pos2) (sRaise n) :=
  PS.weak (L2.ps_raise hc tk (L2.pmk_own PySem.F.excBase_ValueError ex.xi gC ex.kp (raises_own ex.sb ex.ty) hg hdb)) fun D σ H ⟨G0, H0, S, ρ, G, R, h⟩ => h G σ H R (Zle.refl _)
end
section
variable {X : Cx} {cl : ClsP} {W : WX} {x n : Str} {c : Value} {i : Nat} {body suite : List Stmt} {first : Stmt} {np pos pos' : Pos} {s1 s2 : Stm} {hit : HTab}
inductive HdsS (X : Cx) (cl : ClsP) : List ExceptHandler → List (HTab × Stm) → List (Value × (Addr → Value → Option Addr → TS)) → Prop
  | nil : HdsS X cl [] [] []
  | cons {x : Str} {c : Value} {first : Stmt} {suite : List Stmt} {np pos' : Pos} {hit : HTab} {s2 : Stm} {hds : List ExceptHandler} {l : List (HTab × Stm)} {l' : List (Value × (Addr → Value → Option Addr → TS))} (hc : Names X x c) (hh : HitOk X.K cl hit c)
      (hsu : ∀ (e : Addr) (oe : Obj) (pn : List (Addr × Obj)), SSs (X.suite e ((e, oe) :: pn)) cl W0 (first :: suite) s2) (r : HdsS X cl hds l l') :
      HdsS X cl (.ExceptHandler (some (.Name x np)) none (first :: suite) pos' :: hds) ((hit, s2) :: l) ((c, fun _ _ _ => tS X.K cl W0 s2) :: l')
theorem HdsS.ok {hds : List ExceptHandler} {l : List (HTab × Stm)} {l' : List (Value × (Addr → Value → Option Addr → TS))} (h : HdsS X cl hds l l') : L2.HdsOk X hds l' := by
  induction h with
  | nil => exact .nil
  | cons hc hh hsu r ih => exact .cons hc (fun a oe cls d pn _ _ => hsu a oe pn) ih
end
section
variable {X : Cx} {cl : ClsP} {W : WX} {e o a b : Expr} {es : List Expr} {c co ca cb : Ex} {ta tb : Tx} {pos : Pos} {fl : FTab}
variable {k : Nat} {f : Addr} {fd : FuncData} {ps : List Str} {bm : List Bool} {x : Str} {p : Pos} {ax : Ax}
end
section
variable {P : Program} {w : World} {K : PySem.W.Frag} {mg : Str → Option Value} {base : Heap} {k : Nat} {f : Addr} {fd : FuncData} {ps : List Str} {sp : Sp}
theorem up (F : FnOk P w K mg base (L2N.CX P w) k f fd ps sp) : FnOk P w K mg base (L2.CX P w) k f fd ps sp :=
  ⟨F.len, fun A outer s H args us vs Q E hr he hb hv hs => codeAny_mono (F.run A outer s H args us vs Q E hr he hb hv hs) fun r s' x => by
    cases r with
    | ok fl => cases fl <;> exact x
    | error e =>
      obtain ⟨a, B, H', cls, d, e1, fl, rest⟩ := x
      exact ⟨a, B, H', cls, d, e1, L2H.flyingZ_imp (fun o z => z.zc) fl, rest⟩⟩
end
section
variable {X : Cx} {cl : ClsP} {mn : Str} {bm : List Bool} {mt : MTab}
theorem mt_up (h : PM.MtOk X cl mn bm mt) : MtOk X cl mn bm mt := fun c fn e => by
  obtain ⟨g, fd, j, ps, h1, h2, h3, h4⟩ := h c fn e
  exact ⟨g, fd, j, ps, h1, h2, up h3, h4⟩
end
end C
open PySem PySem.Spec PyProof.Rows L2
def sTryR (hit : HTab) (suite body : Stm) : Stm := fun ρ S => match body ρ S with
  | .exc n ρ' S' => (match hit n with
    | some true => suite ρ' S'
    | some false => .exc n ρ' S'
    | none => .stuck)
  | r => r
namespace C
open PySem PySem.Spec PyProof.Rows L2
section
variable {X : Cx} {cl : ClsP} {W : WX} {x : Str} {c : Value} {body suite : List Stmt} {first : Stmt} {np pos pos' : Pos} {s1 s2 : Stm} {hit : HTab}
theorem ss_raiseH {n : Nat} {x m : Str} {j : Nat} {p p2 pos2 : Pos} (hot : L2H.HotC X) (tk : L2.Takes X W) (ex : ExCls X.K (cl n)) (gC : X.mg x = some (.ref (cl n))) (hg : Gl X x) (hdb : (x == ("__debug__" : Str)) = false := by decide) : SS X cl W (.Raise (some (.Call (.Name x p) [.Constant (.str m) j p2] [] pos)) none pos2) (sRaise n) :=
  PS.weak (L2H.ps_raiseH hot tk (L2N.pmk_own PySem.F.excBase_ValueError ex.xi gC ex.kp (raises_own ex.sb ex.ty) hg hdb)) fun D σ H ⟨G0, H0, S, ρ, G, R, h⟩ => h G σ H R (Zle.refl _)
theorem ss_tryR (tk : L2.Takes X W) (hc : Names X x c) (hh : HitOk X.K cl hit c) (hpa : ∀ hd : Option Value, PassesOwnAt (model X.prog X.w) (X.A.mark hd) X.A X.env X.xe)
    (hsu : ∀ (a : Addr) (oe : Obj) (pn : List (Addr × Obj)), L2.Takes (L2H.suiteX X a ((a, oe) :: pn)) W → L2H.HotC (L2H.suiteX X a ((a, oe) :: pn)) → SSs (L2H.suiteX X a ((a, oe) :: pn)) cl W (first :: suite) s2)
    (hb : ∀ (W : WX) (pn : List (Addr × Obj)) (xe : Value → Shared → Prop), L2N.Takes (X.tr pn xe) W → PassesOwn (model X.prog X.w) X.A X.env xe → SSs (X.tr pn xe) cl W body s1)
    (hs : X.stack = X.env :: X.outer := by rfl) (hf : X.env.frame = some X.env.locals := by rfl) :
    SS X cl W (.Try body [.ExceptHandler (some (.Name x np)) none (first :: suite) pos'] [] [] pos) (sTryR hit s2 s1) :=
  PS.weak (L2H.ps_try_onlyX (tb := fun W' => tS X.K cl W' s1) (ts := fun _ _ _ => tS X.K cl W s2) hs hf hc hpa tk (fun W' pn xe t _ p => hb W' pn xe t p) fun a oe cls d pn _ _ t hot => hsu a oe pn t hot) fun D σ H ⟨G0, H0, S, ρ, G, R, h⟩ => by
    refine ⟨G0, H0, S, ρ, G, R, ?_⟩
    unfold sTryR at h
    cases q : s1 ρ S with
    | nx ρ' S' => rw [q] at h; exact h
    | rt v S' => rw [q] at h; exact h
    | bk ρ' S' => rw [q] at h; exact h
    | ct ρ' S' => rw [q] at h; exact h
    | stuck => rw [q] at h; exact h.elim
    | exc m ρ' S' =>
      simp only [q] at h
      intro G' σ' H' R' z
      cases e : hit m with
      | none => simp only [e, AftS] at h
      | some b =>
        refine ⟨b, hh m b e, fun hb' a ha => ?_, fun hb' => ?_⟩
        · subst hb'
          simp only [e] at h
          refine ⟨G0, H0, S', ρ', G', R', ?_⟩
          cases q2 : s2 ρ' S' with
          | nx r s => simp only [q2] at h; exact fun G3 σ3 H3 R3 z3 => h G3 _ H3 R3 (z.trans z3)
          | bk r s => simp only [q2] at h; exact fun G3 σ3 H3 R3 z3 => h G3 _ H3 R3 (z.trans z3)
          | ct r s => simp only [q2] at h; exact fun G3 σ3 H3 R3 z3 => h G3 _ H3 R3 (z.trans z3)
          | rt v s => simp only [q2] at h; exact h
          | exc k r s => simp only [q2] at h; exact fun G3 σ3 H3 R3 z3 => h G3 _ H3 R3 (z.trans z3)
          | stuck => simp only [q2, AftS] at h
        · subst hb'
          simp only [e] at h
          exact h G' σ' H' R' z
end
end C
end PM
set_option maxHeartbeats 1000000
namespace L2B
open PySem PySem.Spec PyProof.Rows L2
def Ctx1 (B : Heap) (H : Hp) (o : Obj) : Prop := ∀ vs : Array Value, o.data = .fields vs → vs[2]? = some .none ∨ ∃ (b : Addr) (ob : Obj) (vb : Array Value), vs[2]? = some (.ref b) ∧ B.get? b = some ob ∧ ob.data = .fields vb ∧ vb[2]? = some .none ∧ H b = none
def Zb (B : Heap) (H : Hp) (cls : Value) (d : Option Addr) : Obj → Prop := fun o => Zc cls d o ∧ Ctx1 B H o
theorem third {vs : Array Value} {v : Value} : (vs.setIfInBounds 1 v)[2]? = vs[2]? := by
  first
  | exact Array.getElem?_setIfInBounds_ne (by decide)
  | simp [Array.getElem?_setIfInBounds]
theorem Zb.steady {B : Heap} {H : Hp} {cls : Value} {d : Option Addr} : PXN.Steady1 (Zb B H cls d) := fun o v ⟨⟨h1, h2⟩, h3⟩ => ⟨⟨PXN.steady_cls o v h1, PXN.steady_dict o v h2⟩, fun vs e => by
  obtain ⟨oc, od, dt, sl⟩ := o
  cases dt with
  | fields vs0 =>
    rw [← Data.fields.inj (show Data.fields (vs0.setIfInBounds 1 v) = Data.fields vs from e), third]
    exact h3 vs0 rfl
  | _ => first | exact Data.noConfusion e | cases e⟩
theorem zn_zb {B : Heap} {H : Hp} {cls : Value} {d : Option Addr} : ∀ o, L2N.Zn cls d o → Zb B H cls d o := fun _ z => ⟨z.zc, fun vs e => .inl (z.2.2 vs e)⟩
theorem sky_imp {B h : Heap} {l : List PySem.Env} {a L : Addr} {Z Z' : Obj → Prop} (z : ∀ o, Z o → Z' o) (x : Sky B l a Z L h) : Sky B l a Z' L h := by
  rcases x with ⟨h1, h2, h3, oe, vs, h4, h5, h6⟩ | x | ⟨h1, h2, h3, x⟩
  · exact .inl ⟨h1, h2, h3, oe, vs, h4, z _ h5, h6⟩
  · exact .inr (.inl (L2H.flyingZ_imp z x))
  · exact .inr (.inr ⟨h1, h2, h3, L2H.tracedZ_imp z x⟩)
def XE (X : Cx) (W : WX) (u : Value) (t : Shared) : Prop := ∃ (a : Addr) (B : Heap) (sI : Shared) (pins : List (Addr × Obj)) (σ : L2.St) (H : Hp) (cls : Value) (d : Option Addr),
  (u = .ref a ∧ Inv X pins σ H sI ∧ H a = none ∧ W cls d σ H) ∧ ((∀ b o, sI.heap.get? b = some o → b ∉ frs X.stack → B.get? b = some o) ∧ sI.heap.UpToSlots t.heap ∧ t.os = sI.os ∧ AllBare t.gens) ∧ Sky B X.stack a (Zb B H cls d) X.env.locals t.heap
def Takes (X : Cx) (W : WX) : Prop := ∀ u t, XE X W u t → X.xe u t
def CX (P : Program) (w : World) (outer : List PySem.Env) (H : Hp) (s : Shared) (E : XK) (u : Value) (t : Shared) : Prop := ∃ (a : Addr) (B : Heap) (H' : Hp) (cls : Value) (d : Option Addr),
  (u = .ref a ∧ H' a = none ∧ E cls d H') ∧ (HOk P w H' B ∧ UB (frs outer) H H' s.heap B t.heap ∧ t.os = s.os ∧ AllBare t.gens) ∧ HandSPX.FlyingZ B outer a (Zb B H' cls d) t.heap
section
variable {X : Cx} {W : WX} {pins : List (Addr × Obj)} {σ : L2.St} {H : Hp} {s t : Shared} {B : Heap} {E : XK} {u : Value}
theorem ofN : L2N.XE X W u t → XE X W u t := fun ⟨a, B, sI, pins, σ, H, cls, d, e, I, nb, up, sky, na, os, ag, w⟩ => ⟨a, B, sI, pins, σ, H, cls, d, ⟨e, I, na, w⟩, ⟨nb, up, os, ag⟩, sky_imp zn_zb sky⟩
theorem Takes.n (tk : Takes X W) : L2N.Takes X W := fun u t x => tk u t (ofN x)
theorem cxN {P : Program} {w : World} {outer : List PySem.Env} : L2N.CX P w outer H s E u t → CX P w outer H s E u t := fun ⟨a, B, H', cls, d, e, fl, hok, ub, na, os, ag, hE⟩ => ⟨a, B, H', cls, d, ⟨e, na, hE⟩, ⟨hok, ub, os, ag⟩, L2H.flyingZ_imp zn_zb fl⟩
theorem floor {H' : Hp} (I : Inv X pins σ H s) (st : B.StaysIn t.heap) (hok : HOk X.prog X.w H' B) (ub : UB (frs X.stack) H H' s.heap B t.heap) (ag : AllBare t.gens) :
    ∃ g : Heap, Inv X pins σ H' { s with heap := g, gens := t.gens, drawn := t.drawn, toks := t.toks } ∧ (∀ b o, g.get? b = some o → b ∉ frs X.stack → B.get? b = some o) ∧ g.UpToSlots t.heap := by
  obtain ⟨g, on, off⟩ := restrict t.heap fun b => (B.get? b).isSome || decide (b ∈ frs X.stack)
  have low : ∀ b o, B.get? b = some o → g.get? b = some o := fun b o e => (on b (by rw [e]; rfl)).trans (st b o e)
  have fr : ∀ b, b ∈ frs X.stack → g.get? b = t.heap.get? b := fun b hb => on b (by rw [decide_eq_true hb, Bool.or_true])
  have src : ∀ b o, g.get? b = some o → t.heap.get? b = some o ∧ ((∃ o', B.get? b = some o') ∨ b ∈ frs X.stack) := fun b o e => by
    by_cases h : ((B.get? b).isSome || decide (b ∈ frs X.stack)) = true
    · refine ⟨(on b h).symm.trans e, ?_⟩
      rcases Bool.or_eq_true _ _ ▸ h with h | h
      · exact .inl (Option.isSome_iff_exists.mp h)
      · exact .inr (of_decide_eq_true h)
    · rw [off b (Bool.eq_false_iff.mpr h)] at e
      cases e
  refine ⟨g, I.call (ch := []) ⟨fun b o e n hb _ => low b o (ub.keep b o e n hb), fun b o e n hb _ => ?_, fun b o e n _ => ub.free b o e n, fun b o e _ => ?_, ub.tups, ub.frzs, ub.tbls⟩ (hok.kept low) ag (fun _ z => nomatch z), fun b o e hb => ?_, Heap.UpToSlots.of_keeps fun b o e => (src b o e).1⟩
  · obtain ⟨sl, q⟩ := ub.slot b o e hb
    exact ⟨sl, (fr b hb).trans q⟩
  · by_cases hb : b ∈ frs X.stack
    · obtain ⟨sl, q⟩ := ub.slot b o e hb
      exact ⟨_, (fr b hb).trans q⟩
    · obtain ⟨o', q⟩ := ub.there b o e hb
      exact ⟨o', low b o' q⟩
  · obtain ⟨e', h⟩ := src b o e
    rcases h with ⟨o', q⟩ | h
    · rw [q]; exact (st b o' q).symm.trans e'
    · exact absurd h hb
theorem of_call (I : Inv X pins σ H s) (hW : ∀ cls d H', E cls d H' → W cls d σ H') (c : CX X.prog X.w X.stack H s E u t) : XE X W u t := by
  obtain ⟨a, B, H', cls, d, ⟨e, na, hE⟩, ⟨hok, ub, os, ag⟩, fl⟩ := c
  obtain ⟨g, J, nb, up⟩ := floor I fl.1 hok ub ag
  exact ⟨a, B, _, pins, σ, H', cls, d, ⟨e, J, na, hW _ _ _ hE⟩, ⟨nb, up, os, ag⟩, .inr (.inl fl)⟩
theorem passAt (tk : Takes X W) (σ : L2.St) : PassesAt (CX X.prog X.w) X σ (WE W σ) := fun _ _ _ e s' I c => tk e s' (of_call I (fun _ _ _ h => h) c)
theorem old_up (I : Inv X pins σ H s) {b : Addr} {o : Obj} (e : X.s_0.heap.get? b = some o) (hb : b ∉ X.fs) : b ∉ frs X.stack := fun hm => by
  rcases List.mem_cons.mp (I.stkSub b hm) with z | z
  · have h1 := Heap.lt_size e
    have h2 := I.ok.above
    rw [z] at h1
    exact absurd (Nat.lt_of_lt_of_le h1 h2) (Nat.lt_irrefl _)
  · exact hb z
theorem below {sI : Shared} (I : Inv X pins σ H sI) (hex : X.ex = []) (nb : ∀ b o, sI.heap.get? b = some o → b ∉ frs X.stack → B.get? b = some o) {h2 : Heap} (up : sI.heap.UpToSlots h2) : UB (frs X.outer) X.H_0 H X.s_0.heap B h2 := by
  have no : ∀ b, b ∉ X.ex := fun b => by rw [hex]; exact List.not_mem_nil
  refine ⟨fun b o e n hb => nb b o (I.base.keep b o e n hb (no b)) (old_up I e hb), fun b o e hb => ?_, fun b o e n => I.base.free b o e n (no b), fun b o e hb => ?_, I.base.tups, I.base.frzs, I.base.tbls⟩
  · obtain ⟨_, o₀, e₀, hnf⟩ := I.ok.funs.mem hb
    rw [e] at e₀
    cases e₀
    obtain ⟨s1, e1⟩ := I.base.slot b o e (I.ok.frf b hb) hb (no b)
    obtain ⟨s2, e2⟩ := up b _ e1 hnf
    exact ⟨s2, e2⟩
  · obtain ⟨o', e1⟩ := I.base.there b o e (no b)
    exact ⟨o', nb b o' e1 (old_up I e hb)⟩
theorem leave (hs : X.stack = X.env :: X.outer) (hf : X.env.frame = some X.env.locals) (hex : X.ex = []) {E₁ : Value → Shared → Prop} (hW : ∀ cls d σ H, W cls d σ H → E cls d H) (x : XE X W u t) :
    wpAny (model X.prog X.w) X.A (leaving X.env u) (fun _ t' => CX X.prog X.w X.outer X.H_0 X.s_0 E u t') E₁ t := by
  obtain ⟨a, B, sI, pins, σ, H, cls, d, ⟨rfl, I, na, w⟩, ⟨nb, up, os, ag⟩, sky⟩ := x
  have hfr : X.A.frames = some (X.env :: X.outer) := by rw [I.ok.frames, hs]
  have fin : ∀ h', HandSPX.FlyingZ B X.outer a (Zb B H cls d) h' → t.heap.UpToSlots h' → CX X.prog X.w X.outer X.H_0 X.s_0 E (.ref a) { t with heap := h' } := fun h' fl up' =>
    ⟨a, B, H, cls, d, ⟨rfl, na, hW _ _ _ _ w⟩, ⟨I.inGround nb, below I hex nb (up.trans up'), os.trans I.os, ag⟩, fl⟩
  rw [hs] at sky
  rcases sky with ⟨hB, hn, hl, oe, vs, he, hz, hd, h1⟩ | fl | held
  · exact PXN.leaving_firstZ Zb.steady hfr hl hf he hB hn hd h1 hz fin
  · exact PXN.leaves_onZ Zb.steady hfr hf fl fin
  · exact HandSPX.leaves_heldZ hf held fin
theorem takes_of (hs : X.stack = X.env :: X.outer) (hf : X.env.frame = some X.env.locals) (hex : X.ex = []) {E₁ : Value → Shared → Prop}
    (hx : X.xe = fun e s' => wpAny (model X.prog X.w) X.A (leaving X.env e) (fun _ s'' => CX X.prog X.w X.outer X.H_0 X.s_0 E e s'') E₁ s') : Takes X (fun cls d _ H => E cls d H) := fun u t x => by
  rw [hx]
  exact leave (W := fun cls d _ H => E cls d H) (E := E) hs hf hex (fun _ _ _ _ h => h) x
theorem land {M : Model} {A : Around} {E₁ : Value → Shared → Prop} {env : PySem.Env} {outer : List PySem.Env} {L a : Addr} {Z : Obj → Prop} {Q : Unit → Shared → Prop} (hZ : PXN.Steady1 Z) (hfr : A.frames = some (env :: outer)) (hf : env.frame = some L)
    (x : Sky B (env :: outer) a Z L s.heap) (hQ : ∀ h', HandSPX.FlyingZ B (env :: outer) a Z h' → s.heap.UpToSlots h' → Q () { s with heap := h' }) :
    wpAny M A (noteFrame (.ref a) env) (fun _ s₂ => wpAny M A (setFlight (.ref a) none) Q E₁ s₂) E₁ s := by
  have down : ∀ g, HandSPX.HeldZ B (env :: outer) a Z L g → s.heap.UpToSlots g → wpAny M A (setFlight (.ref a) none) Q E₁ { s with heap := g } := fun g hh up => HandSPX.landsZ hh fun h' fl up' => hQ h' fl (up.trans up')
  rcases x with ⟨hB, hn, hl, oe, vs, he, hz, hd, h1⟩ | fl | hh
  · exact PXN.look_newZ hZ hfr hl hf he hB hn hd h1 hz down
  · exact PXN.looks_onZ hZ hfr hf fl down
  · exact HandSPX.againZ hf hh.2.2.2 (down s.heap hh (Heap.UpToSlots.refl _))
theorem newH {a : Addr} {oe : Obj} {vs : Array Value} {cls : Value} {d : Option Addr} {p : Addr × Obj} {vp : Array Value} {sI : Shared} (I : Inv X pins σ H sI) (k : ∀ b o, sI.heap.get? b = some o → t.heap.get? b = some o) (hne : sI.heap.get? a = none) (he : t.heap.get? a = some oe)
    (hz : Zc cls d oe) (hd : oe.data = .fields vs) (h1 : vs[1]? = some .none) (hp : p ∈ X.pn ++ pins) (hs : X.stack = X.env :: X.outer) (hpd : p.2.data = .fields vp) (hp2 : vp[2]? = some .none) (h2 : vs[2]? = some (.ref p.1))
    (na : H a = none) (os : t.os = sI.os) (ag : AllBare t.gens) (w : W cls d σ H) : XE X W (.ref a) t := by
  obtain ⟨q1, q2, q3, q4, _⟩ := I.pin p hp
  have pf : p.1 ∉ frs X.stack := fun hm => (List.mem_cons.mp (I.stkSub p.1 hm)).elim q3 q4
  refine ⟨a, PySem.W.hideAll sI.heap (frs X.stack), sI, pins, σ, H, cls, d, ⟨rfl, I, na, w⟩, ⟨fun b o e hb => PySem.W.hideAll_get _ e hb, Heap.UpToSlots.of_keeps k, os, ag⟩, .inl ⟨fun b o e => k b o (PySem.W.of_hideAll _ e), ?_, ?_, oe, vs, he, ⟨hz, fun vs' e => ?_⟩, hd, h1⟩⟩
  · cases q : (PySem.W.hideAll sI.heap (frs X.stack)).get? a with
    | none => rfl
    | some o => exact absurd (PySem.W.of_hideAll _ q) (by rw [hne]; exact fun z => nomatch z)
  · exact Heap.FunFrames.of_keeps (fun b o e _ => ⟨o, k b o e, rfl⟩) (funFrames_none I.stack fun b hb => PySem.W.hideAll_none _ hb)
  · rw [hd] at e
    cases e
    exact .inr ⟨p.1, p.2, vp, h2, PySem.W.hideAll_get _ q1 pf, hpd, hp2, q2⟩
theorem ps_raiseH {e : Expr} {tm : L2.St → Hp → XK → Prop} {pos : Pos} (hc : L2H.HotC X) (hs : X.stack = X.env :: X.outer) (tk : Takes X W) (he : L2N.PMk X e tm) : PS X (.Raise (some e) none pos) (fun _ σ H => tm σ H fun cls d H' => W cls d σ H') := by
  refine ⟨fun pins s σ H D I h => ?_⟩
  obtain ⟨p, ⟨hh, v1, e1, c1⟩, hp⟩ := hc
  show wpAny _ _ (do standAt pos; raiseStmt X.env (some (do let v ← eval e X.env; standAt pos; pure v)) none) _ _ _
  refine wpAny_bind (wpAny_standAt (HotX.raise_made_hot (x1 := p.1) (wpAny_bind (thn (he pins s σ H _ I h) fun u s1 hu => wpAny_bind (wpAny_standAt (wpAny_pure ?_))))))
  obtain ⟨a, oe, vs, sI, H', cls, d, rfl, J, k, hne, ha, hz, hd, h1, na, os, ag, r, q⟩ := hu
  obtain ⟨r1, r2⟩ := r (model X.prog X.w) s1.heap (J.kIn.keeps k)
  have pat := (J.pin p (List.mem_append_left _ hp)).1
  have off : p.1 ≠ a := fun z => by rw [z, hne] at pat; cases pat
  have room : 2 < vs.size := (Array.getElem?_eq_some_iff.mp (hz.2.2 vs hd)).1
  have one : (vs.setIfInBounds 2 (Value.ref p.1))[1]? = some Value.none := by
    have : (vs.setIfInBounds 2 (Value.ref p.1))[1]? = vs[1]? := by
      first
      | exact Array.getElem?_setIfInBounds_ne (by decide)
      | simp [Array.getElem?_setIfInBounds]
    exact this.trans h1
  have two : (vs.setIfInBounds 2 (Value.ref p.1))[2]? = some (Value.ref p.1) := by simp [Array.getElem?_setIfInBounds, room]
  refine ⟨a, oe, vs, cls, rfl, ha, hz.1, hd, h1, room, off, ⟨hh, p.2, v1, k _ _ pat, e1, c1⟩, r1, r2, tk _ _ (newH J (fun b u z => ?_) hne (Heap.get?_update_self _ ha (Obj.isFreed_of_fields (Obj.data_mapFields hd _))) ⟨(Obj.cls_mapFields ..).trans hz.1, (HandSPX.dict_mapFields ..).trans hz.2.1⟩ (Obj.data_mapFields hd _) one (List.mem_append_left _ hp) hs e1 c1 two na os ag q)⟩
  have nab : a ≠ b := fun y => by rw [← y, hne] at z; cases z
  show (s1.heap.update a (Obj.mapFields (·.setIfInBounds 2 (.ref p.1)))).get? b = some u
  rw [Heap.get?_update_other _ _ nab]
  exact k b u z
end
end L2B
set_option maxHeartbeats 1000000
namespace PM
namespace E
open PySem PySem.Spec PyProof.Rows L2
section
theorem _root_.L2.Fun.okE {P : Program} {w : World} {K : PySem.W.Frag} {mg : Str → Option Value} {base : Heap} {x qual : Str} {st : Stmt} {f : Addr} {fd : FuncData} {N ps : List Str} {k : Nat} {sp : Sp} (F : Fun K x qual st f fd) (S : FnScope N ps (defScope st)) (len : ∀ vs H Q E, sp vs H Q E → vs.length = ps.length)
    (hbody : ∀ (cdv : Value) (A : Around) (outer : List PySem.Env) (s : Shared) (H : Hp) (vs : List V) (Q : VK) (E : XK), Room k (A.deeper (envOfC qual (defScope st) s.heap.objs.size f cdv)) → sp vs H Q E →
      ∃ t, PSs (cxOf (L2B.CX P w) P w K mg base N qual (defScope st) f cdv A outer s H E) (defBody st) t ∧ t { nx := fun _ H' => Q .non H', rt := Q } (L2.start N vs) H) : FnOk P w K mg base (L2B.CX P w) (k + 1) f fd ps sp := by
  obtain ⟨oc, od, kV, doc, pm, an, cdv, ct, osl, rfl, lk, hcd⟩ := F.ex
  exact fn_of lk hcd S len fun A outer s H vs Q E hr hsp => hbody cdv A outer s H vs Q E hr hsp
end
section
variable {P : Program} {w : World} {K : PySem.W.Frag} {mg : Str → Option Value} {base : Heap} {cl : ClsP}
theorem fn_ok {x qual : Str} {st : Stmt} {f : Addr} {fd : FuncData} {N ps : List Str} {lv k : Nat} {bm : List Bool} {body : Stm} (F : Fun K x qual st f fd) (Sc : FnScope N ps (defScope st)) (hbm : bm.length = ps.length) (hk : N.length = ps.length + k)
    (hbody : ∀ (cdv : Value) (A : Around) (outer : List PySem.Env) (s : Shared) (H : Hp) (E : XK), Room lv (A.deeper (envOfC qual (defScope st) s.heap.objs.size f cdv)) →
      L2B.Takes (cxOf (L2B.CX P w) P w K mg base N qual (defScope st) f cdv A outer s H E) (fun c d _ H => E c d H) →
      SSs (cxOf (L2B.CX P w) P w K mg base N qual (defScope st) f cdv A outer s H E) cl (fun c d _ H => E c d H) (defBody st) body) : FnOk P w K mg base (L2B.CX P w) (lv + 1) f fd ps (spOf K cl bm (mkFn bm k body)) := by
  refine F.okE Sc (fun vs H Q E ⟨G, S, ds, ok, so, p, q⟩ => (p.len.1).trans hbm) (fun cdv A outer s H vs Q E hr ⟨G, S, ds, ok, so, p, q⟩ => ?_)
  refine ⟨_, hbody cdv A outer s H E hr (L2B.takes_of rfl rfl rfl rfl), G, H, S, startE bm ds k, G, Rel.start ok so p (by rw [p.len.1, hbm, hk]; omega), ?_⟩
  unfold mkFn at q
  cases r : body (startE bm ds k) S with
  | nx ρ' S' => rw [r] at q; exact fun G' σ' H' R' z => q .non _ H' R'.leave.1 out_only R'.leave.2 .non
  | rt v S' => rw [r] at q; exact q
  | exc n ρ' S' => rw [r] at q; exact fun G' σ' H' R' z => q _ H' R'.leave.1 out_only R'.leave.2
  | bk ρ' S' => rw [r] at q; exact q.elim
  | ct ρ' S' => rw [r] at q; exact q.elim
  | stuck => rw [r] at q; exact q.elim
end
section
variable {X : Cx} {cl : ClsP} {W : WX} {e o : Expr} {es : List Expr} {pos : Pos} {k : Nat} {f : Addr} {fd : FuncData} {ps : List Str} {m : Fn} {bm : List Bool} {x : Str} {p : Pos} {ax : Ax}
theorem se_call (F : FnOk X.prog X.w X.K X.mg X.base (L2B.CX X.prog X.w) k f fd ps (spOf X.K cl bm m)) (hr : Room k X.A) (hg : Gl X x) (hm : X.mg x = some (.ref f)) (hk : PySem.W.keepIn X.K (.ref f) = true) (hb : Binds X.K fd ps []) (tk : L2B.Takes X W) (ha : SA X cl W bm (e :: es) ax)
    (hdb : (x == ("__debug__" : Str)) = false := by decide) (he : starEach (e :: es) X.env = (false, eval e X.env) :: starEach es X.env := by rfl) (hpl : (backTo pos (starEach es X.env)).any (·.1) = false := by rfl) : SE X cl W (.Call (.Name x p) (e :: es) [] pos) (eCall m ax) :=
  PE.weak (pe_callS F hr hg hm hk hb (L2B.passAt tk) ha hdb he hpl) fun σ H Q ⟨G0, H0, S, ρ, G, R, h⟩ => by
    refine tX.bind (Pa := PA1 X.K cl bm) pfM R h fun ds vs S1 G1 H1 R1 s1 p1 h1 => ?_
    exact ⟨G1.out, S1, ds, R1.leave.1, out_only, ArgsOk.out p1, call_semF R1 h1⟩
def MethOk (X : Cx) (m : Str) (C : Addr) (sp : Sp) : Prop := ∃ (g : Addr) (fd : FuncData) (j : Nat) (ps : List Str), Cls X.K C ∧ Meth X.K C m g ∧ FnOk X.prog X.w X.K X.mg X.base (L2B.CX X.prog X.w) j g fd ps sp ∧ Room j X.A ∧ Binds X.K fd ps []
def tMD (X : Cx) (m : Str) (W : WX) (ta : TE) (t : TA) : TE := fun σ H Q => ta σ H fun v H1 => ∃ (a C dx : Addr) (fs : List (Str × V)) (sp : Sp), v = .ref a ∧ H1 a = some (.ins C dx fs) ∧ fs.lookup m = none ∧ MethOk X m C sp ∧ t σ H1 fun vs H2 => sp (v :: vs) H2 Q (WE W σ)
theorem pe_md0 {mn : Str} {apos : Pos} {ta : TE} {pl : Sem Bool} (ho : PE X o ta) (tk : L2B.Takes X W)
    (ht : eval (.Call (.Attribute o mn apos) [] [] pos) X.env = (do
      let ov ← eval o X.env
      standAt apos.atName
      let (f, first) ← holding [ov] (getMethod ov mn pl)
      callWith pos f first (backTo pos (starEach [] X.env)) (backToKw pos (keywordEach [] X.env))) := by rfl) : PE X (.Call (.Attribute o mn apos) [] [] pos) (tMD X mn W ta tNil) :=
  ⟨fun pins s σ H Q I h => PySem.W.methodCall_KW (pl := pl) (thn (ho.run pins s σ H _ I h) fun u s1 ⟨v, H1, I1, rv, a, C, dx, fs, sp, ev, ea, l, ⟨g, fd, j, ps, c, hm, F, hr, hb⟩, q⟩ => by
    subst ev
    cases (show u = Value.ref a from rv)
    refine getmeth_ok I1 ea c hm l ?_
    exact PySem.W.callWith_K0 (first := [.ref a]) I1.kIn hm.kp (run_fnS (E := WE W) (us := [Value.ref a]) (vs := [V.ref a]) F hr hb (L2B.passAt tk σ) I1 (.cons rfl .nil) q)) ht⟩
def MtOk (X : Cx) (cl : ClsP) (mn : Str) (bm : List Bool) (mt : MTab) : Prop := ∀ c fn, mt c = some fn → MethOk X mn (cl c) (spOf X.K cl (true :: bm) fn)
theorem meth_sem {mn : Str} {mt : MTab} {co : Ex} {bm : List Bool} {P : Post D V} {fn : Res Val → Res D} (hP : PostM P) (hfin : ∀ {G0 : Gh} {H0 : Hp} {S : Store} {ρ : Env} {G : Gh} {σ : L2.St} {H : Hp} {r : Res Val} {Q : VK}, Rel X.K cl G0 H0 S ρ G σ H → Aft X.K cl P W G0 H0 ρ σ G H (fn r) Q → FnEnd X.K cl G.out H r Q (WE W σ)) (hmt : MtOk X cl mn bm mt)
    {σ : L2.St} {H : Hp} {Q : VK} (h : tX X.K cl P W (eMeth mn mt co ax fn) σ H Q) : tMD X mn W (tX X.K cl (PB X.K cl) W co) (tX X.K cl (PA1 X.K cl bm) W ax) σ H Q := by
  obtain ⟨G0, H0, S, ρ, G, R, h⟩ := h
  refine tX.bind hP R h fun d v S1 G1 H1 R1 s1 p1 h1 => ?_
  have go : ∀ (c : Nat) (fn1 : Fn), mt c = some fn1 → ((∃ fs, d = .obj c fs ∧ fs.lookup mn = none ∧ mt c = some fn1) ∨ ∃ n fs, d = .rf n ∧ S1[n]? = some (.obj c fs) ∧ fs.lookup mn = none ∧ mt c = some fn1) →
      Aft X.K cl P W G0 H0 ρ σ G1 H1 ((ax ρ S1).bind fun ds S => fn (fn1 (d :: ds) S)) Q → ∃ (a C dx : Addr) (fs : List (Str × V)) (sp : Sp), v = .ref a ∧ H1 a = some (.ins C dx fs) ∧ fs.lookup mn = none ∧ MethOk X mn C sp ∧ tX X.K cl (PA1 X.K cl bm) W ax σ H1 fun vs H2 => sp (v :: vs) H2 Q (WE W σ) := fun c fn1 hf hr h1 => by
    obtain ⟨a, dx, fs, rfl, h2, h3⟩ := recv R1 p1 hr
    refine ⟨a, cl c, dx, fs, _, rfl, h2, h3, hmt c fn1 hf, tX.bind (Pa := PA1 X.K cl bm) hP R1 h1 fun ds vs S2 G2 H2 R2 s2 p2 h4 => ?_⟩
    exact ⟨G2.out, S2, d :: ds, R2.leave.1, out_only, ArgsOk.out (.bo (RepT.stp p1 s2) p2), hfin R2 h4⟩
  cases d with
  | obj c fs =>
    simp only at h1
    cases q1 : fs.lookup mn with
    | some y => simp only [q1, Aft] at h1
    | none =>
      cases q2 : mt c with
      | none => simp only [q1, q2, Aft] at h1
      | some fn1 =>
        simp only [q1, q2] at h1
        exact go c fn1 q2 (.inl ⟨fs, rfl, q1, q2⟩) h1
  | rf n =>
    simp only at h1
    cases q0 : S1[n]? with
    | none => simp only [q0, Aft] at h1
    | some cell =>
      cases cell with
      | box _ => simp only [q0, Aft] at h1
      | obj c fs =>
        simp only [q0] at h1
        cases q1 : fs.lookup mn with
        | some y => simp only [q1, Aft] at h1
        | none =>
          cases q2 : mt c with
          | none => simp only [q1, q2, Aft] at h1
          | some fn1 =>
            simp only [q1, q2] at h1
            exact go c fn1 q2 (.inr ⟨n, fs, rfl, q0, q1, q2⟩) h1
  | _ => simp only [Aft] at h1
theorem tMD_nil {mn : Str} {ta : TE} {σ : L2.St} {H : Hp} {Q : VK} (mono : ∀ (M M' : V → Hp → Prop), (∀ v H, M v H → M' v H) → ta σ H M → ta σ H M') (h : tMD X mn W ta (tX X.K cl (PA1 X.K cl []) W aNil) σ H Q) : tMD X mn W ta tNil σ H Q :=
  mono _ _ (fun v H1 ⟨a, C, dx, fs, sp, e1, e2, e3, e4, q⟩ => ⟨a, C, dx, fs, sp, e1, e2, e3, e4, aNil_sem q⟩) h
theorem se_meth0 {mn : Str} {apos : Pos} {mt : MTab} {co : Ex} {pl : Sem Bool} (hmt : MtOk X cl mn [] mt) (ho : SB X cl W o co) (tk : L2B.Takes X W)
    (ht : eval (.Call (.Attribute o mn apos) [] [] pos) X.env = (do
      let ov ← eval o X.env
      standAt apos.atName
      let (f, first) ← holding [ov] (getMethod ov mn pl)
      callWith pos f first (backTo pos (starEach [] X.env)) (backToKw pos (keywordEach [] X.env))) := by rfl) : SE X cl W (.Call (.Attribute o mn apos) [] [] pos) (eMeth mn mt co aNil resF) :=
  PE.weak (pe_md0 (pl := pl) ho tk ht) fun σ H Q h => tMD_nil (fun _ _ k q => tX_mono k q) (meth_sem pfM call_semF hmt h)
end
theorem cx_end {P : Program} {w : World} {H : Hp} {s : Shared} {e : Value} {s' : Shared} (z : L2B.CX P w [] H s (fun _ _ _ => False) e s') : False := by
  obtain ⟨_, _, _, _, _, ⟨_, _, h⟩, _⟩ := z
  exact h
section
variable {X : Cx} {cl : ClsP} {W : WX} {e : Expr} {es : List Expr} {pos : Pos} {k : Nat} {f C : Addr} {fd : FuncData} {ps : List Str} {bm : List Bool} {x : Str} {p : Pos} {ax : Ax} {sp : Sp} {t : TA}
theorem run_makeS {pins : List (Addr × Obj)} {σ : L2.St} {H : Hp} {s : Shared} {Q : VK} {us : List Value} {vs : List V} (M : Mk X.K C f) (F : FnOk X.prog X.w X.K X.mg X.base (L2B.CX X.prog X.w) k f fd ps sp) (hr : Room (k + 1) X.A) (hb : Binds X.K fd ps [])
    (tk : L2B.Takes X W) (I : Inv X pins σ H s) (r : Vals vs us)
    (h : ∀ x dx, H x = none → H dx = none → dx ≠ x → sp (.ref x :: vs) (upd (upd H dx (.own x)) x (.ins C dx [])) (fun v H2 => v = .non ∧ Q (.ref x) H2) (WE W σ)) :
    wpAny (model X.prog X.w) X.A (call (.ref C) us) (EP X pins σ Q) X.xe s := by
  have hq := h (s.heap.objs.size + 1) s.heap.objs.size (I.hok.fresh (Nat.le_succ _)) (I.hok.fresh (Nat.le_refl _)) (Nat.ne_of_lt (Nat.lt_succ_self _))
  have I2 := Inv.made (C := C) I
  have r2 : Vals (V.ref (s.heap.objs.size + 1) :: vs) (Value.ref (s.heap.objs.size + 1) :: us) := .cons rfl r
  have hl : (Value.ref (s.heap.objs.size + 1) :: us).length = ps.length := by
    have e := r2.length
    rw [F.len _ _ _ _ hq] at e
    exact e.symm
  have hl2 : ((Value.ref (s.heap.objs.size + 1) :: us) ++ []).length = ps.length := by rw [List.append_nil]; exact hl
  have hb2 := hb _ (Value.ref (s.heap.objs.size + 1) :: us) I2.kIn hl2
  rw [List.append_nil] at hb2
  refine wpAny_call (make_map (f := f) I.kIn M.makes M.init (beq_iff_eq.mp M.fn) (codeAny_mono (F.run _ X.stack _ _ ⟨Value.ref (s.heap.objs.size + 1) :: us, []⟩ (Value.ref (s.heap.objs.size + 1) :: us) _ _ (WE W σ) (hr.make C us [])
    (I2.env0.make C us []) hb2 r2 hq) fun r s' hq' => ?_))
  cases r with
  | error e => exact L2B.passAt tk σ pins _ _ e s' I2 hq'
  | ok fl =>
    cases fl with
    | ret u =>
      obtain ⟨v, H', I3, rv, ev, q3⟩ := I2.after hq'
      subst ev
      exact ⟨rv, ⟨V.ref (s.heap.objs.size + 1), H', I3, rfl, q3⟩⟩
    | next => exact False.elim hq'
    | brk => exact False.elim hq'
    | cont => exact False.elim hq'
theorem pe_makeS (M : Mk X.K C f) (F : FnOk X.prog X.w X.K X.mg X.base (L2B.CX X.prog X.w) k f fd ps sp) (hr : Room (k + 1) X.A) (hg : Gl X x) (hm : X.mg x = some (.ref C)) (hb : Binds X.K fd ps []) (tk : L2B.Takes X W)
    (ha : PA X (e :: es) t) (hdb : (x == ("__debug__" : Str)) = false := by decide) (he : starEach (e :: es) X.env = (false, eval e X.env) :: starEach es X.env := by rfl) (hpl : (backTo pos (starEach es X.env)).any (·.1) = false := by rfl) :
    PE X (.Call (.Name x p) (e :: es) [] pos) (tMakeS C sp W t) := by
  refine ⟨fun pins s σ H Q I h => ?_⟩
  refine wpAny_Call_Name_kw (ld_glob I hg hm ?_ hdb)
  refine PySem.W.callWith_K (h₀ := X.base) I.ok.mod.kin M.kp (thn (ha.run pos pins s σ H _ I h) fun us s1 ⟨vs, H1, I1, r, q⟩ => ⟨I1.kIn, ?_⟩) he hpl
  exact run_makeS M F hr hb tk I1 r q
theorem sn_make {c : Nat} {m : Ini} (M : Mk X.K (cl c) f) (F : FnOk X.prog X.w X.K X.mg X.base (L2B.CX X.prog X.w) k f fd ps (spIni X.K cl c bm m)) (hr : Room (k + 1) X.A) (hg : Gl X x) (hm : X.mg x = some (.ref (cl c))) (hb : Binds X.K fd ps []) (tk : L2B.Takes X W) (ha : SA X cl W bm (e :: es) ax)
    (hdb : (x == ("__debug__" : Str)) = false := by decide) (he : starEach (e :: es) X.env = (false, eval e X.env) :: starEach es X.env := by rfl) (hpl : (backTo pos (starEach es X.env)).any (·.1) = false := by rfl) : SN X cl W (.Call (.Name x p) (e :: es) [] pos) (eMake (m c) ax) :=
  PE.weak (pe_makeS M F hr hg hm hb tk ha hdb he hpl) fun σ H Q ⟨G0, H0, S, ρ, G, R, h⟩ => by
    refine tX.bind (Pa := PA1 X.K cl bm) pnM R h fun ds vs S1 G1 H1 R1 s1 p1 h1 => ?_
    intro y dx hy hdx ne
    exact ⟨G1.out, S1, ds, y, dx, vs, H1, rfl, rfl, hy, hdx, ne, R1.leave.1, out_only, ArgsOk.out p1, make_sem R1 h1⟩
theorem ss_raise {n : Nat} {x m : Str} {j : Nat} {p p2 pos2 : Pos} (hc : X.calm = true) (tk : L2B.Takes X W) (ex : ExCls X.K (cl n)) (gC : X.mg x = some (.ref (cl n))) (hg : Gl X x) (hdb : (x == ("__debug__" : Str)) = false := by decide) : SS X cl W (.Raise (some (.Call (.Name x p) [.Constant (.str m) j p2] [] pos)) none pos2) (sRaise n) :=
  PS.weak (L2N.ps_raise hc tk.n (L2N.pmk_own PySem.F.excBase_ValueError ex.xi gC ex.kp (raises_own ex.sb ex.ty) hg hdb)) fun D σ H ⟨G0, H0, S, ρ, G, R, h⟩ => h G σ H R (Zle.refl _)
end
section
variable {X : Cx} {cl : ClsP} {W : WX} {e o a b : Expr} {es : List Expr} {c co ca cb : Ex} {ta tb : Tx} {pos : Pos} {fl : FTab}
variable {k : Nat} {f : Addr} {fd : FuncData} {ps : List Str} {bm : List Bool} {x : Str} {p : Pos} {ax : Ax}
end
section
variable {P : Program} {w : World} {K : PySem.W.Frag} {mg : Str → Option Value} {base : Heap} {k : Nat} {f : Addr} {fd : FuncData} {ps : List Str} {sp : Sp}
theorem up (F : FnOk P w K mg base (L2N.CX P w) k f fd ps sp) : FnOk P w K mg base (L2B.CX P w) k f fd ps sp :=
  ⟨F.len, fun A outer s H args us vs Q E hr he hb hv hs => codeAny_mono (F.run A outer s H args us vs Q E hr he hb hv hs) fun r s' x => by
    cases r with
    | ok fl => cases fl <;> exact x
    | error e => exact L2B.cxN x⟩
end
section
variable {X : Cx} {cl : ClsP} {mn : Str} {bm : List Bool} {mt : MTab}
theorem mt_up (h : PM.MtOk X cl mn bm mt) : MtOk X cl mn bm mt := fun c fn e => by
  obtain ⟨g, fd, j, ps, h1, h2, h3, h4⟩ := h c fn e
  exact ⟨g, fd, j, ps, h1, h2, up h3, h4⟩
end
end E
end PM
namespace PM
open PySem PySem.Spec PyProof.Rows L2
def wAsB (K : PySem.W.Frag) (c : Value) (i : Nat) (ts : Value → Addr → Option Addr → TS) (Wout : WX) (D : Ends) : WX := fun cls d σ H =>
  ∃ hit, PySem.W.exmOne K cls c = some hit ∧ (hit = true → d = none ∧ ∀ e cx, H e = none → i < σ.length → ts cls e cx { nx := fun σ' H' => D.nx (σ'.set i none) H', rt := D.rt, bk := fun σ' H' => D.bk (σ'.set i none) H', ct := fun σ' H' => D.ct (σ'.set i none) H' } (σ.set i (some (.ref e))) (upd H e (exnO cls e cx))) ∧
    (hit = false → Wout cls d σ H)
section
variable {X : Cx} {x n : Str} {c : Value} {i : Nat} {body suite : List Stmt} {first : Stmt} {np pos pos' : Pos} {tb : WX → TS} {ts : Value → Addr → Option Addr → TS} {Wout : WX}
theorem ps_tryB (hs : X.stack = X.env :: X.outer) (hf : X.env.frame = some X.env.locals) (hN : X.N.Nodup) (hi : X.N[i]? = some n) (hln : X.env.kindOf n = some .local) (hc : Names X x c) (tk : L2B.Takes X Wout) (hex : X.ex = [])
    (hb : ∀ (W : WX) (pn : List (Addr × Obj)) (xe : Value → Shared → Prop), L2B.Takes (X.tr pn xe) W → PassesOwn (model X.prog X.w) X.A X.env xe → PSs (X.tr pn xe) body (tb W))
    (hsu : ∀ (e : Addr) (cls : Value) (pn : List (Addr × Obj)) (cx : Option Addr), CtxPin pn cx → PSs (X.suite e pn) (first :: suite) (ts cls e cx)) :
    PS X (.Try body [.ExceptHandler (some (.Name x np)) (some n) (first :: suite) pos'] [] [] pos) (fun D σ H => tb (wAsB X.K c i ts Wout D) D σ H) := by
  refine ⟨fun pins s0 σ H D I want => ?_⟩
  have ok := I.ok
  have fr : X.A.frames = some (X.env :: X.outer) := by rw [ok.frames, hs]
  refine wpAny_Try_except (wpAny_mono ((hb (wAsB X.K c i ts Wout D) (X.pn ++ pins)
    (fun u t => wpAny (model X.prog X.w) X.A (noteFrame u X.env) (fun _ t2 => wpAny (model X.prog X.w) X.A (setFlight u none)
      (fun _ t3 => wpAny (model X.prog X.w) X.A (handleBy u X.env [.ExceptHandler (some (.Name x np)) (some n) (first :: suite) pos']) (SP X pins D) X.xe t3) X.xe t2) X.xe t)
    (fun u t caught => ?_) PassesOwn.looking).run [] s0 σ H D (I.toTry _) want) ?_ fun u t h => h)
  · obtain ⟨e, B, t0, pins', τ, G, cls, d, ⟨rfl, J', free, wish⟩, ⟨grd, upS, osq, bareq⟩, sky⟩ := caught
    have J : Inv X pins τ G t0 := J'.ofTry ok
    have sky1 : Sky B (X.env :: X.outer) e (L2B.Zb B G cls d) X.env.locals t.heap := by rw [← hs]; exact sky
    obtain ⟨hit, hm, yes, no⟩ := wish
    show wpAny _ X.A (noteFrame (.ref e) X.env) _ _ _
    refine L2B.land L2B.Zb.steady fr hf sky1 fun g3 air3 up3 => ?_
    have J3 : Inv X pins τ G { t with heap := g3 } := J.landed grd air3.1 (upS.trans up3) osq bareq
    obtain ⟨o3, v3, at3, z3, d3⟩ := air3.there
    have offFr : e ∉ frs (X.env :: X.outer) := fun hm => by
      obtain ⟨_, o', at', hnf⟩ := air3.2.2.1.mem hm
      rw [at3] at at'; cases at'
      exact hnf _ d3
    have notLoc : e ≠ X.env.locals := fun z => offFr (List.mem_filterMap.mpr ⟨X.env, List.mem_cons_self, by rw [hf, z]⟩)
    have notFs : e ∉ X.fs := fun hm => by
      obtain ⟨q, hq, z⟩ := List.mem_filterMap.mp hm
      exact offFr (List.mem_filterMap.mpr ⟨q, List.mem_cons_of_mem _ hq, z⟩)
    -- the exception is new
    have new : t0.heap.get? e = none := by
      cases q : t0.heap.get? e with
      | none => rfl
      | some o =>
        have z := grd e o q (by rw [hs]; exact offFr)
        rw [air3.2.1] at z; cases z
    have new0 : X.s_0.heap.get? e = none := by
      cases q : X.s_0.heap.get? e with
      | none => rfl
      | some o =>
        obtain ⟨o', z⟩ := J.base.there e o q (by rw [hex]; simp)
        rw [new] at z; cases z
    have offPins : ∀ p ∈ X.pn ++ pins, p.1 ≠ e := fun p hp z => by
      have q := (J.pin p hp).1
      rw [z, new] at q; cases q
    have S3 := J3.suite at3 d3 free notLoc notFs
    refine wpAny_handleBy_cons (codeAny_handlers_test ?_) (by intro q; cases q)
    have kindAt : PySem.W.Looks (model X.prog X.w) g3 (typeOf (.ref e)) cls := fun A Q E s k q => wpAny_typeOf_ref (k _ _ at3) (by rw [z3.1.1]; exact q)
    have asks := PySem.W.exm_one (M := model X.prog X.w) J3.kIn kindAt hm
    have named : ∀ {Q E : Value → Shared → Prop}, Q c { t with heap := g3 } → wpAny (model X.prog X.w) (X.A.mark (some (.ref e))) (eval (.Name x np) X.env) Q E { t with heap := g3 } := fun {Q E} q => by
      obtain ⟨hg, hdb, h | ⟨h, hv, hnn⟩⟩ := hc
      · exact ld_glob (X := X.suite e ((e, o3) :: (X.pn ++ pins))) S3 hg h q hdb
      · exact ld_blt (X := X.suite e ((e, o3) :: (X.pn ++ pins))) S3 hg h hv q hnn hdb
    refine named (asks.here ?_)
    cases hit with
    | false =>
      show wpAny _ X.A (handleBy (.ref e) X.env []) _ _ _
      refine wpAny_handleBy_nil ?_
      obtain ⟨_, _, _, o, _, T, _, _, hat, _, hdt, hfl, _⟩ := id air3
      unfold PySem.passOn
      refine wpAny_bind (wpAny_field hat hdt hfl ?_)
      rw [if_neg (show ¬ ((Value.ref T == Value.none) = true) by simp)]
      have go : wpAny (model X.prog X.w) X.A (setFlight (.ref e) X.env.frame) (fun _ t4 => wpAny (model X.prog X.w) X.A (throw (.ref e) : Sem Flow) (SP X pins D) X.xe t4) X.xe { t with heap := g3 } := by
        rw [hf]
        exact HandSPX.setFlight_upZ air3 fun g4 air4 up4 => wpAny_throw (tk _ _ ⟨e, B, t0, pins, τ, G, cls, d, ⟨rfl, J, free, no rfl⟩, ⟨grd, (upS.trans up3).trans up4, osq, bareq⟩, .inr (.inr (by rw [hs]; exact air4))⟩)
      first
        | exact wpAny_bind (wpAny_pure (wpAny_bind go))
        | exact wpAny_bind go
    | true =>
      obtain ⟨hdn, run⟩ := yes rfl
      subst hdn
      refine codeAny_handlers_suite_as (HandSPX.lands_againZ air3 fun g4 air4 up4 => ?_)
      have J4 : Inv X pins τ G { t with heap := g4 } := J.landed grd air4.1 ((upS.trans up3).trans up4) osq bareq
      obtain ⟨o4, v4, at4, z4, d4⟩ := air4.there
      obtain ⟨cx, more, hcx, hcp, hmore⟩ : ∃ (cx : Option Addr) (more : List (Addr × Obj)), v4[2]? = some (ctxV cx) ∧ CtxPin more cx ∧ ∀ p ∈ more, g4.get? p.1 = some p.2 ∧ G p.1 = none ∧ p.1 ≠ X.env.locals ∧ p.1 ∉ X.fs ∧ (∀ v, p.2.data ≠ .cell v) ∧ p.1 ≠ e := by
        rcases z4.2 v4 d4 with q | ⟨b, ob, vb, q1, q2, q3, q4, q5⟩
        · exact ⟨none, [], q, ctxPin_none, fun p hp => nomatch hp⟩
        · have at5 : g4.get? b = some ob := air4.1 b ob q2
          have offB : b ∉ frs (X.env :: X.outer) := fun hm => by
            obtain ⟨_, o', at', hnf⟩ := air4.2.2.1.mem hm
            rw [at5] at at'; cases at'
            exact hnf _ q3
          refine ⟨some b, [(b, ob)], q1, fun b' hb' => ?_, fun p hp => ?_⟩
          · cases hb'
            exact ⟨ob, vb, List.mem_cons_self, q3, q4⟩
          · rw [List.mem_singleton.mp hp]
            refine ⟨at5, q5, fun z => offB (List.mem_filterMap.mpr ⟨X.env, List.mem_cons_self, by rw [hf, ← show b = X.env.locals from z]⟩), fun hm => ?_, fun v z => ?_, fun z => ?_⟩
            · obtain ⟨r, hr, z⟩ := List.mem_filterMap.mp hm
              exact offB (List.mem_filterMap.mpr ⟨r, List.mem_cons_of_mem _ hr, z⟩)
            · have z' : ob.data = .cell v := z
              rw [q3] at z'
              cases z'
            · have z' : b = e := z
              rw [z', air4.2.1] at q2
              cases q2
      have J5 : Inv X (pins ++ more) τ G { t with heap := g4 } := J4.pins_of fun p hp => (List.mem_append.mp hp).elim (fun h => J4.pin p (List.mem_append_right _ h)) fun h => by
        obtain ⟨r1, r2, r3, r4, r5, _⟩ := hmore p h
        exact ⟨r1, r2, r3, r4, r5⟩
      have T4 := inv_track (pins := pins ++ more) J5 at4 z4.1 d4 hcx free new0 notLoc (fun p hp => (List.mem_append.mp hp).elim (fun h => offPins p (List.mem_append_left _ h)) fun h => (List.mem_append.mp h).elim (fun h => offPins p (List.mem_append_right _ h)) fun h => (hmore p h).2.2.2.2.2)
      have hcp2 : CtxPin (X.pn ++ (pins ++ more)) cx := fun b hb => by
        obtain ⟨ob, vb, q1, q2, q3⟩ := hcp b hb
        exact ⟨ob, vb, List.mem_append_right _ (List.mem_append_right _ q1), q2, q3⟩
      refine store_ok (X := X.suite e (X.pn ++ (pins ++ more))) (v := .ref e) T4 hN hi (.inl hln) rfl (fun t5 T5 => ?_) (.inr hln)
      refine wpAny_mono ((hsu e cls (X.pn ++ (pins ++ more)) cx hcp2).run [] t5 _ _ _ T5 (run e cx free (by rw [J.len]; exact (List.getElem?_eq_some_iff.mp hi).1))) (fun f t6 hsp => ?_) fun _ _ z => z.elim
      have close : ∀ {τ6 : L2.St} {G6 : Hp} {Q : Shared → Prop}, Inv (X.suite e (X.pn ++ (pins ++ more))) [] τ6 G6 t6 → (∀ t7, Inv X pins (τ6.set i none) G6 t7 → Q t7) →
          wpAny (model X.prog X.w) X.A (do bindName X.env n .none; unbindBehindTheSuite X.env n pos') (fun _ t7 => Q t7) X.xe t6 := fun {τ6 G6 Q} S6 hq => gone_ok (Inv.unpinned (inv_untrack (pins := pins ++ more) S6 ok)) hN hi hln hq
      cases f with
      | next =>
        obtain ⟨τ6, G6, S6, q6⟩ := hsp
        exact close S6 fun t7 J7 => ⟨_, _, J7, q6⟩
      | brk =>
        obtain ⟨τ6, G6, S6, q6⟩ := hsp
        exact close S6 fun t7 J7 => ⟨_, _, J7, q6⟩
      | cont =>
        obtain ⟨τ6, G6, S6, q6⟩ := hsp
        exact close S6 fun t7 J7 => ⟨_, _, J7, q6⟩
      | ret u =>
        obtain ⟨w6, τ6, G6, S6, r6, q6⟩ := hsp
        exact close S6 fun t7 J7 => ⟨_, _, _, J7, r6, q6⟩
  · intro f t hsp
    cases f with
    | next =>
      obtain ⟨τ, G, J', q⟩ := hsp
      exact wpAny_execs_nil ⟨τ, G, J'.ofTry ok, q⟩
    | brk =>
      obtain ⟨τ, G, J', q⟩ := hsp
      exact ⟨τ, G, J'.ofTry ok, q⟩
    | cont =>
      obtain ⟨τ, G, J', q⟩ := hsp
      exact ⟨τ, G, J'.ofTry ok, q⟩
    | ret u =>
      obtain ⟨w, τ, G, J', r, q⟩ := hsp
      exact ⟨w, τ, G, J'.ofTry ok, r, q⟩
end
section
variable {X : Cx} {x : Str} {c : Value} {body suite : List Stmt} {first : Stmt} {np pos pos' : Pos} {tb : WX → TS} {ts : Addr → Value → Option Addr → TS} {Wout : WX}
theorem ps_onlyB (hs : X.stack = X.env :: X.outer) (hf : X.env.frame = some X.env.locals) (hc : Names X x c) (hpa : ∀ hd : Option Value, PassesOwnAt (model X.prog X.w) (X.A.mark hd) X.A X.env X.xe) (tk : L2B.Takes X Wout)
    (hb : ∀ (W : WX) (pn : List (Addr × Obj)) (xe : Value → Shared → Prop), L2N.Takes (X.tr pn xe) W → PassesOwn (model X.prog X.w) X.A X.env xe → PSs (X.tr pn xe) body (tb W))
    (hsu : ∀ (e : Addr) (oe : Obj) (cls : Value) (d : Option Addr) (pn : List (Addr × Obj)), L2B.Takes (L2H.suiteX X e ((e, oe) :: pn)) Wout → L2H.HotC (L2H.suiteX X e ((e, oe) :: pn)) → PSs (L2H.suiteX X e ((e, oe) :: pn)) (first :: suite) (ts e cls d)) :
    PS X (.Try body [.ExceptHandler (some (.Name x np)) none (first :: suite) pos'] [] [] pos) (fun D σ H => tb (wOnly X.K c ts Wout D) D σ H) := by
  refine ⟨fun pins s0 σ H D I want => ?_⟩
  have ok := I.ok
  have fr : X.A.frames = some (X.env :: X.outer) := by rw [ok.frames, hs]
  refine wpAny_Try_except (wpAny_mono ((hb (wOnly X.K c ts Wout D) (X.pn ++ pins)
    (fun u t => wpAny (model X.prog X.w) X.A (noteFrame u X.env) (fun _ t2 => wpAny (model X.prog X.w) X.A (setFlight u none)
      (fun _ t3 => wpAny (model X.prog X.w) X.A (handleBy u X.env [.ExceptHandler (some (.Name x np)) none (first :: suite) pos']) (SP X pins D) X.xe t3) X.xe t2) X.xe t)
    (fun u t caught => ?_) PassesOwn.looking).run [] s0 σ H D (I.toTry _) want) ?_ fun u t h => h)
  · obtain ⟨e, B, t0, pins', τ, G, cls, d, rfl, J', grd, upS, sky, free, osq, bareq, wish⟩ := caught
    have J : Inv X pins τ G t0 := J'.ofTry ok
    have sky1 : Sky B (X.env :: X.outer) e (L2N.Zn cls d) X.env.locals t.heap := by rw [← hs]; exact sky
    obtain ⟨hit, hm, yes, no⟩ := wish
    show wpAny _ X.A (noteFrame (.ref e) X.env) _ _ _
    refine L2N.Sky.land L2N.Zn.steady fr hf sky1 fun g3 air3 up3 => ?_
    have J3 : Inv X pins τ G { t with heap := g3 } := J.landed grd air3.1 (upS.trans up3) osq bareq
    obtain ⟨o3, v3, at3, z3, d3⟩ := air3.there
    have offFr : e ∉ frs (X.env :: X.outer) := fun hm => by
      obtain ⟨_, o', at', hnf⟩ := air3.2.2.1.mem hm
      rw [at3] at at'; cases at'
      exact hnf _ d3
    have notLoc : e ≠ X.env.locals := fun z => offFr (List.mem_filterMap.mpr ⟨X.env, List.mem_cons_self, by rw [hf, z]⟩)
    have notFs : e ∉ X.fs := fun hm => by
      obtain ⟨q, hq, z⟩ := List.mem_filterMap.mp hm
      exact offFr (List.mem_filterMap.mpr ⟨q, List.mem_cons_of_mem _ hq, z⟩)
    have S3 := J3.suite at3 d3 free notLoc notFs
    refine wpAny_handleBy_cons (codeAny_handlers_test ?_) (by intro q; cases q)
    have kindAt : PySem.W.Looks (model X.prog X.w) g3 (typeOf (.ref e)) cls := fun A Q E s k q => wpAny_typeOf_ref (k _ _ at3) (by rw [z3.1]; exact q)
    have asks := PySem.W.exm_one (M := model X.prog X.w) J3.kIn kindAt hm
    have named : ∀ {Q E : Value → Shared → Prop}, Q c { t with heap := g3 } → wpAny (model X.prog X.w) (X.A.mark (some (.ref e))) (eval (.Name x np) X.env) Q E { t with heap := g3 } := fun {Q E} q => by
      obtain ⟨hg, hdb, h | ⟨h, hv, hnn⟩⟩ := hc
      · exact ld_glob (X := X.suite e ((e, o3) :: (X.pn ++ pins))) S3 hg h q hdb
      · exact ld_blt (X := X.suite e ((e, o3) :: (X.pn ++ pins))) S3 hg h hv q hnn hdb
    refine named (asks.here ?_)
    cases hit with
    | false =>
      show wpAny _ X.A (handleBy (.ref e) X.env []) _ _ _
      refine wpAny_handleBy_nil ?_
      obtain ⟨_, _, _, o, _, T, _, _, hat, _, hdt, hfl, _⟩ := id air3
      unfold PySem.passOn
      refine wpAny_bind (wpAny_field hat hdt hfl ?_)
      rw [if_neg (show ¬ ((Value.ref T == Value.none) = true) by simp)]
      have go : wpAny (model X.prog X.w) X.A (setFlight (.ref e) X.env.frame) (fun _ t4 => wpAny (model X.prog X.w) X.A (throw (.ref e) : Sem Flow) (SP X pins D) X.xe t4) X.xe { t with heap := g3 } := by
        rw [hf]
        exact HandSPX.setFlight_upZ air3 fun g4 air4 up4 => wpAny_throw (tk _ _ ⟨e, B, t0, pins, τ, G, cls, d, ⟨rfl, J, free, no rfl⟩, ⟨grd, (upS.trans up3).trans up4, osq, bareq⟩, L2B.sky_imp L2B.zn_zb (.inr (.inr (by rw [hs]; exact air4)))⟩)
      first
        | exact wpAny_bind (wpAny_pure (wpAny_bind go))
        | exact wpAny_bind go
    | true =>
      refine codeAny_handlers_suite (HandSPX.lands_againZ air3 fun g4 air4 up4 => ?_)
      have J4 : Inv X pins τ G { t with heap := g4 } := J.landed grd air4.1 ((upS.trans up3).trans up4) osq bareq
      obtain ⟨o4, v4, at4, z4, d4⟩ := air4.there
      have T4 := J4.suite at4 d4 free notLoc notFs
      have tkS : L2B.Takes (L2H.suiteX X e ((e, o4) :: (X.pn ++ pins))) Wout := fun u2 s2 ⟨a2, B2, sI2, pn2, σ2, H2, cls2, d2, ⟨e2, I2, na2, w2⟩, ⟨nb2, up2, os2, ag2⟩, sky2⟩ =>
        tk u2 s2 ⟨a2, B2, sI2, pins, σ2, H2, cls2, d2, ⟨e2, L2H.unsuiteX I2 ok, na2, w2⟩, ⟨nb2, up2, os2, ag2⟩, sky2⟩
      have hot : L2H.HotC (L2H.suiteX X e ((e, o4) :: (X.pn ++ pins))) := ⟨(e, o4), ⟨rfl, v4, d4, z4.2.2 v4 d4⟩, List.mem_cons_self⟩
      refine wpAny_mono ((hsu e o4 cls d (X.pn ++ pins) tkS hot).run [] _ _ _ _ (L2H.suiteX_of T4) (yes rfl e free)) (fun f t6 hsp => ?_) fun e6 s6 z => hpa (some (.ref e)) e6 s6 z
      cases f with
      | next =>
        obtain ⟨τ6, G6, S6, q6⟩ := hsp
        exact ⟨_, _, L2H.unsuiteX S6 ok, q6⟩
      | brk =>
        obtain ⟨τ6, G6, S6, q6⟩ := hsp
        exact ⟨_, _, L2H.unsuiteX S6 ok, q6⟩
      | cont =>
        obtain ⟨τ6, G6, S6, q6⟩ := hsp
        exact ⟨_, _, L2H.unsuiteX S6 ok, q6⟩
      | ret u =>
        obtain ⟨w6, τ6, G6, S6, r6, q6⟩ := hsp
        exact ⟨_, _, _, L2H.unsuiteX S6 ok, r6, q6⟩
  · intro f t hsp
    cases f with
    | next =>
      obtain ⟨τ, G, J', q⟩ := hsp
      exact wpAny_execs_nil ⟨τ, G, J'.ofTry ok, q⟩
    | brk =>
      obtain ⟨τ, G, J', q⟩ := hsp
      exact ⟨τ, G, J'.ofTry ok, q⟩
    | cont =>
      obtain ⟨τ, G, J', q⟩ := hsp
      exact ⟨τ, G, J'.ofTry ok, q⟩
    | ret u =>
      obtain ⟨w, τ, G, J', r, q⟩ := hsp
      exact ⟨w, τ, G, J'.ofTry ok, r, q⟩
end
end PM
namespace PM.E
open PySem PySem.Spec PyProof.Rows L2
section
variable {X : Cx} {cl : ClsP} {W : WX} {x : Str} {c : Value} {body suite : List Stmt} {first : Stmt} {np pos pos' : Pos} {s1 s2 : Stm} {hit : HTab}
theorem ss_raiseH {n : Nat} {x m : Str} {j : Nat} {p p2 pos2 : Pos} (hot : L2H.HotC X) (hs : X.stack = X.env :: X.outer) (tk : L2B.Takes X W) (ex : ExCls X.K (cl n)) (gC : X.mg x = some (.ref (cl n))) (hg : Gl X x) (hdb : (x == ("__debug__" : Str)) = false := by decide) : SS X cl W (.Raise (some (.Call (.Name x p) [.Constant (.str m) j p2] [] pos)) none pos2) (sRaise n) :=
  PS.weak (L2B.ps_raiseH hot hs tk (L2N.pmk_own PySem.F.excBase_ValueError ex.xi gC ex.kp (raises_own ex.sb ex.ty) hg hdb)) fun D σ H ⟨G0, H0, S, ρ, G, R, h⟩ => h G σ H R (Zle.refl _)
theorem ss_tryR (tk : L2B.Takes X W) (hc : Names X x c) (hh : HitOk X.K cl hit c) (hpa : ∀ hd : Option Value, PassesOwnAt (model X.prog X.w) (X.A.mark hd) X.A X.env X.xe)
    (hsu : ∀ (a : Addr) (oe : Obj) (pn : List (Addr × Obj)), L2B.Takes (L2H.suiteX X a ((a, oe) :: pn)) W → L2H.HotC (L2H.suiteX X a ((a, oe) :: pn)) → SSs (L2H.suiteX X a ((a, oe) :: pn)) cl W (first :: suite) s2)
    (hb : ∀ (W : WX) (pn : List (Addr × Obj)) (xe : Value → Shared → Prop), L2N.Takes (X.tr pn xe) W → PassesOwn (model X.prog X.w) X.A X.env xe → SSs (X.tr pn xe) cl W body s1)
    (hs : X.stack = X.env :: X.outer := by rfl) (hf : X.env.frame = some X.env.locals := by rfl) :
    SS X cl W (.Try body [.ExceptHandler (some (.Name x np)) none (first :: suite) pos'] [] [] pos) (sTryR hit s2 s1) :=
  PS.weak (ps_onlyB (tb := fun W' => tS X.K cl W' s1) (ts := fun _ _ _ => tS X.K cl W s2) hs hf hc hpa tk (fun W' pn xe t p => hb W' pn xe t p) fun a oe cls d pn t hot => hsu a oe pn t hot) fun D σ H ⟨G0, H0, S, ρ, G, R, h⟩ => by
    refine ⟨G0, H0, S, ρ, G, R, ?_⟩
    unfold sTryR at h
    cases q : s1 ρ S with
    | nx ρ' S' => rw [q] at h; exact h
    | rt v S' => rw [q] at h; exact h
    | bk ρ' S' => rw [q] at h; exact h
    | ct ρ' S' => rw [q] at h; exact h
    | stuck => rw [q] at h; exact h.elim
    | exc m ρ' S' =>
      simp only [q] at h
      intro G' σ' H' R' z
      cases e : hit m with
      | none => simp only [e, AftS] at h
      | some b =>
        refine ⟨b, hh m b e, fun hb' a ha => ?_, fun hb' => ?_⟩
        · subst hb'
          simp only [e] at h
          refine ⟨G0, H0, S', ρ', G', R', ?_⟩
          cases q2 : s2 ρ' S' with
          | nx r s => simp only [q2] at h; exact fun G3 σ3 H3 R3 z3 => h G3 _ H3 R3 (z.trans z3)
          | bk r s => simp only [q2] at h; exact fun G3 σ3 H3 R3 z3 => h G3 _ H3 R3 (z.trans z3)
          | ct r s => simp only [q2] at h; exact fun G3 σ3 H3 R3 z3 => h G3 _ H3 R3 (z.trans z3)
          | rt v s => simp only [q2] at h; exact h
          | exc k r s => simp only [q2] at h; exact fun G3 σ3 H3 R3 z3 => h G3 _ H3 R3 (z.trans z3)
          | stuck => simp only [q2, AftS] at h
        · subst hb'
          simp only [e] at h
          exact h G' σ' H' R' z
end
section
variable {X : Cx} {cl : ClsP} {W : WX} {x n : Str} {c : Value} {i : Nat} {body suite : List Stmt} {first : Stmt} {np pos pos' : Pos} {s1 s2 : Stm} {hit : HTab}
theorem ss_tryTK (hN : X.N.Nodup) (hi : X.N[i]? = some n) (hln : X.env.kindOf n = some .local) (hc : Names X x c) (tk : L2B.Takes X W) (hh : HitOk X.K cl hit c)
    (hb : ∀ (W : WX) (pn : List (Addr × Obj)) (xe : Value → Shared → Prop), L2B.Takes (X.tr pn xe) W → PassesOwn (model X.prog X.w) X.A X.env xe → SSs (X.tr pn xe) cl W body s1)
    (hsu : ∀ (e : Addr) (pn : List (Addr × Obj)) (cx : Option Addr), CtxPin pn cx → PSs (X.suite e pn) (first :: suite) (fun D σ H => (σ[i]? = some (some (.ref e)) ∧ ∃ kind, H e = some (exnO kind e cx)) ∧ tS X.K cl W0 s2 D σ H))
    (hs : X.stack = X.env :: X.outer := by rfl) (hf : X.env.frame = some X.env.locals := by rfl) (hex : X.ex = [] := by rfl) :
    SS X cl W (.Try body [.ExceptHandler (some (.Name x np)) (some n) (first :: suite) pos'] [] [] pos) (sTryT i hit s1 s2) :=
  PS.weak (ps_tryB (tb := fun W' => tS X.K cl W' s1) (ts := fun _ e cx => fun D σ H => (σ[i]? = some (some (.ref e)) ∧ ∃ kind, H e = some (exnO kind e cx)) ∧ tS X.K cl W0 s2 D σ H) hs hf hN hi hln hc tk hex (fun W' pn xe t p => hb W' pn xe t p) fun e _ pn cx hcx => hsu e pn cx hcx) fun D σ H ⟨G0, H0, S, ρ, G, R, h⟩ => by
    refine ⟨G0, H0, S, ρ, G, R, ?_⟩
    unfold sTryT at h
    cases q : s1 ρ S with
    | nx ρ' S' => rw [q] at h; exact h
    | rt v S' => rw [q] at h; exact h
    | bk ρ' S' => rw [q] at h; exact h
    | ct ρ' S' => rw [q] at h; exact h
    | stuck => rw [q] at h; exact h.elim
    | exc m ρ' S' =>
      simp only [q] at h
      intro G' σ' H' R' z
      cases e : hit m with
      | none => simp only [e, AftS] at h
      | some b =>
        refine ⟨b, hh m b e, fun hb' => ⟨rfl, fun p cx hp hl => ?_⟩, fun hb' => ?_⟩
        · subst hb'
          simp only [e] at h
          obtain ⟨R1, st1, hz1⟩ := R'.newF hp (exnO (.ref (cl m)) p cx)
          have R2 := R1.setF i (v := .ref p) (d := .exn m) (.exn hz1)
          refine ⟨⟨List.getElem?_set_self hl, _, upd_same⟩, G0, H0, S', _, _, R2, ?_⟩
          have zz : Zle G _ := z.trans st1.zle
          cases q2 : s2 (ρ'.set i (.fr (.exn m))) S' with
          | nx r s => simp only [q2] at h; exact fun G3 σ3 H3 R3 z3 => h G3 _ H3 (R3.setU i none) (zz.trans z3)
          | bk r s => simp only [q2] at h; exact fun G3 σ3 H3 R3 z3 => h G3 _ H3 (R3.setU i none) (zz.trans z3)
          | ct r s => simp only [q2] at h; exact fun G3 σ3 H3 R3 z3 => h G3 _ H3 (R3.setU i none) (zz.trans z3)
          | rt v s => simp only [q2] at h; exact h
          | exc _ _ _ => simp only [q2, AftS] at h
          | stuck => simp only [q2, AftS] at h
        · subst hb'
          simp only [e] at h
          exact h G' σ' H' R' z
end
end PM.E
namespace PM.E
open PySem PySem.Spec PyProof.Rows L2
theorem takes0 {X : Cx} : L2B.Takes X (fun _ _ _ _ => False) := fun _ _ ⟨_, _, _, _, _, _, _, _, ⟨_, _, _, z⟩, _, _⟩ => z.elim
end PM.E
set_option maxHeartbeats 1000000
namespace PM
open PySem PySem.Spec PyProof.Rows L2

inductive Nth : Env → Nat → Slot → Prop
  | z {s : Slot} {l : Env} : Nth (s :: l) 0 s
  | s {a s : Slot} {l : Env} {n : Nat} : Nth l n s → Nth (a :: l) (n + 1) s
inductive SetR : Env → Nat → Slot → Env → Prop
  | z {a s : Slot} {l : Env} : SetR (a :: l) 0 s (s :: l)
  | s {a s : Slot} {l l' : Env} {n : Nat} : SetR l n s l' → SetR (a :: l) (n + 1) s (a :: l')
theorem Nth.eq {l : Env} {n : Nat} {s : Slot} (h : Nth l n s) : l[n]? = some s := by
  induction h with
  | z => rfl
  | s _ ih => simpa using ih
theorem SetR.eq {l l' : Env} {n : Nat} {s : Slot} (h : SetR l n s l') : l.set n s = l' := by
  induction h with
  | z => rfl
  | s _ ih => simp [ih]

section
variable {ρ ρ' : Env} {S S1 S2 S3 : Store} {c ca cb cc : Ex} {d e u z : D} {i n : Nat} {ta tb : Tx} {k p q : Bool} {ax : Ax} {ds : List D} {r : Res D}

section
variable {rb : Res Bool}
end
variable {Q : SR → Prop} {a b : Stm} {tg : Tgt}
structure Run (c : Stm) (ρ : Env) (S : Store) (Q : SR → Prop) : Prop where
  run : Q (c ρ S)
end
end PM
namespace PM
open PySem PySem.Spec PyProof.Rows L2
section
variable {ρ ρ' : Env} {S S1 : Store} {Q : SR → Prop} {a : Stm} {tg : Tgt} {i : Nat} {d : D} {v : Val}
section
variable {P : Env → Store → Prop}
end
theorem tg_N (h : SetR ρ i (.fr d) ρ') : gN i d ρ = some ρ' := by rw [← h.eq]; rfl
end
end PM
namespace PM
end PM
namespace PM
open PySem PySem.Spec PyProof.Rows L2
inductive UnR : Nat → Env → Prop
  | z : UnR 0 []
  | s {k : Nat} {l : Env} : UnR k l → UnR (k + 1) (.un :: l)
inductive StartR : List Bool → List D → Nat → Env → Prop
  | n {k : Nat} {l : Env} : UnR k l → StartR [] [] k l
  | t {bm : List Bool} {d : D} {ds : List D} {k : Nat} {l : Env} : StartR bm ds k l → StartR (true :: bm) (d :: ds) k (.bo d :: l)
  | f {bm : List Bool} {d : D} {ds : List D} {k : Nat} {l : Env} : StartR bm ds k l → StartR (false :: bm) (d :: ds) k (.fr d :: l)
theorem UnR.eq {k : Nat} {l : Env} (h : UnR k l) : List.replicate k .un = l := by
  induction h with
  | z => rfl
  | s _ ih => rw [List.replicate_succ, ih]
theorem StartR.eq {bm : List Bool} {ds : List D} {k : Nat} {l : Env} (h : StartR bm ds k l) : startE bm ds k = l := by
  unfold startE
  induction h with
  | n h => simpa [parE] using h.eq
  | t _ ih => simp [parE, ih]
  | f _ ih => simp [parE, ih]
end PM
namespace PM
open PySem PySem.Spec PyProof.Rows L2
end PM
namespace PM
open PySem PySem.Spec PyProof.Rows L2
end PM
namespace PM
open PySem PySem.Spec PyProof.Rows L2
end PM
set_option maxHeartbeats 1000000
namespace PM
open PySem PySem.Spec PyProof.Rows L2
section
variable {i j : Int} {x y : Str} {xs ys : List D} {d e : D}
theorem dv_addS (h : x.length + y.length ≤ 1000000) : oAdd (.str x) (.str y) = some (.str (x ++ y)) := by simp [oAdd, h]
theorem dv_mulL (h : -(2 ^ 64) < i ∧ i < 2 ^ 64) : oMulI (.int i) (.int j) = some (.int (i * j)) := by simp only [oI, cMul, decide_eq_true (Or.inl h), if_true]
theorem dv_div (h : 0 < j ∧ j < 1073741824) : oDiv (.int i) (.int j) = some (.int (i / j)) := by simp only [oI, cDiv, decide_eq_true h, if_true]
theorem dv_mod (h : 0 < j) : oMod (.int i) (.int j) = some (.int (i % j)) := by simp only [oI, cMod, decide_eq_true h, if_true]
theorem D.eq_self {p : PyData} (h : d.py = some p) (hd : p.depth ≤ 60) : D.eq? d d = some true := by
  simp only [D.eq?, h, Nat.min_self, hd, if_true, SeqAt.eqv_refl_plain p (D.py_plain d p h)]
theorem dv_ixL {n : Nat} (h : xs[n]? = some d) (hn : i = (n : Int)) : oIx (.lst xs) (.int i) = some d := by
  subst hn
  exact atI_of (j := n) (by simp [ixN]; exact (List.getElem?_eq_some_iff.mp h).1) h
end
end PM
namespace PM
open PySem PySem.Spec PyProof.Rows L2
def S1 (c : Nat) : Str := ⟨#[c]⟩
@[simp] theorem S1_len (c : Nat) : (S1 c).length = 1 := rfl
@[simp] theorem len_add (x y : Str) : (x ++ y).length = x.length + y.length := by
  show (x.cps ++ y.cps).size = _; rw [Array.size_append]; rfl
theorem lit_len (s : String) : (Str.ofString s).length = s.toList.length := by
  rw [Str.ofString_eq_toList]; simp [Str.length]
def Sl (x : Str) : List Nat := x.cps.toList
theorem Sl_len (x : Str) : (Sl x).length = x.length := by simp [Sl, Str.length]
theorem Sl_add (x y : Str) : Sl (x ++ y) = Sl x ++ Sl y := by
  show (x.cps ++ y.cps).toList = _; simp [Sl]
theorem Sl_one (c : Nat) : Sl (S1 c) = [c] := rfl
theorem Sl_inj {x y : Str} (h : Sl x = Sl y) : x = y := by
  cases x; cases y; simp only [Sl] at h; congr 1; exact Array.toList_inj.mp h
def mkS (l : List Nat) : Str := ⟨l.toArray⟩
@[simp] theorem Sl_mk (l : List Nat) : Sl (mkS l) = l := rfl
@[simp] theorem mk_Sl (x : Str) : mkS (Sl x) = x := rfl
@[simp] theorem mk_len (l : List Nat) : (mkS l).length = l.length := by simp [mkS, Str.length]
section
variable {i j : Int} {x y : Str} {xs ys : List D} {d e : D}
theorem ixN_of {n k : Nat} (hn : i = (k : Int)) (h : k < n) : ixN n i = some k := by
  subst hn; simp [ixN, h]
theorem dv_cutS (h : x.length ≤ 1000000) {lo hi : Option Int} : oCut (.str x) lo hi = some (.str (cutS x lo hi)) := by simp [oCut, h]
theorem fn_lenS (h : x.length ≤ 1000000) : fLen [.str x] = some (.int x.length) := by simp [fLen, h]
theorem dv_inS {c : Nat} : oIn (.str (S1 c)) (.str x) = some (.bl (decide (c ∈ Sl x))) := by
  simp [oIn, D.in?, S1, Sl]
theorem dv_ninS {c : Nat} : oNin (.str (S1 c)) (.str x) = some (.bl (!decide (c ∈ Sl x))) := by
  simp [oNin, D.in?, S1, Sl]
end
end PM
namespace PM
open PySem PySem.Spec PyProof.Rows L2
section
variable {i j : Int} {x y : Str} {xs ys : List D} {d e : D}
end
end PM
set_option maxHeartbeats 1000000
namespace PM
open PySem PySem.Spec PyProof.Rows L2
section
variable {ρ ρ' : Env} {S S1 S2 S3 : Store} {c ca cb cc : Ex} {d e u z : D} {i n k : Nat} {ax : Ax} {ds : List D} {Q : SR → Prop} {fl : FTab} {f : Str} {fs fs' : List (Str × D)}
theorem lk0 {l : List (Str × D)} : List.lookup f ((f, d) :: l) = some d := by simp
theorem lk1 {g : Str} {l : List (Str × D)} (h : (f == g) = false) (t : l.lookup f = some d) : List.lookup f ((g, e) :: l) = some d := by rw [List.lookup_cons, h]; exact t
theorem lkn {g : Str} {l : List (Str × D)} (h : (f == g) = false) (t : l.lookup f = none) : List.lookup f ((g, e) :: l) = none := by rw [List.lookup_cons, h]; exact t
theorem lkn0 : List.lookup f ([] : List (Str × D)) = none := rfl
theorem pD0 : pD f d [] = [(f, d)] := rfl
theorem pDh {l : List (Str × D)} : pD f d ((f, e) :: l) = (f, d) :: l := by simp [pD]
theorem pDt {g : Str} {l l' : List (Str × D)} (h : (g == f) = false) (t : pD f d l = l') : pD f d ((g, e) :: l) = (g, e) :: l' := by
  have h : ¬ g = f := by simpa using h
  simp [pD, h, t]
inductive WipeR : Env → List Nat → Env → Prop
  | nil {l : Env} : WipeR l [] l
  | cons {l l1 l2 : Env} {v : Nat} {vs : List Nat} : WipeR l vs l1 → SetR l1 v .un l2 → WipeR l (v :: vs) l2
theorem WipeR.eq {l l' : Env} {vs : List Nat} (h : WipeR l vs l') : wipeE l vs = l' := by
  induction h with
  | nil => rfl
  | cons h1 h2 ih => unfold wipeE; rw [ih, h2.eq]
end
theorem oIx_map {α : Type} (g : α → D) {xs : List α} {x : α} {j : Nat} {i : Int} (h : xs[j]? = some x) (hi : i = (j : Int)) : oIx (.lst (xs.map g)) (.int i) = some (g x) := by
  refine dv_ixL (n := j) ?_ hi
  rw [List.getElem?_map, h, Option.map_some]
inductive Pl : Nat → D → Prop
  | non (n : Nat) : Pl n .non
  | bl (n : Nat) (b : Bool) : Pl n (.bl b)
  | int (n : Nat) (b : Int) : Pl n (.int b)
  | str (n : Nat) (b : Str) : Pl n (.str b)
  | lst {n : Nat} {xs : List D} : (∀ x ∈ xs, Pl n x) → Pl (n + 1) (.lst xs)
  | tup {n : Nat} {xs : List D} : (∀ x ∈ xs, Pl n x) → Pl (n + 1) (.tup xs)
theorem pys_of {n : Nat} : ∀ {xs : List D}, (∀ x ∈ xs, ∃ p, x.py = some p ∧ p.depth ≤ n) → ∃ ps, D.pys xs = some ps ∧ PyData.depthAll ps ≤ n
  | [], _ => ⟨[], rfl, by simp [PyData.depthAll]⟩
  | x :: xs, h => by
    obtain ⟨p, h1, h2⟩ := h x (by simp)
    obtain ⟨ps, h3, h4⟩ := pys_of (xs := xs) fun y hy => h y (by simp [hy])
    exact ⟨p :: ps, by simp only [D.pys, h1, h3], by simp only [PyData.depthAll]; omega⟩
theorem Pl.py {n : Nat} {d : D} (h : Pl n d) : ∃ p, d.py = some p ∧ p.depth ≤ n := by
  induction h with
  | non n => exact ⟨_, rfl, Nat.zero_le _⟩
  | bl n b => exact ⟨_, rfl, Nat.zero_le _⟩
  | int n b => exact ⟨_, rfl, Nat.zero_le _⟩
  | str n b => exact ⟨_, rfl, Nat.zero_le _⟩
  | lst h ih =>
    obtain ⟨ps, h1, h2⟩ := pys_of ih
    exact ⟨.list ps, by simp only [D.py, h1, Option.map_some], by simp only [PyData.depth]; omega⟩
  | tup h ih =>
    obtain ⟨ps, h1, h2⟩ := pys_of ih
    exact ⟨.tuple ps, by simp only [D.py, h1, Option.map_some], by simp only [PyData.depth]; omega⟩
end PM
namespace PM
open PySem PySem.Spec PyProof.Rows L2
def E0 : Str := ⟨#[]⟩
theorem dv_ixN {α : Type} (g : α → D) {xs : List α} {p : Nat} {i : Int} (e0 : α) (h : p < xs.length) (hi : i = (p : Int)) : oIx (.lst (xs.map g)) (.int i) = some (g (xs.getD p e0)) :=
  oIx_map g (by rw [List.getD_eq_getElem?_getD, List.getElem?_eq_getElem h]; rfl) hi
end PM
namespace PM
section
variable {α : Type} {xs : List α} {g : α → D} {a b c : D}
end
end PM
set_option maxHeartbeats 1000000
namespace PM
open PySem PySem.Spec PyProof.Rows L2

abbrev M (α : Type) := Store → Res α
namespace M
variable {α β γ : Type}
def pure (a : α) : M α := fun S => .ok a S
def bind (m : M α) (f : α → M β) : M β := fun S => (m S).bind f
def opt (o : Option α) : M α := fun S => match o with
  | some a => .ok a S
  | none => .stuck
def exc (n : Nat) : M α := fun S => .exc n S
def stuck : M α := fun _ => .stuck
theorem pure_bind (a : α) (f : α → M β) : M.bind (M.pure a) f = f a := id rfl
theorem exc_bind (n : Nat) (f : α → M β) : M.bind (M.exc n) f = M.exc n := id rfl
theorem bind_assoc (m : M α) (f : α → M β) (g : β → M γ) : M.bind (M.bind m f) g = M.bind m fun a => M.bind (f a) g := by
  funext S; unfold M.bind Res.bind; cases m S <;> rfl
theorem opt_some (a : α) : M.opt (some a) = M.pure a := id rfl
def map (f : α → β) (m : M α) : M β := M.bind m fun a => M.pure (f a)
def noexc (m : M α) : M α := fun S => match m S with
  | .ok a S' => .ok a S'
  | _ => .stuck
theorem noexc_pure (a : α) : M.noexc (M.pure a) = M.pure a := id rfl
end M

inductive O (σ τ β : Type) where
  | nx (s : σ) | bk (t : τ) | ct (t : τ) | rt (b : β)
section
variable {α β γ σ σ' τ τ' : Type}
def bindO (m : M (O σ τ β)) (k : σ → M (O σ' τ β)) : M (O σ' τ β) := M.bind m fun o => match o with
  | .nx s => k s
  | .bk t => M.pure (.bk t)
  | .ct t => M.pure (.ct t)
  | .rt b => M.pure (.rt b)
def runO (d : Option β) (m : M (O Unit Unit β)) : M β := M.bind m fun o => match o with
  | .nx _ => M.opt d
  | .rt b => M.pure b
  | _ => M.stuck
def forO (f : α → τ → M (O τ τ β)) : List α → τ → M (O τ τ' β)
  | [], s => M.pure (.nx s)
  | x :: xs, s => M.bind (f x s) fun o => match o with
    | .nx s' => forO f xs s'
    | .ct s' => forO f xs s'
    | .bk s' => M.pure (.nx s')
    | .rt b => M.pure (.rt b)
def lcO (t : α → M Bool) (e : α → M β) : List α → List β → M (List β)
  | [], acc => M.pure acc
  | x :: xs, acc => M.bind (M.noexc (t x)) fun k => if k = true then (M.bind (M.noexc (e x)) fun y => if acc.length < 1000000 then lcO t e xs (acc ++ [y]) else M.stuck) else lcO t e xs acc
theorem bindO_nx (s : σ) (k : σ → M (O σ' τ β)) : bindO (M.pure (.nx s)) k = k s := id rfl
theorem bindO_rt (b : β) (k : σ → M (O σ' τ β)) : bindO (M.pure (.rt b)) k = M.pure (.rt b) := id rfl
theorem bindO_bk (b : τ) (k : σ → M (O σ' τ β)) : bindO (M.pure (.bk b)) k = M.pure (.bk b) := id rfl
theorem bindO_ct (b : τ) (k : σ → M (O σ' τ β)) : bindO (M.pure (.ct b)) k = M.pure (.ct b) := id rfl
theorem bindO_exc (n : Nat) (k : σ → M (O σ' τ β)) : bindO (M.exc n) k = M.exc n := id rfl
theorem bindO_bind (m : M α) (f : α → M (O σ τ β)) (k : σ → M (O σ' τ β)) : bindO (M.bind m f) k = M.bind m fun a => bindO (f a) k := id (M.bind_assoc m f _)
theorem runO_nx (d : Option β) (s : Unit) : runO d (M.pure (.nx s)) = M.opt d := id rfl
theorem runO_rt (d : Option β) (b : β) : runO d (M.pure (.rt b)) = M.pure b := id rfl
theorem runO_exc (d : Option β) (n : Nat) : runO d (M.exc n) = M.exc n := id rfl
theorem runO_bind (d : Option β) (m : M α) (f : α → M (O Unit Unit β)) : runO d (M.bind m f) = M.bind m fun a => runO d (f a) := id (M.bind_assoc m f _)
end

section
variable {α β γ δ σ σ' τ τ' : Type}
def RS (e : α → γ) (r : Res γ) (t : Res α) : Prop := match t with
  | .ok a S => r = .ok (e a) S
  | .exc n S => r = .exc n S
  | .stuck => True
def Pv (e : α → γ) (c : Env → Store → Res γ) (ρ : Env) (a : α) : Prop := ∀ S, c ρ S = .ok (e a) S
def Xv (e : α → γ) (c : Env → Store → Res γ) (ρ : Env) (m : M α) : Prop := ∀ S, RS e (c ρ S) (m S)
variable {e : α → γ} {c : Env → Store → Res γ} {ρ ρ' : Env} {a : α} {m : M α}
theorem Pv.x (h : Pv e c ρ a) : Xv e c ρ (M.pure a) := fun S => h S
theorem RS.bind {f : γ → Store → Res δ} {e' : β → δ} {r : Res γ} {t : Res α} {k : α → M β} (h : RS e r t) (hk : ∀ a S, RS e' (f (e a) S) (k a S)) : RS e' (r.bind f) (t.bind k) := by
  cases t with
  | ok a S => simp only [RS] at h; subst h; exact hk a S
  | exc n S => simp only [RS] at h; subst h; exact rfl
  | stuck => trivial
abbrev iN : D → D := id
abbrev iU : Unit → D := fun _ => .non
abbrev eL (f : α → D) : List α → D := fun xs => .lst (xs.map f)
abbrev eTL (f : α → D) : List α → D := fun xs => .tup (xs.map f)
abbrev eP2 (f : α → D) (g : β → D) : α × β → D := fun p => .tup [f p.1, g p.2]
abbrev eP3 {γ : Type} (f : α → D) (g : β → D) (h : γ → D) : α × β × γ → D := fun p => .tup [f p.1, g p.2.1, h p.2.2]
def uI : D → Option Int | .int i => some i | _ => none
def uB : D → Option Bool | .bl i => some i | _ => none
def uS : D → Option Str | .str i => some i | _ => none
def uN : D → Option Unit | .non => some () | _ => none
def uAll (f : D → Option α) : List D → Option (List α)
  | [] => some []
  | d :: ds => match f d, uAll f ds with
    | some a, some as => some (a :: as)
    | _, _ => none
def uL (f : D → Option α) : D → Option (List α) | .lst ds => uAll f ds | _ => none
def uTL (f : D → Option α) : D → Option (List α) | .tup ds => uAll f ds | _ => none
def uP2 (f : D → Option α) (g : D → Option β) : D → Option (α × β)
  | .tup [d, e] => match f d, g e with
    | some a, some b => some (a, b)
    | _, _ => none
  | _ => none
structure Un (e : α → D) (u : D → Option α) : Prop where
  back : ∀ d a, u d = some a → d = e a
  told : ∀ a, u (e a) = some a
theorem unI : Un D.int uI := ⟨fun d a h => by cases d <;> simp [uI] at h; rw [h], fun _ => rfl⟩
theorem unS : Un D.str uS := ⟨fun d a h => by cases d <;> simp [uS] at h; rw [h], fun _ => rfl⟩
theorem unAny : Un iN some := ⟨fun d a h => by cases h; rfl, fun _ => rfl⟩
theorem uAll_back {f : α → D} {u : D → Option α} (h : Un f u) : ∀ (ds : List D) (as : List α), uAll u ds = some as → ds = as.map f
  | [], as, q => by simp [uAll] at q; subst q; rfl
  | d :: ds, as, q => by
    simp only [uAll] at q
    cases q1 : u d with
    | none => rw [q1] at q; cases q
    | some a =>
      cases q2 : uAll u ds with
      | none => rw [q1, q2] at q; cases q
      | some bs =>
        rw [q1, q2] at q
        cases q
        rw [List.map_cons, ← h.back _ _ q1, ← uAll_back h ds bs q2]
theorem uAll_told {f : α → D} {u : D → Option α} (h : Un f u) : ∀ (as : List α), uAll u (as.map f) = some as
  | [] => rfl
  | a :: as => by simp only [List.map_cons, uAll, h.told, uAll_told h as]
theorem unL {f : α → D} {u : D → Option α} (h : Un f u) : Un (eL f) (uL u) := ⟨fun d a q => by
  cases d <;> simp only [uL, reduceCtorEq] at q
  rw [uAll_back h _ _ q], fun as => uAll_told h as⟩
theorem unTL {f : α → D} {u : D → Option α} (h : Un f u) : Un (eTL f) (uTL u) := ⟨fun d a q => by
  cases d <;> simp only [uTL, reduceCtorEq] at q
  rw [uAll_back h _ _ q], fun as => uAll_told h as⟩
theorem unP2 {f : α → D} {u : D → Option α} {g : β → D} {v : D → Option β} (h : Un f u) (k : Un g v) : Un (eP2 f g) (uP2 u v) where
  back := fun d a q => by
    unfold uP2 at q
    split at q
    · rename_i d e
      split at q
      · rename_i x y q1 q2
        cases q
        rw [h.back _ _ q1, k.back _ _ q2]
      · cases q
    · cases q
  told := fun p => by simp only [uP2, h.told, k.told]
structure EqT [DecidableEq α] (n : Nat) (e : α → D) : Prop where
  py : ∀ a, ∃ p, (e a).py = some p ∧ p.depth ≤ n
  eqv : ∀ a b p q, (e a).py = some p → (e b).py = some q → PyData.eqv p q = decide (a = b)
end
end PM
set_option maxHeartbeats 1000000
namespace PM
open PySem PySem.Spec PyProof.Rows L2
section
variable {α β γ δ ζ : Type} {ρ ρ1 : Env} {ca cb cc : Ex} {ea : α → D} {eb : β → D} {ez : ζ → D} {a : α} {b : β} {z : ζ} {ma : M α} {mb : M β} {i : Nat} {f : D → D → Option D}
theorem p_V {e : α → D} (h : Nth ρ i (.fr (e a))) : Pv e (eV i) ρ a := fun S => by simp only [eV, h.eq]
theorem p_Bf {e : α → D} (h : Nth ρ i (.fr (e a))) : Pv e (eB i) ρ a := fun S => by simp only [eB, h.eq]
theorem p_Bb {e : α → D} (h : Nth ρ i (.bo (e a))) : Pv e (eB i) ρ a := fun S => by simp only [eB, h.eq]
theorem p_C {e : α → D} : Pv e (eC (e a)) ρ a := fun _ => rfl
theorem p_Cd {e : α → D} {d : D} (h : d = e a) : Pv e (eC d) ρ a := fun _ => by subst h; rfl
theorem p_up {c : Ex} (h : Pv ea c ρ a) : Pv iN c ρ (ea a) := h
theorem x_up {c : Ex} (h : Xv ea c ρ ma) : Xv iN c ρ (M.bind ma fun a => M.pure (ea a)) := fun S => by
  have h := h S
  unfold M.bind Res.bind
  cases q : ma S <;> simp only [q] at h ⊢ <;> exact h
theorem x_cast {c : Ex} {u : D → Option α} (hu : Un ea u) {d : D} (h : Pv iN c ρ d) : Xv ea c ρ (M.opt (u d)) := fun S => by
  unfold M.opt
  cases q : u d with
  | none => exact trivial
  | some a => rw [h S, show iN d = ea a from hu.back _ _ q]; exact rfl
theorem x_castX {c : Ex} {u : D → Option α} (hu : Un ea u) {m : M D} (h : Xv iN c ρ m) : Xv ea c ρ (M.bind m fun d => M.opt (u d)) := fun S => by
  have h := h S
  unfold M.bind Res.bind
  cases q : m S with
  | ok d S' =>
    simp only [q] at h ⊢
    rw [h]
    unfold M.opt
    cases q2 : u d with
    | none => exact trivial
    | some a => rw [show iN d = ea a from hu.back _ _ q2]; exact rfl
  | exc n S' => simp only [q] at h ⊢; exact h
  | stuck => exact trivial
theorem p_as {c : Ex} {e' : β → D} {b : β} (h : Pv ea c ρ a) (hb : ea a = e' b) : Pv e' c ρ b := fun S => by rw [h S, hb]
theorem x_as {c : Ex} {e' : β → D} {g : α → β} (h : Xv ea c ρ ma) (hb : ∀ a, ea a = e' (g a)) : Xv e' c ρ (M.bind ma fun a => M.pure (g a)) := fun S => by
  have h := h S
  unfold M.bind Res.bind
  cases q : ma S with
  | ok d S' => simp only [q] at h ⊢; rw [h, hb]; exact rfl
  | exc n S' => simp only [q] at h ⊢; exact h
  | stuck => exact trivial
theorem pp_bin (ha : Pv ea ca ρ a) (hb : Pv eb cb ρ b) (h : f (ea a) (eb b) = some (ez z)) : Pv ez (eBin f ca cb) ρ z := fun S => by simp only [eBin, ha S, hb S, Res.bind, h, Res.opt]
theorem pp_binO {o : Option ζ} (ha : Pv ea ca ρ a) (hb : Pv eb cb ρ b) (h : ∀ z, o = some z → f (ea a) (eb b) = some (ez z)) : Xv ez (eBin f ca cb) ρ (M.opt o) := fun S => by
  unfold M.opt
  cases q : o with
  | none => exact trivial
  | some z => simp only [eBin, ha S, hb S, Res.bind, h z q, Res.opt]; exact rfl
theorem xx_binO {g : α → β → Option ζ} (ha : Xv ea ca ρ ma) (hb : Xv eb cb ρ mb) (h : ∀ a b z, g a b = some z → f (ea a) (eb b) = some (ez z)) : Xv ez (eBin f ca cb) ρ (M.bind ma fun a => M.bind mb fun b => M.opt (g a b)) := fun S => by
  refine RS.bind (ha S) fun a S1 => RS.bind (hb S1) fun b S2 => ?_
  unfold M.opt
  cases q : g a b with
  | none => exact trivial
  | some z => rw [h a b z q]; exact rfl
theorem xp_binO {g : α → Option ζ} (ha : Xv ea ca ρ ma) (hb : Pv eb cb ρ b) (h : ∀ a z, g a = some z → f (ea a) (eb b) = some (ez z)) : Xv ez (eBin f ca cb) ρ (M.bind ma fun a => M.opt (g a)) := fun S => by
  refine RS.bind (ha S) fun a S1 => ?_
  rw [hb S1]
  unfold M.opt
  simp only [Res.bind]
  cases q : g a with
  | none => exact trivial
  | some z => rw [h a z q]; exact rfl
theorem px_binO {g : β → Option ζ} (ha : Pv ea ca ρ a) (hb : Xv eb cb ρ mb) (h : ∀ b z, g b = some z → f (ea a) (eb b) = some (ez z)) : Xv ez (eBin f ca cb) ρ (M.bind mb fun b => M.opt (g b)) := fun S => by
  unfold eBin
  rw [ha S]
  show RS ez ((cb ρ S).bind fun e S => Res.opt (f (ea a) e) S) _
  refine RS.bind (hb S) fun b S1 => ?_
  unfold M.opt
  cases q : g b with
  | none => exact trivial
  | some z => rw [h b z q]; exact rfl
theorem xx_bin {g : α → β → ζ} (ha : Xv ea ca ρ ma) (hb : Xv eb cb ρ mb) (h : ∀ a b, f (ea a) (eb b) = some (ez (g a b))) : Xv ez (eBin f ca cb) ρ (M.bind ma fun a => M.bind mb fun b => M.pure (g a b)) :=
  xx_binO (g := fun a b => some (g a b)) ha hb fun a b z q => by cases q; exact h a b
theorem xp_bin {g : α → ζ} (ha : Xv ea ca ρ ma) (hb : Pv eb cb ρ b) (h : ∀ a, f (ea a) (eb b) = some (ez (g a))) : Xv ez (eBin f ca cb) ρ (M.bind ma fun a => M.pure (g a)) :=
  xp_binO (g := fun a => some (g a)) ha hb fun a z q => by cases q; exact h a
theorem px_bin {g : β → ζ} (ha : Pv ea ca ρ a) (hb : Xv eb cb ρ mb) (h : ∀ b, f (ea a) (eb b) = some (ez (g b))) : Xv ez (eBin f ca cb) ρ (M.bind mb fun b => M.pure (g b)) :=
  px_binO (g := fun b => some (g b)) ha hb fun b z q => by cases q; exact h b
section
variable {g : D → Option D}
theorem p_un (ha : Pv ea ca ρ a) (h : g (ea a) = some (ez z)) : Pv ez (eUn g ca) ρ z := fun S => by simp only [eUn, ha S, Res.bind, h, Res.opt]
end
theorem p_TrB {b : Bool} (h : Pv D.bl ca ρ b) : Pv id (eTr ca) ρ b := fun S => by simp only [eTr, h S, Res.bind, D.truth, Res.opt, id]
theorem x_TrBm {m : M Bool} (h : Xv D.bl ca ρ m) : Xv id (eTr ca) ρ m := fun S => by
  have h := h S
  unfold eTr
  cases q : m S <;> simp only [q, RS] at h ⊢ <;> (try rw [h]) <;> exact rfl
section
variable {ta tb : Tx} {x y : Bool} {mx my : M Bool}
theorem p_tNot (h : Pv id ta ρ x) : Pv id (tNotD ta) ρ (!x) := fun S => by simp only [tNotD, h S, Res.bind, id]
theorem x_tNot' (h : Xv id ta ρ mx) : Xv id (tNotD ta) ρ (M.bind mx fun x => M.pure (!x)) := fun S => RS.bind (h S) fun a S1 => rfl
theorem p_tAnd (h : Pv id ta ρ x) (k : Pv id tb ρ y) : Pv id (tAndD ta tb) ρ (x && y) := fun S => by
  simp only [tAndD, h S, Res.bind, id]; cases x <;> simp [k S]
theorem p_tOr (h : Pv id ta ρ x) (k : Pv id tb ρ y) : Pv id (tOrD ta tb) ρ (x || y) := fun S => by
  simp only [tOrD, h S, Res.bind, id]; cases x <;> simp [k S]
theorem px_tAnd (h : Pv id ta ρ x) (k : Xv id tb ρ my) : Xv id (tAndD ta tb) ρ (if x = true then my else M.pure false) := fun S => by
  simp only [tAndD, h S, Res.bind, id]; cases x <;> simp
  · exact rfl
  · exact k S
theorem xx_tOr (h : Xv id ta ρ mx) (k : Xv id tb ρ my) : Xv id (tOrD ta tb) ρ (M.bind mx fun x => if x = true then M.pure true else my) := fun S =>
  RS.bind (h S) fun x S1 => by cases x <;> simp; exact k S1; exact rfl
theorem xp_tOr (h : Xv id ta ρ mx) (k : Pv id tb ρ y) : Xv id (tOrD ta tb) ρ (M.bind mx fun x => M.pure (x || y)) := fun S =>
  RS.bind (h S) fun x S1 => by cases x <;> simp [k S1, RS, M.pure]
theorem x_Not' (h : Xv D.bl ca ρ mx) : Xv D.bl (eNotD ca) ρ (M.bind mx fun x => M.pure (!x)) := fun S => RS.bind (h S) fun a S1 => rfl
theorem px_And (h : Pv D.bl ca ρ x) (k : Xv D.bl cb ρ my) : Xv D.bl (eAndD ca cb) ρ (if x = true then my else M.pure false) := fun S => by
  simp only [eAndD, h S, Res.bind]; cases x <;> simp
  · exact rfl
  · exact k S
theorem xx_And (h : Xv D.bl ca ρ mx) (k : Xv D.bl cb ρ my) : Xv D.bl (eAndD ca cb) ρ (M.bind mx fun x => if x = true then my else M.pure false) := fun S =>
  RS.bind (h S) fun x S1 => by cases x <;> simp; exact rfl; exact k S1
end
theorem pxp_Ch {f f' : D → D → Option D} {ec : γ → D} {c : γ} {x y : β → Bool} (ha : Pv ea ca ρ a) (hb : Xv eb cb ρ mb) (hc : Pv ec cc ρ c) (h : ∀ b, f (ea a) (eb b) = some (.bl (x b))) (h' : ∀ b, f' (eb b) (ec c) = some (.bl (y b))) : Xv D.bl (eChain f f' ca cb cc) ρ (M.bind mb fun b => M.pure (x b && y b)) := fun S => by
  unfold eChain
  rw [ha S]
  show RS D.bl ((cb ρ S).bind fun e S => _) _
  refine RS.bind (hb S) fun b S1 => ?_
  rw [h b]
  cases x b <;> simp [hc S1, h' b, Res.opt, RS, M.pure, Res.bind]
def PvA (c : Ax) (ρ : Env) (ds : List D) : Prop := ∀ S, c ρ S = .ok ds S
def XvA (es : α → List D) (c : Ax) (ρ : Env) (m : M α) : Prop := Xv es c ρ m
variable {cr : Ax} {ds : List D} {es : β → List D}
theorem p_aNil : PvA aNil ρ [] := fun _ => rfl
theorem p_aCons (h : Pv ea ca ρ a) (t : PvA cr ρ ds) : PvA (aCons ca cr) ρ (ea a :: ds) := fun S => by simp only [aCons, h S, t S, Res.bind]
theorem xa_1 (h : Xv ea ca ρ ma) (t : PvA cr ρ ds) : XvA (fun a => ea a :: ds) (aCons ca cr) ρ ma := fun S => by
  have h := h S
  unfold aCons
  cases q : ma S <;> simp only [q, RS] at h ⊢
  · rw [h]; simp only [Res.bind, t _]
  · rw [h]; rfl
theorem xa_P (h : Pv ea ca ρ a) (t : XvA es cr ρ mb) : XvA (fun b => ea a :: es b) (aCons ca cr) ρ mb := fun S => by
  have t := t S
  unfold aCons
  rw [h S]
  cases q : mb S <;> simp only [q, RS] at t ⊢
  · simp only [Res.bind]; rw [t]
  · simp only [Res.bind]; rw [t]
theorem xa_X (h : Xv ea ca ρ ma) (t : XvA es cr ρ mb) : XvA (fun p : α × β => ea p.1 :: es p.2) (aCons ca cr) ρ (M.bind ma fun a => M.bind mb fun b => M.pure (a, b)) := fun S => by
  refine RS.bind (h S) fun a S1 => RS.bind (t S1) fun b S2 => rfl
theorem p_Fn {g : List D → Option D} (h : PvA cr ρ ds) (hg : g ds = some (ez z)) : Pv ez (eFn g cr) ρ z := fun S => by simp only [eFn, h S, Res.bind, hg, Res.opt]
theorem p_FnO {g : List D → Option D} {o : Option ζ} (h : PvA cr ρ ds) (hg : ∀ z, o = some z → g ds = some (ez z)) : Xv ez (eFn g cr) ρ (M.opt o) := fun S => by
  unfold M.opt
  cases q : o with
  | none => exact trivial
  | some z => simp only [eFn, h S, Res.bind, hg z q, Res.opt]; exact rfl
theorem x_FnT {g : List D → Option D} {k : β → ζ} (h : XvA es cr ρ mb) (hg : ∀ b, g (es b) = some (ez (k b))) : Xv ez (eFn g cr) ρ (M.bind mb fun b => M.pure (k b)) := fun S =>
  RS.bind (h S) fun b S1 => by rw [hg b]; exact rfl
theorem x_FnO {g : List D → Option D} {k : β → Option ζ} (h : XvA es cr ρ mb) (hg : ∀ b z, k b = some z → g (es b) = some (ez z)) : Xv ez (eFn g cr) ρ (M.bind mb fun b => M.opt (k b)) := fun S =>
  RS.bind (h S) fun b S1 => by
    unfold M.opt
    cases q : k b with
    | none => exact trivial
    | some z => rw [hg b z q]; exact rfl
def FnT (e : ζ → D) (m : Fn) (ds : List D) (g : M ζ) : Prop := ∀ S, RS e (resF (m ds S)) (g S)
def FnN (e : ζ → D) (m : Fn) (ds : List D) (g : M ζ) : Prop := ∀ S, RS e (resN (m ds S)) (g S)
def FnI (e : ζ → D) (m : List D → Store → Res D) (ds : List D) (g : M ζ) : Prop := ∀ S, RS e (m ds S) (g S)
variable {m : Fn} {mi : List D → Store → Res D} {g : M ζ} {gx : β → M ζ}
theorem FnN.toT (h : FnN ez m ds g) : FnT ez m ds g := fun S => by
  have h := h S
  cases q : g S <;> simp only [q, RS] at h ⊢
  · cases q2 : m ds S with
    | ok v S' => cases v <;> simp only [q2, resN, resF, reduceCtorEq] at h ⊢; exact h
    | exc n S' => simp only [q2, resN, resF, reduceCtorEq] at h
    | stuck => simp only [q2, resN, resF, reduceCtorEq] at h
  · cases q2 : m ds S with
    | ok v S' => cases v <;> simp only [q2, resN, resF, reduceCtorEq] at h ⊢
    | exc n S' => simp only [q2, resN, resF] at h ⊢; exact h
    | stuck => simp only [q2, resN, resF, reduceCtorEq] at h
theorem x_callP (h : PvA cr ρ ds) (hf : FnT ez m ds g) : Xv ez (eCall m cr) ρ g := fun S => by simp only [eCall, h S, Res.bind]; exact hf S
theorem x_callX (h : XvA es cr ρ mb) (hf : ∀ b, FnT ez m (es b) (gx b)) : Xv ez (eCall m cr) ρ (M.bind mb gx) := fun S => RS.bind (h S) fun b S1 => hf b S1
theorem x_makeP (h : PvA cr ρ ds) (hf : FnI ez mi ds g) : Xv ez (eMake mi cr) ρ g := fun S => by simp only [eMake, h S, Res.bind]; exact hf S
theorem x_makeX (h : XvA es cr ρ mb) (hf : ∀ b, FnI ez mi (es b) (gx b)) : Xv ez (eMake mi cr) ρ (M.bind mb gx) := fun S => RS.bind (h S) fun b S1 => hf b S1
def methM (mn : Str) (mt : MTab) (fin : Res Val → Res D) (d : D) (ma : M (List D)) : M D := fun S => match d with
  | .obj c fs => (match fs.lookup mn, mt c with
    | none, some fn => M.bind ma (fun ds S => fin (fn (d :: ds) S)) S
    | _, _ => .stuck)
  | .rf n => (match S[n]? with
    | some (.obj c fs) => (match fs.lookup mn, mt c with
      | none, some fn => M.bind ma (fun ds S => fin (fn (d :: ds) S)) S
      | _, _ => .stuck)
    | _ => .stuck)
  | _ => .stuck
theorem RSid {r : Res D} {t : Res D} (h : r = t) : RS iN r t := by subst h; cases r <;> simp only [RS]; exact rfl
theorem RS_bindM {γ : Type} {f : List D → Store → Res D} {e : γ → List D} {r : Res (List D)} {m : M γ} {S : Store} (h : RS e r (m S)) : RS iN (r.bind f) (M.bind (M.bind m fun b => M.pure (e b)) f S) := by
  unfold M.bind Res.bind
  cases q : m S with
  | ok b S' => simp only [q, RS] at h; rw [h]; exact RSid rfl
  | exc n S' => simp only [q, RS] at h; rw [h]; exact rfl
  | stuck => exact trivial
theorem meth_core {mn : Str} {mt : MTab} {fin : Res Val → Res D} {d : D} {S : Store} {γ : Type} {e : γ → List D} {mb : M γ} (ha : ca ρ S = .ok d S) (h : XvA e cr ρ mb) : RS iN (eMeth mn mt ca cr fin ρ S) (methM mn mt fin d (M.bind mb fun b => M.pure (e b)) S) := by
  unfold eMeth
  rw [ha]
  cases d with
  | obj c fs =>
    cases hl : fs.lookup mn with
    | none =>
      cases hm : mt c with
      | none => simp only [methM, hl, hm]; exact trivial
      | some fn => simp only [methM, Res.bind, hl, hm]; exact RS_bindM (f := fun ds S => fin (fn (D.obj c fs :: ds) S)) (h S)
    | some x => simp only [methM, hl]; exact trivial
  | rf n =>
    cases hc : S[n]? with
    | none => simp only [methM, hc]; exact trivial
    | some cell =>
      cases cell with
      | box _ => simp only [methM, hc]; exact trivial
      | obj c fs =>
        cases hl : fs.lookup mn with
        | none =>
          cases hm : mt c with
          | none => simp only [methM, hc, hl, hm]; exact trivial
          | some fn => simp only [methM, Res.bind, hc, hl, hm]; exact RS_bindM (f := fun ds S => fin (fn (D.rf n :: ds) S)) (h S)
        | some x => simp only [methM, hc, hl]; exact trivial
  | _ => exact trivial
theorem p_methP {mn : Str} {mt : MTab} {fin : Res Val → Res D} (ha : Pv ea ca ρ a) (h : PvA cr ρ ds) : Xv iN (eMeth mn mt ca cr fin) ρ (methM mn mt fin (ea a) (M.pure ds)) := fun S =>
  meth_core (e := fun _ : Unit => ds) (mb := M.pure ()) (ha S) fun S => h S
theorem x_meth {mn : Str} {mt : MTab} {fin : Res Val → Res D} (ha : Xv ea ca ρ ma) {mds : M (List D)} (h : ∀ a ca', (∀ S, ca' ρ S = .ok (ea a) S) → Xv iN (eMeth mn mt ca' cr fin) ρ (methM mn mt fin (ea a) mds)) : Xv iN (eMeth mn mt ca cr fin) ρ (M.bind ma fun a => methM mn mt fin (ea a) mds) := fun S => by
  have ha := ha S
  unfold M.bind Res.bind
  cases q : ma S with
  | ok a S' =>
    simp only [q, RS] at ha ⊢
    have := h a (fun _ S => .ok (ea a) S) (fun _ => rfl) S'
    unfold eMeth at this ⊢
    rw [ha]
    exact this
  | exc n S' => simp only [q, RS] at ha ⊢; unfold eMeth; rw [ha]; rfl
  | stuck => exact trivial
theorem x_methP {mn : Str} {mt : MTab} {fin : Res Val → Res D} (ha : Xv ea ca ρ ma) (h : PvA cr ρ ds) : Xv iN (eMeth mn mt ca cr fin) ρ (M.bind ma fun a => methM mn mt fin (ea a) (M.pure ds)) := x_meth ha fun a ca' h' => p_methP (ea := ea) h' h
def fldM (fl : FTab) (f : Str) (d : D) : M D := fun S => match d with
  | .obj c fs => if fl c f = true then Res.opt (fs.lookup f) S else .stuck
  | .rf n => (match S[n]? with
    | some (.obj c fs) => if fl c f = true then Res.opt (fs.lookup f) S else .stuck
    | _ => .stuck)
  | _ => .stuck
theorem p_fld {fl : FTab} {f : Str} (ha : Pv ea ca ρ a) : Xv iN (eFld fl f ca) ρ (fldM fl f (ea a)) := fun S => by
  unfold eFld; rw [ha S]; exact RSid rfl
theorem p_isTO {T : String} {d : D} (ha : Pv iN ca ρ d) : Xv D.bl (eIsT T ca) ρ (M.opt (d.isT T)) := fun S => by
  unfold M.opt
  cases q : d.isT T with
  | none => exact trivial
  | some k => simp only [eIsT, ha S, Res.bind, iN, id, q, Option.map_some, Res.opt]; exact rfl
theorem p_Lst (h : PvA cr ρ ds) (hl : ds.length ≤ 1000000) (hz : D.lst ds = ez z) : Pv ez (eLst cr) ρ z := fun S => by simp only [eLst, h S, Res.bind, hl, if_true, hz]
theorem p_Tup (h : PvA cr ρ ds) (hl : ds.length ≤ 1000000) (hz : D.tup ds = ez z) : Pv ez (eTup cr) ρ z := fun S => by simp only [eTup, h S, Res.bind, hl, if_true, hz]
theorem x_Lst' {k : β → ζ} (h : XvA es cr ρ mb) (hl : ∀ b, (es b).length ≤ 1000000) (hz : ∀ b, D.lst (es b) = ez (k b)) : Xv ez (eLst cr) ρ (M.bind mb fun b => M.pure (k b)) := fun S =>
  RS.bind (h S) fun b S1 => by rw [if_pos (hl b), hz b]; exact rfl
theorem x_Tup' {k : β → ζ} (h : XvA es cr ρ mb) (hl : ∀ b, (es b).length ≤ 1000000) (hz : ∀ b, D.tup (es b) = ez (k b)) : Xv ez (eTup cr) ρ (M.bind mb fun b => M.pure (k b)) := fun S =>
  RS.bind (h S) fun b S1 => by rw [if_pos (hl b), hz b]; exact rfl
abbrev iO : Option Int → Option Int := id
theorem p_No : Pv iO pNo ρ none := fun _ => rfl
theorem p_At {j : Int} (h : Pv D.int ca ρ j) : Pv iO (pAt ca) ρ (some j) := fun S => by simp only [pAt, h S, Res.bind]; rfl
section
variable {fc : D → Option Int → Option Int → Option D} {pl ph : Px} {lo hi : Option Int} {ml mh : M (Option Int)}
theorem p_Cut (ha : Pv ea ca ρ a) (hl : Pv iO pl ρ lo) (hh : Pv iO ph ρ hi) (h : fc (ea a) lo hi = some (ez z)) : Pv ez (eCut fc ca pl ph) ρ z := fun S => by
  simp only [eCut, ha S, Res.bind, hl S, hh S, iO, id, h, Res.opt]
theorem p_CutO {o : Option ζ} (ha : Pv ea ca ρ a) (hl : Pv iO pl ρ lo) (hh : Pv iO ph ρ hi) (h : ∀ z, o = some z → fc (ea a) lo hi = some (ez z)) : Xv ez (eCut fc ca pl ph) ρ (M.opt o) := fun S => by
  unfold M.opt
  cases q : o with
  | none => exact trivial
  | some z => simp only [eCut, ha S, Res.bind, hl S, hh S, iO, id, h z q, Res.opt]; exact rfl
end
theorem p_iL {xs : List α} (h : Pv (eL ea) ca ρ xs) : Pv (List.map ea) (iL ca) ρ xs := fun S => by simp only [iL, h S, Res.bind]
theorem x_iL' {mx : M (List α)} (h : Xv (eL ea) ca ρ mx) : Xv (List.map ea) (iL ca) ρ mx := fun S => by
  have h := h S
  unfold iL
  cases q : mx S <;> simp only [q, RS] at h ⊢ <;> rw [h] <;> rfl
theorem p_iBb {xs : List α} (h : Nth ρ i (.bo (eL ea xs))) : Pv (List.map ea) (iB i) ρ xs := fun S => by simp only [iB, h.eq]
abbrev eCh : Nat → D := fun c => .str (S1 c)
theorem x_iS1 {mx : M Str} (h : Xv D.str ca ρ mx) : Xv (List.map eCh) (iS ca) ρ (M.bind mx fun x => M.pure (Sl x)) := fun S => RS.bind (h S) fun x S1 => rfl
def rngI (lo : Int) (n : Nat) : List Int := (List.range n).map fun (k : Nat) => lo + (k : Int)
theorem rngI_map (lo : Int) (n : Nat) : rngD lo n = (rngI lo n).map D.int := by unfold rngD rngI; rw [List.map_map]; rfl
def rngIC (lo c : Int) (n : Nat) : List Int := (List.range n).map fun (k : Nat) => lo + (k : Int) * c
theorem rngIC_map (lo c : Int) (n : Nat) : rngC lo c n = (rngIC lo c n).map D.int := by unfold rngC rngIC; rw [List.map_map]; rfl
def gR1 (j : Int) : Option (List Int) := if -1000000000 ≤ j ∧ j ≤ 1000000000 then some (rngI 0 j.toNat) else none
def gR3 (i j c : Int) : Option (List Int) := if ((-1000000000 ≤ i ∧ i ≤ 1000000000) ∧ -1000000000 ≤ j ∧ j ≤ 1000000000) ∧ 0 < c ∧ c ≤ 1000000000 then some (rngIC i c (stepN i j c)) else none
theorem oo_R1 {j : Int} {z : List Int} (h : gR1 j = some z) : fR1 [.int j] = some (z.map D.int) := by
  unfold gR1 at h
  split at h
  · cases h; rename_i h; simp only [fR1, h, and_self, if_true, rngI_map]
  · cases h
theorem oo_R3 {i j c : Int} {z : List Int} (h : gR3 i j c = some z) : fR3 [.int i, .int j, .int c] = some (z.map D.int) := by
  unfold gR3 at h
  split at h
  · cases h; rename_i h; simp only [fR3, h, and_self, if_true, rngIC_map]
  · cases h
theorem p_iFn {g : List D → Option (List D)} {o : Option (List ζ)} (h : PvA cr ρ ds) (hg : ∀ z, o = some z → g ds = some (z.map ez)) : Xv (List.map ez) (iFn g cr) ρ (M.opt o) := fun S => by
  unfold M.opt
  cases q : o with
  | none => exact trivial
  | some z => simp only [iFn, h S, Res.bind, hg z q, Res.opt]; exact rfl
theorem x_iFn' {g : List D → Option (List D)} {k : β → Option (List ζ)} (h : XvA es cr ρ mb) (hg : ∀ b z, k b = some z → g (es b) = some (z.map ez)) : Xv (List.map ez) (iFn g cr) ρ (M.bind mb fun b => M.opt (k b)) := fun S =>
  RS.bind (h S) fun b S1 => by
    unfold M.opt
    cases q : k b with
    | none => exact trivial
    | some z => rw [hg b z q]; exact rfl
theorem lc_core {tg : Tgt} {tt : Tx} {elt : Ex} {ρ : Env} {ei : α → D} {t : α → M Bool} {f : α → M β} {ρ1 : α → Env} (ht : ∀ x, tg (ei x) ρ = some (ρ1 x)) (htt : ∀ x, Xv id tt (ρ1 x) (t x)) (he : ∀ x, Xv eb elt (ρ1 x) (f x)) : ∀ (xs : List α) (acc : List β) (S : Store), RS (eL eb) (lcS tg tt elt ρ (xs.map ei) (acc.map eb) S) (lcO t f xs acc S)
  | [], acc, S => rfl
  | x :: xs, acc, S => by
    simp only [List.map_cons, lcS, ht x]
    unfold lcO M.bind Res.bind M.noexc
    have h1 := htt x S
    cases q1 : t x S with
    | ok k S1 =>
      simp only [q1, RS, id] at h1
      rw [h1]
      simp only []
      cases k with
      | true =>
        simp only [if_true]
        have h2 := he x S1
        cases q2 : f x S1 with
        | ok y S2 =>
          simp only [q2, RS] at h2
          simp only [q2]
          rw [h2]
          simp only [List.length_map]
          split
          · have := lc_core ht htt he xs (acc ++ [y]) S2
            rw [List.map_append] at this
            exact this
          · exact trivial
        | exc n S2 => simp only [q2]; exact trivial
        | stuck => simp only [q2]; exact trivial
      | false => exact lc_core ht htt he xs acc S1
    | exc n S1 => exact trivial
    | stuck => exact trivial
section
variable {own : List Nat} {ci : Ix} {tg : Tgt} {tt : Tx} {elt : Ex} {ei : α → D} {t : α → M Bool} {fe : α → M β} {ρw : Env} {ρx : α → Env}
theorem x_Lc' {mi : M (List α)} (hi : Xv (List.map ei) ci ρ mi) (hw : WipeR ρ own ρw) (ht : ∀ x, tg (ei x) ρw = some (ρx x)) (htt : ∀ x, Xv id tt (ρx x) (t x)) (he : ∀ x, Xv eb elt (ρx x) (fe x)) : Xv (eL eb) (eLc own ci tg tt elt) ρ (M.bind mi fun xs => lcO t fe xs []) := fun S => by
  unfold eLc
  rw [hw.eq]
  exact RS.bind (hi S) fun xs S1 => lc_core ht htt he xs [] S1
theorem p_Lc {xs : List α} (hi : Pv (List.map ei) ci ρ xs) (hw : WipeR ρ own ρw) (ht : ∀ x, tg (ei x) ρw = some (ρx x)) (htt : ∀ x, Xv id tt (ρx x) (t x)) (he : ∀ x, Xv eb elt (ρx x) (fe x)) : Xv (eL eb) (eLc own ci tg tt elt) ρ (lcO t fe xs []) := fun S => by
  unfold eLc
  rw [hw.eq, hi S]
  exact lc_core ht htt he xs [] S
theorem p_Yes : Pv id tYesD ρ true := fun _ => rfl
end
theorem tgN {tρ : Env} {d : D} (h : SetR ρ i (.fr d) tρ) : gN i d ρ = some tρ := tg_N h
end
end PM
set_option maxHeartbeats 1000000
namespace PM
open PySem PySem.Spec PyProof.Rows L2
section
variable {α β γ : Type} [DecidableEq α] [DecidableEq β] [DecidableEq γ]
theorem eqvAll_dec {e : α → D} {n : Nat} (h : EqT n e) : ∀ (as bs : List α) (ps qs : List PyData), D.pys (as.map e) = some ps → D.pys (bs.map e) = some qs → PyData.eqvAll ps qs = decide (as = bs)
  | [], [], ps, qs, h1, h2 => by simp only [List.map_nil, D.pys] at h1 h2; cases h1; cases h2; rfl
  | [], b :: bs, ps, qs, h1, h2 => by
    simp only [List.map_nil, List.map_cons, D.pys] at h1 h2
    cases h1
    split at h2 <;> cases h2
    simp [PyData.eqvAll]
  | a :: as, [], ps, qs, h1, h2 => by
    simp only [List.map_nil, List.map_cons, D.pys] at h1 h2
    cases h2
    split at h1 <;> cases h1
    simp [PyData.eqvAll]
  | a :: as, b :: bs, ps, qs, h1, h2 => by
    simp only [List.map_cons, D.pys] at h1 h2
    cases e1 : (e a).py with
    | none => rw [e1] at h1; cases h1
    | some p =>
      cases e2 : D.pys (as.map e) with
      | none => rw [e1, e2] at h1; cases h1
      | some ps' =>
        cases e3 : (e b).py with
        | none => rw [e3] at h2; cases h2
        | some q =>
          cases e4 : D.pys (bs.map e) with
          | none => rw [e3, e4] at h2; cases h2
          | some qs' =>
            rw [e1, e2] at h1
            rw [e3, e4] at h2
            cases h1; cases h2
            rw [PyData.eqvAll, h.eqv a b p q e1 e3, eqvAll_dec h as bs _ _ e2 e4]
            simp [List.cons.injEq]
theorem pys_py {e : α → D} {n : Nat} (h : EqT n e) : ∀ (as : List α), ∃ ps, D.pys (as.map e) = some ps ∧ PyData.depthAll ps ≤ n
  | [] => ⟨[], rfl, by simp [PyData.depthAll]⟩
  | a :: as => by
    obtain ⟨p, h1, h2⟩ := h.py a
    obtain ⟨ps, h3, h4⟩ := pys_py h as
    exact ⟨p :: ps, by simp only [List.map_cons, D.pys, h1, h3], by simp only [PyData.depthAll]; omega⟩
theorem eqI : EqT 0 D.int := ⟨fun a => ⟨_, rfl, Nat.zero_le _⟩, fun a b p q h1 h2 => by cases h1; cases h2; simp [PyData.eqv, BEq.beq]⟩
theorem eqS : EqT 0 D.str where
  py := fun a => ⟨_, rfl, Nat.zero_le _⟩
  eqv := fun a b p q h1 h2 => by cases h1; cases h2; simp only [PyData.eqv]; congr 1
theorem eqL {e : α → D} {n : Nat} (h : EqT n e) : EqT (n + 1) (eL e) where
  py := fun as => by
    obtain ⟨ps, h1, h2⟩ := pys_py h as
    exact ⟨.list ps, by simp only [eL, D.py, h1, Option.map_some], by simp only [PyData.depth]; omega⟩
  eqv := fun as bs p q h1 h2 => by
    obtain ⟨ps, h3, h4⟩ := pys_py h as
    obtain ⟨qs, h5, h6⟩ := pys_py h bs
    simp only [eL, D.py, h3, h5, Option.map_some] at h1 h2
    cases h1; cases h2
    rw [PyData.eqv, eqvAll_dec h as bs ps qs h3 h5]
theorem eq?_dec {e : α → D} {n : Nat} (h : EqT n e) (hn : n ≤ 60) (a b : α) : D.eq? (e a) (e b) = some (decide (a = b)) := by
  obtain ⟨p, h1, h2⟩ := h.py a
  obtain ⟨q, h3, h4⟩ := h.py b
  simp only [D.eq?, h1, h3, if_pos (show min p.depth q.depth ≤ 60 by omega), h.eqv a b p q h1 h3]
theorem ot_eq {e : α → D} {n : Nat} (h : EqT n e) {a b : α} (hn : n ≤ 60 := by decide) : oEq (e a) (e b) = some (.bl (decide (a = b))) := by
  simp only [oEq, eq?_dec h hn, Option.map_some]
theorem ot_ne {e : α → D} {n : Nat} (h : EqT n e) {a b : α} (hn : n ≤ 60 := by decide) : oNe (e a) (e b) = some (.bl (!decide (a = b))) := by
  simp only [oNe, eq?_dec h hn, Option.map_some]
end
theorem oo_eqD {d e : D} {z : Bool} (h : D.eq? d e = some z) : oEq d e = some (.bl z) := by simp only [oEq, h, Option.map_some]
section
variable {α β γ : Type} {e : α → D} {f : β → D} {g : γ → D} {i j : Int} {x y : Str} {xs ys : List α} {d : D} {lo hi : Option Int}
theorem ot_addI : oAdd (.int i) (.int j) = some (.int (i + j)) := rfl
theorem ot_sub : oSub (.int i) (.int j) = some (.int (i - j)) := rfl
theorem ot_lt : oLt (.int i) (.int j) = some (.bl (decide (i < j))) := rfl
theorem ot_le : oLe (.int i) (.int j) = some (.bl (decide (i ≤ j))) := rfl
theorem ot_gt : oGt (.int i) (.int j) = some (.bl (decide (i > j))) := rfl
theorem ot_neg : oNeg (.int i) = some (.int (-i)) := rfl
theorem ot_mulL (h : -(2 ^ 64) < i ∧ i < 2 ^ 64 := by decide) : oMulI (.int i) (.int j) = some (.int (i * j)) := dv_mulL h
theorem ot_div (h : 0 < j ∧ j < 1073741824 := by decide) : oDiv (.int i) (.int j) = some (.int (i / j)) := dv_div h
theorem ot_mod (h : 0 < j := by decide) : oMod (.int i) (.int j) = some (.int (i % j)) := dv_mod h
def gMul (i j : Int) : Option Int := if cMul i j = true then some (i * j) else none
def gMod (i j : Int) : Option Int := if 0 < j then some (i % j) else none
theorem oo_mul {z : Int} (h : gMul i j = some z) : oMulI (.int i) (.int j) = some (.int z) := by
  unfold gMul at h; split at h <;> cases h; simp only [oI, *, if_true]
theorem oo_mod {z : Int} (h : gMod i j = some z) : oMod (.int i) (.int j) = some (.int z) := by
  unfold gMod at h; split at h <;> cases h; rename_i h; exact dv_mod h
def gCatS (x y : Str) : Option Str := if x.length + y.length ≤ 1000000 then some (x ++ y) else none
theorem oo_catS {z : Str} (h : gCatS x y = some z) : oAdd (.str x) (.str y) = some (.str z) := by
  unfold gCatS at h; split at h <;> cases h; rename_i h; exact dv_addS h
def gCatL (xs ys : List α) : Option (List α) := if xs.length + ys.length ≤ 1000000 then some (xs ++ ys) else none
theorem oo_addL {z : List α} (h : gCatL xs ys = some z) : oAdd (eL e xs) (eL e ys) = some (eL e z) := by
  unfold gCatL at h; split at h <;> cases h; rename_i h
  simp only [eL, oAdd, List.length_map, h, if_true, List.map_append]
theorem ot_inS {c : Nat} : oIn (.str (S1 c)) (.str x) = some (.bl (decide (c ∈ Sl x))) := dv_inS
theorem ot_ninS {c : Nat} : oNin (.str (S1 c)) (.str x) = some (.bl (!decide (c ∈ Sl x))) := dv_ninS
theorem atI_map {α β : Type} (f : α → β) (xs : List α) (i : Int) : L2.atI (xs.map f) i = (L2.atI xs i).map f := by
  unfold L2.atI
  rw [List.length_map]
  cases L2.ixN xs.length i with
  | none => rfl
  | some j => simp only [Option.bind_some, List.getElem?_map]
abbrev gIx {α : Type} (xs : List α) (i : Int) : Option α := L2.atI xs i
theorem oo_ixL {z : α} (h : gIx xs i = some z) : oIx (eL e xs) (.int i) = some (e z) := by
  simp only [eL, oIx, atI_map, h, Option.map_some]
theorem oo_ixScr {ns : List Int} {z : Int} (h : gIx ns i = some z) : oIx (.scr ns) (.int i) = some (.int z) := by
  simp only [oIx, h, Option.map_some]
def gIxS (x : Str) (i : Int) : Option Nat := if x.length ≤ 1000000 then L2.atI (Sl x) i else none
theorem oo_ixS {z : Nat} (h : gIxS x i = some z) : oIx (.str x) (.int i) = some (eCh z) := by
  unfold gIxS at h; split at h <;> try cases h
  rename_i hl
  simp only [oIx, hl, if_true]
  unfold Sl at h
  rw [h]
  rfl
theorem ot_ixP2a {p : α × β} : oIx (eP2 e f p) (.int 0) = some (e p.1) := rfl
theorem ot_ixP2b {p : α × β} : oIx (eP2 e f p) (.int 1) = some (f p.2) := rfl
theorem oo_ixD {a b z : D} (h : oIx a b = some z) : oIx a b = some (iN z) := h
theorem cutD_map {α β : Type} (f : α → β) (xs : List α) (lo hi : Option Int) : cutD (xs.map f) lo hi = (cutD xs lo hi).map f := by
  unfold cutD; rw [List.length_map, List.map_take, List.map_drop]
theorem ot_cutL : oCut (eL e xs) lo hi = some (eL e (cutD xs lo hi)) := by simp only [eL, oCut, cutD_map]
theorem ot_cutScr {ns : List Int} : oCut (.scr ns) lo hi = some (eL D.int (cutD ns lo hi)) := rfl
def gCutS (x : Str) (lo hi : Option Int) : Option Str := if x.length ≤ 1000000 then some (cutS x lo hi) else none
theorem oo_cutS {z : Str} (h : gCutS x lo hi = some z) : oCut (.str x) lo hi = some (.str z) := by
  unfold gCutS at h; split at h <;> cases h; rename_i h; exact dv_cutS h
theorem ot_lenL : fLen [eL e xs] = some (.int (xs.length : Int)) := by simp only [eL, fLen, List.length_map]
theorem ot_lenScr {ns : List Int} : fLen [.scr ns] = some (.int (ns.length : Int)) := rfl
def gLenS (x : Str) : Option Int := if x.length ≤ 1000000 then some (x.length : Int) else none
theorem oo_lenS {z : Int} (h : gLenS x = some z) : fLen [.str x] = some (.int z) := by
  unfold gLenS at h; split at h <;> cases h; rename_i h; exact fn_lenS h
def gI (o : Option D) : Option Int := match o with | some (.int i) => some i | _ => none
theorem gI_some {o : Option D} {z : Int} (h : gI o = some z) : o = some (.int z) := by
  unfold gI at h; split at h <;> cases h; rfl
theorem oo_lenD {z : Int} (h : gI (fLen [d]) = some z) : fLen [d] = some (.int z) := gI_some h
def gLs (o : Option D) : Option (List D) := match o with | some (.lst i) => some i | _ => none
theorem oo_listD {z : List D} (h : gLs (fList [d]) = some z) : fList [d] = some (eL iN z) := by
  unfold gLs at h; split at h <;> cases h; rename_i h; rw [h]; simp only [eL, iN, List.map_id_fun, id]
theorem ot_tupL : fTuple [eL e xs] = some (eTL e xs) := rfl
def min2 (i j : Int) : Int := if j < i then j else i
theorem ot_min2 : fMin2 [.int i, .int j] = some (.int (min2 i j)) := rfl
end
end PM
set_option maxHeartbeats 1000000
namespace PM
open PySem PySem.Spec PyProof.Rows L2
section
variable {α β γ σ σ' τ τ' : Type}
def SR1 (E : σ → Env) (L : τ → Env) (ER : β → Val → Prop) (X : Env → Prop) (r : SR) (t : Res (O σ τ β)) : Prop := match t with
  | .ok (.nx s) S => r = .nx (E s) S
  | .ok (.bk s) S => r = .bk (L s) S
  | .ok (.ct s) S => r = .ct (L s) S
  | .ok (.rt b) S => ∃ v, r = .rt v S ∧ ER b v
  | .exc n S => ∃ ρ, r = .exc n ρ S ∧ X ρ
  | .stuck => True
structure Sm (E : σ → Env) (L : τ → Env) (ER : β → Val → Prop) (X : Env → Prop) (c : Stm) (ρ : Env) (m : M (O σ τ β)) : Prop where
  run : ∀ S, SR1 E L ER X (c ρ S) (m S)
def RF (e : β → D) : β → Val → Prop := fun b v => v = .fr (e b) ∨ v = .ow (e b)
def RN (e : β → D) : β → Val → Prop := fun b v => v = .ow (e b)
variable {E : σ → Env} {E' : σ' → Env} {L : τ → Env} {L' : τ' → Env} {ER : β → Val → Prop} {X : Env → Prop} {ρ ρ1 : Env} {rest a b c : Stm} {i : Nat}
theorem t_nil {s : σ} (h : ρ = E s := by rfl) : Sm E L ER X sNx ρ (M.pure (.nx s)) := ⟨fun S => by subst h; exact rfl⟩
theorem t_wipe {is : List Nat} {m : M (O σ τ β)} (h : WipeR ρ is ρ1) (k : Sm E L ER X rest ρ1 m) : Sm E L ER X (sSeq (sWipe is) rest) ρ m := ⟨fun S => by
  have := k.run S
  simp only [sSeq, sWipe, h.eq]
  exact this⟩
theorem t_fzo {d : D} {m : M (O σ τ β)} (h : Nth ρ i (.ow d)) (hs : SetR ρ i (.fr d) ρ1) (k : Sm E L ER X rest ρ1 m) : Sm E L ER X (sSeq (sFz i) rest) ρ m := ⟨fun S => by
  have := k.run S
  simp only [sSeq, sFz, h.eq, hs.eq]
  exact this⟩
theorem t_nxl {m : M (O σ τ β)} (k : Sm E L ER X rest ρ m) : Sm E L ER X (sSeq sNx rest) ρ m := ⟨fun S => k.run S⟩
theorem sSeq_assoc : sSeq (sSeq a b) c = sSeq a (sSeq b c) := by
  funext ρ S
  unfold sSeq
  cases a ρ S <;> rfl
theorem t_assoc {m : M (O σ τ β)} (k : Sm E L ER X (sSeq a (sSeq b c)) ρ m) : Sm E L ER X (sSeq (sSeq a b) c) ρ m := by rw [sSeq_assoc]; exact k
theorem t_ex {α' : Type} {en : α → α'} {ce : Env → Store → Res α'} {f : α' → Stm} {m : M α} {k : α → M (O σ τ β)} (hc : Xv en ce ρ m) (hX : X ρ) (hk : ∀ a S, SR1 E L ER X (sSeq (f (en a)) rest ρ S) (k a S)) : Sm E L ER X (sSeq (sEx ce f) rest) ρ (M.bind m k) := ⟨fun S => by
  have h := hc S
  unfold M.bind Res.bind
  cases q : m S with
  | ok a S' =>
    simp only [q, RS] at h ⊢
    have := hk a S'
    simp only [sSeq, sEx, h] at this ⊢
    exact this
  | exc n S' =>
    simp only [q, RS] at h ⊢
    refine ⟨ρ, ?_, hX⟩
    simp only [sSeq, sEx, h]
  | stuck => exact trivial⟩
section
variable {en : α → D} {ce : Ex} {m : M α} {k : α → M (O σ τ β)}
theorem t_set {ρ2 : α → Env} (hc : Xv en ce ρ m) (hX : X ρ) (hs : ∀ a, SetR ρ i (.fr (en a)) (ρ2 a)) (hk : ∀ a, Sm E L ER X rest (ρ2 a) (k a)) : Sm E L ER X (sSeq (sSet i ce) rest) ρ (M.bind m k) :=
  t_ex hc hX fun a S => by
    have := (hk a).run S
    simp only [sSeq, (hs a).eq]
    exact this
theorem t_setN {ρ2 : α → Env} (hc : Xv en ce ρ m) (hX : X ρ) (hs : ∀ a, SetR ρ i (.ow (en a)) (ρ2 a)) (hk : ∀ a, Sm E L ER X rest (ρ2 a) (k a)) : Sm E L ER X (sSeq (sSetN i ce) rest) ρ (M.bind m k) :=
  t_ex hc hX fun a S => by
    have := (hk a).run S
    simp only [sSeq, (hs a).eq]
    exact this
theorem t_drop (hc : Xv en ce ρ m) (hX : X ρ) (hk : ∀ a, Sm E L ER X rest ρ (k a)) : Sm E L ER X (sSeq (sDrop ce) rest) ρ (M.bind m k) :=
  t_ex hc hX fun a S => (hk a).run S
theorem t_ret {eb : β → D} {m : M β} (hc : Xv eb ce ρ m) (hX : X ρ) (hR : ∀ b, ER b (.fr (eb b))) : Sm E L ER X (sSeq (sRet ce) rest) ρ (M.bind m fun b => M.pure (.rt b)) :=
  t_ex hc hX fun a S => ⟨_, rfl, hR a⟩
theorem t_retN {eb : β → D} {m : M β} (hc : Xv eb ce ρ m) (hX : X ρ) (hR : ∀ b, ER b (.ow (eb b))) : Sm E L ER X (sSeq (sRetN ce) rest) ρ (M.bind m fun b => M.pure (.rt b)) :=
  t_ex hc hX fun a S => ⟨_, rfl, hR a⟩
theorem t_retVo {eb : β → D} {x : β} (h : Nth ρ i (.ow (eb x))) (hR : ER x (.ow (eb x))) : Sm E L ER X (sSeq (sRetV i) rest) ρ (M.pure (.rt x)) := ⟨fun S => by
  refine ⟨.ow (eb x), ?_, hR⟩
  simp only [sSeq, sRetV, h.eq]⟩
theorem t_cnt {t : τ} (h : ρ = L t := by rfl) : Sm E L ER X (sSeq sCnt rest) ρ (M.pure (.ct t)) := ⟨fun S => by subst h; exact rfl⟩
theorem t_raise {n : Nat} (hX : X ρ) : Sm E L ER X (sSeq (sRaise n) rest) ρ (M.exc n) := ⟨fun S => ⟨ρ, rfl, hX⟩⟩
end
section
variable {tc : Tx} {x : Bool} {mx : M Bool} {ma mb : M (O σ τ β)} {na nb : M (O σ' τ β)}
theorem t_if (hc : Xv id tc ρ mx) (hX : X ρ) (ha : Sm E L ER X (sSeq a rest) ρ ma) (hb : Sm E L ER X (sSeq b rest) ρ mb) : Sm E L ER X (sSeq (sIf tc a b) rest) ρ (M.bind mx fun x => if x = true then ma else mb) :=
  t_ex hc hX fun x S => by
    cases x
    · exact hb.run S
    · exact ha.run S
theorem t_ifP (hc : Pv id tc ρ x) (ha : Sm E L ER X (sSeq a rest) ρ ma) (hb : Sm E L ER X (sSeq b rest) ρ mb) : Sm E L ER X (sSeq (sIf tc a b) rest) ρ (if x = true then ma else mb) := ⟨fun S => by
  have h := hc S
  have : sSeq (sIf tc a b) rest ρ S = sSeq (if x = true then a else b) rest ρ S := by
    simp only [sSeq, sIf, sEx, h, id]; cases x <;> rfl
  rw [this]
  cases x
  · exact hb.run S
  · exact ha.run S⟩
theorem t_seq (ha : Sm E' L ER X a ρ na) {k : σ' → M (O σ τ β)} (hk : ∀ s, Sm E L ER X rest (E' s) (k s)) : Sm E L ER X (sSeq a rest) ρ (bindO na k) := ⟨fun S => by
  have h := ha.run S
  unfold bindO M.bind Res.bind
  cases q : na S with
  | ok o S' =>
    cases o with
    | nx s =>
      simp only [q, SR1] at h ⊢
      have := (hk s).run S'
      simp only [sSeq, h]
      exact this
    | bk s => simp only [q, SR1] at h ⊢; simp only [sSeq, h]; exact rfl
    | ct s => simp only [q, SR1] at h ⊢; simp only [sSeq, h]; exact rfl
    | rt b =>
      simp only [q, SR1] at h ⊢
      obtain ⟨v, h1, h2⟩ := h
      exact ⟨v, by simp only [sSeq, h1], h2⟩
  | exc n S' =>
    simp only [q, SR1] at h ⊢
    obtain ⟨ρ', h1, h2⟩ := h
    exact ⟨ρ', by simp only [sSeq, h1], h2⟩
  | stuck => exact trivial⟩
theorem t_if1 (hc : Xv id tc ρ mx) (hX : X ρ) (ha : Sm E L ER X a ρ ma) (hb : Sm E L ER X b ρ mb) : Sm E L ER X (sIf tc a b) ρ (M.bind mx fun x => if x = true then ma else mb) := ⟨fun S => by
  have h := hc S
  unfold M.bind Res.bind
  cases q : mx S with
  | ok k S' =>
    simp only [q, RS, id] at h ⊢
    unfold sIf sEx
    rw [h]
    cases k
    · exact hb.run S'
    · exact ha.run S'
  | exc n S' =>
    simp only [q, RS] at h ⊢
    refine ⟨ρ, ?_, hX⟩
    simp only [sIf, sEx, h]
  | stuck => exact trivial⟩
theorem t_ifP1 (hc : Pv id tc ρ x) (ha : Sm E L ER X a ρ ma) (hb : Sm E L ER X b ρ mb) : Sm E L ER X (sIf tc a b) ρ (if x = true then ma else mb) := ⟨fun S => by
  have h := hc S
  unfold sIf sEx
  rw [h]
  simp only [id]
  cases x
  · exact hb.run S
  · exact ha.run S⟩
end
section
variable {en : α → D} {eb' : γ → D} {ce ci : Ex}
theorem t_aug {f : D → D → Option D} {xv : α} {g : γ → α} {m : M γ} {k : α → M (O σ τ β)} {ρ2 : α → Env} (h : Nth ρ i (.fr (en xv))) (hc : Xv eb' ce ρ m) (hX : X ρ) (hf : ∀ z, f (en xv) (eb' z) = some (en (g z))) (hs : ∀ a, SetR ρ i (.fr (en a)) (ρ2 a)) (hk : ∀ a, Sm E L ER X rest (ρ2 a) (k a)) : Sm E L ER X (sSeq (sAug i f ce) rest) ρ (M.bind m fun z => M.bind (M.pure (g z)) k) := ⟨fun S => by
  have q := hc S
  unfold M.bind Res.bind M.pure
  cases e : m S with
  | ok z S' =>
    simp only [e, RS] at q ⊢
    have := (hk (g z)).run S'
    simp only [sSeq, sAug, h.eq, sEx, q, hf, (hs (g z)).eq]
    exact this
  | exc n S' =>
    simp only [e, RS] at q ⊢
    exact ⟨ρ, by simp only [sSeq, sAug, h.eq, sEx, q], hX⟩
  | stuck => exact trivial⟩
def gApp (xs : List α) (x : α) : Option (List α) := if xs.length < 1000000 then some (xs ++ [x]) else none
theorem t_app {xs : List α} {m : M α} {k : List α → M (O σ τ β)} {ρ2 : List α → Env} (h : Nth ρ i (.ow (eL en xs))) (hc : Xv en ce ρ m) (hX : X ρ) (hs : ∀ a, SetR ρ i (.ow (eL en a)) (ρ2 a)) (hk : ∀ a, Sm E L ER X rest (ρ2 a) (k a)) : Sm E L ER X (sSeq (sLm i lAppend (aCons ce aNil)) rest) ρ (M.bind m fun x => M.bind (M.opt (gApp xs x)) k) := ⟨fun S => by
  have q := hc S
  unfold M.bind Res.bind
  cases e : m S with
  | ok z S' =>
    simp only [e, RS] at q ⊢
    unfold M.opt gApp
    by_cases hl : xs.length < 1000000
    · have := (hk (xs ++ [z])).run S'
      simp only [hl, if_true]
      have hs' := (hs (xs ++ [z])).eq
      simp only [eL, List.map_append, List.map_cons, List.map_nil] at hs'
      simp only [sSeq, sLm, h.eq, eL, sEx, aCons, aNil, q, Res.bind, lAppend, List.length_map, hl, if_true, hs']
      exact this
    · simp only [hl, if_false]; exact trivial
  | exc n S' =>
    simp only [e, RS] at q ⊢
    exact ⟨ρ, by simp only [sSeq, sLm, h.eq, eL, sEx, aCons, q, Res.bind], hX⟩
  | stuck => exact trivial⟩
def gFld (fl : FTab) (f : Str) (me x : D) : Option D := match me with
  | .obj c fs => if fl c f = true ∧ fs.length < 1000 then some (.obj c (pD f x fs)) else none
  | _ => none
theorem t_fldMe {fl : FTab} {f : Str} {me : D} {m : M α} {k : D → M (O σ τ β)} {ρ2 : D → Env} (h : Nth ρ i (.me (iN me))) (hc : Xv en ce ρ m) (hX : X ρ) (hs : ∀ a, SetR ρ i (.me (iN a)) (ρ2 a)) (hk : ∀ a, Sm E L ER X rest (ρ2 a) (k a)) : Sm E L ER X (sSeq (sFldMe fl i f ce) rest) ρ (M.bind m fun x => M.bind (M.opt (gFld fl f me (en x))) k) :=
  t_ex hc hX fun x S => by
    unfold M.bind Res.bind M.opt gFld
    cases me with
    | obj cx fs =>
      by_cases hg : fl cx f = true ∧ fs.length < 1000
      · simp only [hg, and_self, if_true]
        have := (hk (.obj cx (pD f (en x) fs))).run S
        have hs' := (hs (.obj cx (pD f (en x) fs))).eq
        simp only [iN, id] at hs'
        simp only [sSeq, h.eq, iN, id, hg, and_self, if_true, hs']
        exact this
      · simp only [hg, if_false]; exact trivial
    | _ => exact trivial
end
theorem for_core {ei : α → D} {tg : Tgt} {body : Stm} {f : α → τ' → M (O τ' τ' β)} {B : α → τ' → Env} (ht : ∀ x s, tg (ei x) (L' s) = some (B x s)) (hb : ∀ x s, Sm L' L' ER X body (B x s) (f x s)) : ∀ (xs : List α) (s : τ') (S : Store), SR1 L' L ER X (forS tg body (xs.map ei) (L' s) S) (forO (τ' := τ) f xs s S)
  | [], s, S => rfl
  | x :: xs, s, S => by
    simp only [List.map_cons, forS, ht x s]
    unfold forO M.bind Res.bind
    have h := (hb x s).run S
    cases q : f x s S with
    | ok o S' =>
      cases o <;> simp only [q, SR1] at h ⊢
      · rw [h]; exact for_core ht hb xs _ S'
      · rw [h]; exact rfl
      · rw [h]; exact for_core ht hb xs _ S'
      · obtain ⟨v, h1, h2⟩ := h
        rw [h1]
        exact ⟨v, rfl, h2⟩
    | exc n S' =>
      simp only [q, SR1] at h ⊢
      obtain ⟨ρ', h1, h2⟩ := h
      rw [h1]
      exact ⟨ρ', rfl, h2⟩
    | stuck => exact trivial
theorem seq_of {r : SR} {t : Res (O σ' τ β)} {k : σ' → M (O σ τ β)} (h : SR1 E' L ER X r t) (hk : ∀ s, Sm E L ER X rest (E' s) (k s)) : SR1 E L ER X (sSeq (fun _ _ => r) rest [] []) (t.bind fun o => match o with
  | .nx s => k s
  | .bk t => M.pure (.bk t)
  | .ct t => M.pure (.ct t)
  | .rt b => M.pure (.rt b)) := by
  cases t with
  | ok o S' =>
    cases o with
    | nx s => simp only [SR1] at h; subst h; exact (hk s).run S'
    | bk s => simp only [SR1] at h; subst h; exact rfl
    | ct s => simp only [SR1] at h; subst h; exact rfl
    | rt b =>
      simp only [SR1] at h
      obtain ⟨v, rfl, h2⟩ := h
      exact ⟨v, rfl, h2⟩
  | exc n S' =>
    simp only [SR1] at h
    obtain ⟨ρ', rfl, h2⟩ := h
    exact ⟨ρ', rfl, h2⟩
  | stuck => exact trivial
theorem t_for {ei : α → D} {ci : Ix} {tg : Tgt} {body : Stm} {f : α → τ' → M (O τ' τ' β)} {B : α → τ' → Env} {mi : M (List α)} {s0 : τ'} {k : τ' → M (O σ τ β)} (hi : Xv (List.map ei) ci ρ mi) (hX : X ρ) (h0 : ρ = L' s0) (ht : ∀ x s, tg (ei x) (L' s) = some (B x s)) (hb : ∀ x s, Sm L' L' ER X body (B x s) (f x s)) (hk : ∀ s, Sm E L ER X rest (L' s) (k s)) : Sm E L ER X (sSeq (sFor ci tg body) rest) ρ (M.bind mi fun xs => bindO (forO f xs s0) k) :=
  t_ex hi hX fun xs S => by
    subst h0
    exact seq_of (for_core ht hb xs s0 S) hk
abbrev XT : Env → Prop := fun _ => True
theorem t_fn {eb : β → D} {m : Fn} {bm : List Bool} {n : Nat} {ds : List D} {mo : M (O Unit Unit β)} {dv : Option β} {Ef : Unit → Env} {Lf : Unit → Env} (hm : m = mkFn bm n c) (hs : StartR bm ds n ρ) (hd : ∀ d, dv = some d → eb d = .non) (h : Sm Ef Lf (RF eb) XT c ρ mo) : FnT eb m ds (runO dv mo) := fun S => by
  subst hm
  have h := h.run S
  unfold mkFn runO M.bind Res.bind
  rw [hs.eq]
  cases q : mo S with
  | ok o S' =>
    cases o <;> simp only [q, SR1] at h ⊢
    · rw [h]
      unfold M.opt
      cases e : dv with
      | none => exact trivial
      | some d => simp only [RS, fin, resF, hd d e]
    · exact trivial
    · exact trivial
    · obtain ⟨v, h1, h2⟩ := h
      rw [h1]
      rcases h2 with rfl | rfl <;> exact rfl
  | exc n S' =>
    simp only [q, SR1] at h ⊢
    obtain ⟨ρ', h1, h2⟩ := h
    rw [h1]
    exact rfl
  | stuck => exact trivial
theorem t_fnN {eb : β → D} {m : Fn} {bm : List Bool} {n : Nat} {ds : List D} {mo : M (O Unit Unit β)} {Ef : Unit → Env} {Lf : Unit → Env} (hm : m = mkFn bm n c) (hs : StartR bm ds n ρ) (h : Sm Ef Lf (RN eb) XT c ρ mo) : FnN eb m ds (runO none mo) := fun S => by
  subst hm
  have h := h.run S
  unfold mkFn runO M.bind Res.bind
  rw [hs.eq]
  cases q : mo S with
  | ok o S' =>
    cases o <;> simp only [q, SR1] at h ⊢
    · exact trivial
    · exact trivial
    · exact trivial
    · obtain ⟨v, h1, h2⟩ := h
      rw [h1, h2]
      exact rfl
  | exc n S' =>
    simp only [q, SR1] at h ⊢
    obtain ⟨ρ', h1, h2⟩ := h
    rw [h1]
    exact rfl
  | stuck => exact trivial
def runI (m : M (O D Unit Unit)) : M D := M.bind m fun o => match o with
  | .nx s => M.pure s
  | _ => M.stuck
theorem t_ini {m : Ini} {bm : List Bool} {n k : Nat} {ds : List D} {mo : M (O D Unit Unit)} {Ef : D → Env} {Lf : Unit → Env} (hm : m = mkIni bm n c) (hs : StartR bm ds n ρ) (hE : ∀ d, Nth (Ef d) 0 (.me (iN d))) (h : Sm Ef Lf (RF iU) XT c (.me (iN (.obj k [])) :: ρ) mo) : FnI iN (m k) ds (runI mo) := fun S => by
  subst hm
  have h := h.run S
  unfold mkIni runI M.bind Res.bind
  rw [hs.eq]
  simp only [iN, id] at h
  cases q : mo S with
  | ok o S' =>
    cases o <;> simp only [q, SR1] at h ⊢
    · rename_i d
      rw [h]
      simp only [(hE d).eq, iN, id]
      exact rfl
    · exact trivial
    · exact trivial
    · exact trivial
  | exc n S' =>
    simp only [q, SR1] at h ⊢
    obtain ⟨ρ', h1, h2⟩ := h
    rw [h1]
    exact rfl
  | stuck => exact trivial
end
theorem t_let {α β σ τ : Type} {E : σ → Env} {L : τ → Env} {ER : β → Val → Prop} {X : Env → Prop} {c : Stm} {a : α} {k : α → M (O σ τ β)} {ρ2 : α → Env} (h : ∀ x, Sm E L ER X c (ρ2 x) (k x)) : Sm E L ER X c (ρ2 a) (M.bind (M.pure a) k) := h a
theorem rf_fr {β : Type} {e : β → D} (b : β) : RF e b (.fr (e b)) := .inl rfl
theorem rf_ow {β : Type} {e : β → D} (b : β) : RF e b (.ow (e b)) := .inr rfl
theorem rn_ow {β : Type} {e : β → D} (b : β) : RN e b (.ow (e b)) := rfl
end PM
set_option maxHeartbeats 1000000
namespace PM
open PySem PySem.Spec PyProof.Rows L2
section
variable {α β : Type} {e : α → D} {xs : List α} {ρ : Env} {i : Nat} {ea : α → D} {d : D}
theorem up_L : eL e xs = eL iN (xs.map e) := by simp [eL, iN]
theorem x_iBcastb {u : D → Option (List α)} (hu : Un (eL ea) u) (h : Nth ρ i (.bo (iN d))) : Xv (List.map ea) (iB i) ρ (M.opt (u d)) := fun S => by
  unfold M.opt
  cases q : u d with
  | none => exact trivial
  | some xs =>
    have := hu.back _ _ q
    subst this
    simp only [iB, h.eq, iN, id, eL]
    exact rfl
end
end PM
namespace PM
open PySem PySem.Spec PyProof.Rows L2
theorem law_by {m : Fn} {ns : List Int} {g : M Bool} (h : FnT D.bl m [.scr ns] g) (hg : ∃ S, g [] = .ok true S) : ∃ S, resF (m [.scr ns] []) = .ok (.bl true) S := by
  obtain ⟨S, e⟩ := hg
  have := h []
  rw [e] at this
  exact ⟨S, this⟩
end PM
set_option maxHeartbeats 1000000
namespace PM
open PySem PySem.Spec PyProof.Rows L2
section
variable {α β γ δ σ σ' τ τ' : Type}
def Ret (m : M α) (P : α → Prop) : Prop := ∃ a, m = M.pure a ∧ P a
theorem Ret.pure {a : α} {P : α → Prop} (h : P a) : Ret (M.pure a) P := ⟨a, rfl, h⟩
theorem Ret.bind {m : M α} {k : α → M β} {P : α → Prop} {Q : β → Prop} (h : Ret m P) (hk : ∀ a, P a → Ret (k a) Q) : Ret (M.bind m k) Q := by
  obtain ⟨a, rfl, ha⟩ := h
  exact hk a ha
theorem Ret.mono {m : M α} {P Q : α → Prop} (h : Ret m P) (hq : ∀ a, P a → Q a) : Ret m Q := by
  obtain ⟨a, rfl, ha⟩ := h
  exact ⟨a, rfl, hq a ha⟩
theorem Ret.eq {m : M α} {a : α} (h : Ret m fun b => b = a) : m = M.pure a := by
  obtain ⟨b, rfl, rfl⟩ := h
  rfl
theorem Ret.of {m : M α} {a : α} {P : α → Prop} (h : m = M.pure a) (hp : P a) : Ret m P := ⟨a, h, hp⟩
theorem Ret.opt {o : Option α} {a : α} {P : α → Prop} (h : o = some a) (hp : P a) : Ret (M.opt o) P := by subst h; exact ⟨a, rfl, hp⟩
theorem Ret.ite {c : Prop} [Decidable c] {a b : M α} {P : α → Prop} (ha : c → Ret a P) (hb : ¬ c → Ret b P) : Ret (if c then a else b) P := by
  split
  · exact ha ‹_›
  · exact hb ‹_›
theorem Ret.bindO {m : M (O σ τ β)} {k : σ → M (O σ' τ β)} {P : σ → Prop} {Q : O σ' τ β → Prop} (h : Ret m fun o => ∃ s, o = .nx s ∧ P s) (hk : ∀ s, P s → Ret (k s) Q) : Ret (PM.bindO m k) Q := by
  obtain ⟨o, rfl, s, rfl, hs⟩ := h
  exact hk s hs
theorem Ret.runO {d : Option β} {m : M (O Unit Unit β)} {P : β → Prop} (h : Ret m fun o => ∃ b, o = .rt b ∧ P b) : Ret (PM.runO d m) P := by
  obtain ⟨o, rfl, b, rfl, hb⟩ := h
  exact ⟨b, rfl, hb⟩
theorem Ret.for {f : α → τ → M (O τ τ β)} {xs : List α} {s0 : τ} {Q : O τ τ' β → Prop} (I : List α → τ → Prop) (h0 : I [] s0)
    (hs : ∀ pre x post s, xs = pre ++ x :: post → I pre s → Ret (f x s) fun o => (∃ s', (o = .nx s' ∨ o = .ct s') ∧ I (pre ++ [x]) s') ∨ (∃ s', o = .bk s' ∧ Q (.nx s')) ∨ ∃ b, o = .rt b ∧ Q (.rt b))
    (hd : ∀ s, I xs s → Q (.nx s)) : Ret (forO f xs s0) Q := by
  have go : ∀ (post pre : List α) (s : τ), xs = pre ++ post → I pre s → Ret (forO (τ' := τ') f post s) Q := by
    intro post
    induction post with
    | nil =>
      intro pre s e hI
      rw [List.append_nil] at e
      subst e
      exact ⟨_, rfl, hd s hI⟩
    | cons x post ih =>
      intro pre s e hI
      obtain ⟨o, ho, h⟩ := hs pre x post s e hI
      unfold forO
      rw [ho]
      rcases h with ⟨s', rfl | rfl, h⟩ | ⟨s', rfl, h⟩ | ⟨b, rfl, h⟩
      · exact ih (pre ++ [x]) s' (by simp [e]) h
      · exact ih (pre ++ [x]) s' (by simp [e]) h
      · exact ⟨_, rfl, h⟩
      · exact ⟨_, rfl, h⟩
  exact go xs [] s0 rfl h0
theorem Ret.for1 {f : α → τ → M (O τ τ β)} {xs : List α} {s0 : τ} {P : τ → Prop} (I : List α → τ → Prop) (h0 : I [] s0)
    (hs : ∀ pre x post s, xs = pre ++ x :: post → I pre s → Ret (f x s) fun o => ∃ s', o = .nx s' ∧ I (pre ++ [x]) s')
    (hd : ∀ s, I xs s → P s) : Ret (forO (τ' := τ') f xs s0) fun o => ∃ s, o = .nx s ∧ P s :=
  Ret.for I h0 (fun pre x post s e h => (hs pre x post s e h).mono fun o ⟨s', e', h'⟩ => .inl ⟨s', .inl e', h'⟩) fun s h => ⟨s, rfl, hd s h⟩
theorem Ret.forR {f : Int → τ → M (O τ τ β)} {lo : Int} {n : Nat} {s0 : τ} {P : τ → Prop} (I : Nat → τ → Prop) (h0 : I 0 s0)
    (hs : ∀ k s, k < n → I k s → Ret (f (lo + (k : Int)) s) fun o => ∃ s', o = .nx s' ∧ I (k + 1) s')
    (hd : ∀ s, I n s → P s) : Ret (forO (τ' := τ') f (rngI lo n) s0) fun o => ∃ s, o = .nx s ∧ P s := by
  refine Ret.for1 (fun pre s => I pre.length s) h0 ?_ ?_
  · intro pre x post s e hI
    have hl := congrArg List.length e
    simp only [rngI, List.length_map, List.length_range, List.length_append, List.length_cons] at hl
    have hx : (rngI lo n)[pre.length]? = some x := by rw [e]; simp
    simp only [rngI, List.getElem?_map, List.getElem?_range (show pre.length < n by omega), Option.map_some, Option.some.injEq] at hx
    subst hx
    refine (hs _ s (by omega) hI).mono fun o ⟨s', e', h'⟩ => ⟨s', e', by simpa using h'⟩
  · intro s h
    simp only [rngI, List.length_map, List.length_range] at h
    exact hd s h
theorem Ret.forN {f : α → τ → M (O τ τ β)} {xs : List α} {s0 : τ} {P : τ → Prop} (I : Nat → τ → Prop) (h0 : I 0 s0)
    (hs : ∀ k x s, xs[k]? = some x → I k s → Ret (f x s) fun o => ∃ s', o = .nx s' ∧ I (k + 1) s')
    (hd : ∀ s, I xs.length s → P s) : Ret (forO (τ' := τ') f xs s0) fun o => ∃ s, o = .nx s ∧ P s := by
  refine Ret.for1 (fun pre s => I pre.length s) h0 ?_ hd
  intro pre x post s e hI
  refine (hs pre.length x s (by rw [e]; simp) hI).mono fun o ⟨s', e', h'⟩ => ⟨s', e', by simpa using h'⟩
theorem for_all {f : α → Unit → M (O Unit Unit β)} {p : α → Bool} {b : β} : ∀ {xs : List α}, (∀ x ∈ xs, f x () = M.pure (if p x = true then .nx () else .rt b)) → forO (τ' := τ') f xs () = M.pure (if xs.all p = true then .nx () else .rt b)
  | [], _ => rfl
  | x :: xs, h => by
    have ih := @for_all f p b xs fun y hy => h y (List.mem_cons_of_mem _ hy)
    unfold forO
    rw [h x (by simp), List.all_cons]
    cases p x with
    | true => rw [Bool.true_and]; exact ih
    | false => rfl
theorem lc_go {t : α → M Bool} {e : α → M β} {p : α → Bool} {g : α → β} : ∀ {xs : List α} {acc : List β}, (∀ x ∈ xs, t x = M.pure (p x) ∧ (p x = true → e x = M.pure (g x))) → acc.length + xs.length ≤ 1000000 → lcO t e xs acc = M.pure (acc ++ (xs.filter p).map g)
  | [], acc, _, _ => by unfold lcO; simp
  | x :: xs, acc, h, hl => by
    simp only [List.length_cons] at hl
    obtain ⟨h1, h2⟩ := h x (by simp)
    unfold lcO
    rw [h1, M.noexc_pure, M.pure_bind]
    cases q : p x with
    | true =>
      rw [if_pos rfl, h2 q, M.noexc_pure, M.pure_bind, if_pos (by omega), lc_go (fun y hy => h y (by simp [hy])) (by simp; omega)]
      simp [List.filter_cons, q]
    | false =>
      rw [if_neg (by simp), lc_go (fun y hy => h y (by simp [hy])) (by omega)]
      simp [List.filter_cons, q]
theorem lc_filt {t : α → M Bool} {e : α → M β} (p : α → Bool) (g : α → β) {xs : List α} (h : ∀ x ∈ xs, t x = M.pure (p x) ∧ (p x = true → e x = M.pure (g x))) (hl : xs.length ≤ 1000000) : lcO t e xs [] = M.pure ((xs.filter p).map g) := by
  rw [lc_go h (by simpa using hl)]; rfl
theorem lc_map' {e : α → M β} (g : α → β) {xs : List α} (h : ∀ x ∈ xs, e x = M.pure (g x)) (hl : xs.length ≤ 1000000) : lcO (fun _ => M.pure true) e xs [] = M.pure (xs.map g) := by
  rw [lc_filt (fun _ => true) g (fun x hx => ⟨rfl, fun _ => h x hx⟩) hl, List.filter_eq_self.mpr (by simp)]
theorem Ret.lc {e : α → M β} {P : β → Prop} {xs : List α} (h : ∀ x ∈ xs, Ret (e x) P) (hl : xs.length ≤ 1000000) : Ret (lcO (fun _ => M.pure true) e xs []) fun ys => ys.length = xs.length ∧ ∀ y ∈ ys, P y := by
  have go : ∀ (xs : List α) (acc : List β), (∀ x ∈ xs, Ret (e x) P) → acc.length + xs.length ≤ 1000000 → (∀ y ∈ acc, P y) → Ret (lcO (fun _ => M.pure true) e xs acc) fun ys => ys.length = acc.length + xs.length ∧ ∀ y ∈ ys, P y := by
    intro xs
    induction xs with
    | nil => intro acc _ _ ha; exact ⟨acc, rfl, by simp, ha⟩
    | cons x xs ih =>
      intro acc h hl ha
      simp only [List.length_cons] at hl
      obtain ⟨y, hy, hp⟩ := h x (by simp)
      unfold lcO
      rw [M.noexc_pure, M.pure_bind, if_pos rfl, hy, M.noexc_pure, M.pure_bind, if_pos (by omega)]
      refine (ih (acc ++ [y]) (fun z hz => h z (by simp [hz])) (by simp; omega) ?_).mono fun ys ⟨h1, h2⟩ => ⟨by simp at h1 ⊢; omega, h2⟩
      intro z hz
      rcases List.mem_append.mp hz with hz | hz
      · exact ha z hz
      · simp at hz; subst hz; exact hp
  exact (go xs [] h (by simpa using hl) (by simp)).mono fun ys ⟨h1, h2⟩ => ⟨by simpa using h1, h2⟩
theorem gR1_ok {j : Int} (h : -1000000000 ≤ j ∧ j ≤ 1000000000) : gR1 j = some (rngI 0 j.toNat) := by simp [gR1, h]
theorem gR3_ok {i j c : Int} (h : ((-1000000000 ≤ i ∧ i ≤ 1000000000) ∧ -1000000000 ≤ j ∧ j ≤ 1000000000) ∧ 0 < c ∧ c ≤ 1000000000) : gR3 i j c = some (rngIC i c (stepN i j c)) := by simp [gR3, h]
theorem gMod_ok {i j : Int} (h : 0 < j) : gMod i j = some (i % j) := by simp [gMod, h]
theorem gMul_okR {i j : Int} (h : -(2 ^ 64) < j ∧ j < 2 ^ 64) : gMul i j = some (i * j) := by
  unfold gMul cMul; rw [if_pos (decide_eq_true (.inr h))]
theorem gCatS_ok {x y : Str} (h : x.length + y.length ≤ 1000000) : gCatS x y = some (x ++ y) := by simp [gCatS, h]
theorem gCatL_ok {x y : List α} (h : x.length + y.length ≤ 1000000) : gCatL x y = some (x ++ y) := by simp [gCatL, h]
theorem gLenS_ok {x : Str} (h : x.length ≤ 1000000) : gLenS x = some (x.length : Int) := by simp [gLenS, h]
theorem gCutS_ok {x : Str} {lo hi : Option Int} (h : x.length ≤ 1000000) : gCutS x lo hi = some (cutS x lo hi) := by simp [gCutS, h]
theorem gApp_ok {xs : List α} {x : α} (h : xs.length < 1000000) : gApp xs x = some (xs ++ [x]) := by simp [gApp, h]
theorem gIx_ok {xs : List α} {i : Int} {n : Nat} (hi : i = (n : Int)) (h : n < xs.length) : gIx xs i = some xs[n] := by
  unfold gIx L2.atI
  rw [ixN_of hi h, Option.bind_some, List.getElem?_eq_getElem h]
theorem gIx_getD {xs : List α} {i : Int} (d : α) (h : 0 ≤ i ∧ i < xs.length) : gIx xs i = some (xs.getD i.toNat d) := by
  have h2 : i.toNat < xs.length := by omega
  rw [gIx_ok (n := i.toNat) (by omega) h2, List.getD_eq_getElem?_getD, List.getElem?_eq_getElem h2]; rfl
theorem gIx_some {xs : List α} {i : Int} {n : Nat} {x : α} (hi : i = (n : Int)) (h : xs[n]? = some x) : gIx xs i = some x := by
  have h2 := (List.getElem?_eq_some_iff.mp h).1
  rw [gIx_ok hi h2]
  rw [List.getElem?_eq_getElem h2] at h
  exact h
theorem gIxS_ok {x : Str} {i : Int} (h : 0 ≤ i ∧ i < x.length ∧ x.length ≤ 1000000) : gIxS x i = some ((Sl x).getD i.toNat 0) := by
  unfold gIxS
  rw [if_pos h.2.2]
  exact gIx_getD 0 ⟨h.1, by rw [Sl_len]; exact h.2.1⟩
theorem told {e : α → D} {u : D → Option α} (h : Un e u) {a : α} : u (e a) = some a := h.told a
@[simp] theorem uI_told {i : Int} : uI (.int i) = some i := rfl
@[simp] theorem uS_told {i : Str} : uS (.str i) = some i := rfl
@[simp] theorem uB_told {i : Bool} : uB (.bl i) = some i := rfl
@[simp] theorem uN_told : uN .non = some () := rfl
@[simp] theorem uLS_told {xs : List Str} : uL uS (.lst (xs.map .str)) = some xs := (unL unS).told xs
@[simp] theorem uLI_told {xs : List Int} : uL uI (.lst (xs.map .int)) = some xs := (unL unI).told xs
@[simp] theorem uLSI_told {xs : List (Str × Int)} : uL (uP2 uS uI) (.lst (xs.map (eP2 .str .int))) = some xs := (unL (unP2 unS unI)).told xs
@[simp] theorem uLL_told {xs : List (List Str)} : uL (uL uS) (.lst (xs.map (eL .str))) = some xs := (unL (unL unS)).told xs
@[simp] theorem uAny_told {xs : List D} : uL some (.lst xs) = some xs := by
  have := (unL unAny).told xs
  simpa [eL, iN] using this
@[simp] theorem uTAny_told {xs : List D} : uTL some (.tup xs) = some xs := by
  have := (unTL unAny).told xs
  simpa [eTL, iN] using this
end
section
variable {α β γ σ σ' τ τ' : Type}
def WP (m : M α) (S : Store) (Q : α → Store → Prop) (E : Nat → Store → Prop) : Prop := match m S with
  | .ok a S' => Q a S'
  | .exc n S' => E n S'
  | .stuck => False
theorem WP.pure {a : α} {S : Store} {Q : α → Store → Prop} {E : Nat → Store → Prop} (h : Q a S) : WP (M.pure a) S Q E := h
theorem WP.exc {n : Nat} {S : Store} {Q : α → Store → Prop} {E : Nat → Store → Prop} (h : E n S) : WP (M.exc n : M α) S Q E := h
theorem WP.bind {m : M α} {k : α → M β} {S : Store} {Q : β → Store → Prop} {E : Nat → Store → Prop} (h : WP m S (fun a S' => WP (k a) S' Q E) E) : WP (M.bind m k) S Q E := by
  unfold WP M.bind Res.bind at *
  cases q : m S <;> simp only [q] at h ⊢ <;> exact h
theorem WP.ret {m : M α} {P : α → Prop} {S : Store} {Q : α → Store → Prop} {E : Nat → Store → Prop} (h : Ret m P) (hq : ∀ a, P a → Q a S) : WP m S Q E := by
  obtain ⟨a, rfl, ha⟩ := h
  exact hq a ha
theorem WP.end {m : M Bool} (h : WP m [] (fun b _ => b = true) (fun _ _ => False)) : ∃ S, m [] = .ok true S := by
  unfold WP at h
  cases q : m [] <;> simp only [q] at h
  subst h
  exact ⟨_, rfl⟩
theorem Ret.end {m : M Bool} (h : Ret m fun b => b = true) : ∃ S, m [] = .ok true S := by
  obtain ⟨b, rfl, rfl⟩ := h
  exact ⟨[], rfl⟩
end
end PM
set_option maxHeartbeats 1000000
namespace PM
open PySem PySem.Spec PyProof.Rows L2
section
variable {α β γ δ ζ σ σ' τ τ' : Type} {ρ ρ1 : Env} {ca : Ex} {ea : α → D} {ez : ζ → D} {a : α} {ma : M α} {i : Nat} {cr : Ax} {ds : List D} {es : β → List D} {m : Fn} {g : M ζ} {gx : β → M ζ} {mb : M β}
def isXM (f : HTab) (d : D) : M Bool := match d with
  | .exn n => M.opt (f n)
  | _ => M.stuck
theorem isX_core {f : HTab} {d : D} {S : Store} (ha : ca ρ S = .ok d S) : RS D.bl (eIsX f ca ρ S) (isXM f d S) := by
  unfold eIsX
  rw [ha]
  cases d with
  | exn n =>
    cases q : f n with
    | none => simp only [isXM, q, M.opt]; exact trivial
    | some b => simp only [isXM, q, M.opt, Res.bind]; exact rfl
  | _ => exact trivial
theorem p_isX {f : HTab} {d : D} (ha : Pv iN ca ρ d) : Xv D.bl (eIsX f ca) ρ (isXM f d) := fun S => isX_core (ha S)
end
section
variable {α β γ σ σ' τ τ' : Type}
def tryO (hit : HTab) (m : M (O σ τ β)) (h : Nat → M (O σ τ β)) : M (O σ τ β) := fun S => match m S with
  | .exc n S' => (match hit n with
    | some true => (match h n S' with
      | .exc _ _ => .stuck
      | r => r)
    | some false => .exc n S'
    | none => .stuck)
  | r => r
def handsM (n : Nat) (S : Store) : List (HTab × M (O σ τ β)) → Res (O σ τ β)
  | [] => .exc n S
  | (hit, h) :: r => match hit n with
    | some true => (match h S with
      | .exc _ _ => .stuck
      | q => q)
    | some false => handsM n S r
    | none => .stuck
def tryOs (l : List (HTab × M (O σ τ β))) (m : M (O σ τ β)) : M (O σ τ β) := fun S => match m S with
  | .exc n S' => handsM n S' l
  | r => r
theorem tryO_exc (hit : HTab) (n : Nat) (h : Nat → M (O σ τ β)) (e : hit n = some true) : tryO hit (M.exc n) h = M.noexc (h n) := by
  funext S
  simp only [tryO, M.exc, e, M.noexc]
  cases h n S <;> rfl
theorem tryOs_pure (l : List (HTab × M (O σ τ β))) (o : O σ τ β) : tryOs l (M.pure o) = M.pure o := id rfl
variable {E : σ → Env} {L : τ → Env} {ER : β → Val → Prop} {X : Env → Prop} {ρ ρ1 : Env} {rest a b c body suite : Stm} {i : Nat} {m : M (O σ τ β)} {h : Nat → M (O σ τ β)}
theorem t_tryT {hit : HTab} {ρ2 : Nat → Env} (hb : Sm E L ER (fun r => r = ρ) body ρ m) (hX : X ρ) (hs : ∀ n, SetR ρ i (.fr (iN (.exn n))) (ρ2 n)) (hh : ∀ n, Sm E L ER XT suite (ρ2 n) (h n)) (hE : ∀ s, (E s).set i .un = E s) (hL : ∀ t, (L t).set i .un = L t) :
    Sm E L ER X (sTryT i hit body suite) ρ (tryO hit m h) := ⟨fun S => by
  have q := hb.run S
  unfold sTryT tryO
  cases e : m S with
  | ok o S' =>
    cases o with
    | nx s => simp only [e, SR1] at q ⊢; rw [q]
    | bk s => simp only [e, SR1] at q ⊢; rw [q]
    | ct s => simp only [e, SR1] at q ⊢; rw [q]
    | rt v =>
      simp only [e, SR1] at q ⊢
      obtain ⟨w, h1, h2⟩ := q
      exact ⟨w, by rw [h1], h2⟩
  | exc n S' =>
    simp only [e, SR1] at q ⊢
    obtain ⟨ρ', h1, h2⟩ := q
    subst h2
    rw [h1]
    simp only []
    cases e2 : hit n with
    | none => exact trivial
    | some k =>
      cases k with
      | false => exact ⟨ρ', rfl, hX⟩
      | true =>
        have q2 := (hh n).run S'
        have hs' := (hs n).eq
        simp only [iN, id] at hs'
        simp only [hs']
        cases e3 : h n S' with
        | ok o S2 =>
          cases o with
          | nx s => simp only [e3, SR1] at q2 ⊢; rw [q2]; simp only [hE]
          | bk s => simp only [e3, SR1] at q2 ⊢; rw [q2]; simp only [hL]
          | ct s => simp only [e3, SR1] at q2 ⊢; rw [q2]; simp only [hL]
          | rt v =>
            simp only [e3, SR1] at q2 ⊢
            obtain ⟨w, h1, h2⟩ := q2
            exact ⟨w, by rw [h1], h2⟩
        | exc n S2 => exact trivial
        | stuck => exact trivial
  | stuck => exact trivial⟩
inductive HdsT (E : σ → Env) (L : τ → Env) (ER : β → Val → Prop) (ρ : Env) : List (HTab × Stm) → List (HTab × M (O σ τ β)) → Prop
  | nil : HdsT E L ER ρ [] []
  | cons {hit : HTab} {s : Stm} {h : M (O σ τ β)} {l : List (HTab × Stm)} {l' : List (HTab × M (O σ τ β))} (hh : Sm E L ER XT s ρ h) (r : HdsT E L ER ρ l l') : HdsT E L ER ρ ((hit, s) :: l) ((hit, h) :: l')
theorem HdsT.run {n : Nat} {S : Store} (hX : X ρ) {l : List (HTab × Stm)} {l' : List (HTab × M (O σ τ β))} (h : HdsT E L ER ρ l l') : SR1 E L ER X (hands n ρ S l) (handsM n S l') := by
  induction h with
  | nil => exact ⟨ρ, rfl, hX⟩
  | @cons hit s h l l' hh r ih =>
    unfold hands handsM
    cases e : hit n with
    | none => exact trivial
    | some b =>
      cases b with
      | false => exact ih
      | true =>
        have q := hh.run S
        simp only []
        cases e2 : h S with
        | ok o S' =>
          cases o with
          | nx s => simp only [e2, SR1] at q ⊢; rw [q]
          | bk s => simp only [e2, SR1] at q ⊢; rw [q]
          | ct s => simp only [e2, SR1] at q ⊢; rw [q]
          | rt v =>
            simp only [e2, SR1] at q ⊢
            obtain ⟨w, h1, h2⟩ := q
            exact ⟨w, by rw [h1], h2⟩
        | exc n S' => exact trivial
        | stuck => exact trivial
end
section
variable {α β γ σ σ' τ τ' : Type}
variable {E : σ → Env} {L : τ → Env} {ER : β → Val → Prop} {X : Env → Prop} {ρ ρ1 : Env} {rest : Stm} {i : Nat} {en : α → D} {ce ci : Ex}
end
end PM
set_option maxHeartbeats 1000000
namespace PM
open PySem PySem.Spec PyProof.Rows L2
section
variable {α β γ κ : Type} {ρ : Env} {ca cb cc : Ex} {ek : κ → D} {ev : β → D}
end
section
variable {α β γ κ σ σ' τ τ' : Type}
variable {E : σ → Env} {L : τ → Env} {ER : γ → Val → Prop} {X : Env → Prop} {ρ ρ1 : Env} {rest : Stm} {i : Nat} {ek : κ → D} {ev : β → D} {ce ci : Ex}
end
end PM
set_option maxHeartbeats 1000000
namespace PM
open PySem PySem.Spec PyProof.Rows L2
section
variable {α : Type} {ρ : Env} {ca : Ex} {e : α → D}
end
end PM
set_option maxHeartbeats 1000000
namespace PM
open PySem PySem.Spec PyProof.Rows L2
section
variable {α : Type} {ρ : Env} {co ce : Ex}
def gJoin (a : Str) (ys : List Str) : Option Str := if (ys.map (·.length)).sum + ys.length * a.length ≤ 16777216 then some (Txt.join a ys) else none
theorem joinD_g (a : Str) (ys : List Str) : joinD a (ys.map D.str) = (gJoin a ys).map D.str := by
  unfold joinD gJoin
  rw [strsOf_map, Option.bind_some]
  split <;> rfl
theorem x_joinL {mo : M Str} {me : M (List Str)} (ho : Xv D.str co ρ mo) (he : Xv (eL D.str) ce ρ me) : Xv D.str (eJoin co ce) ρ (M.bind mo fun a => M.bind me fun ys => M.opt (gJoin a ys)) := fun S =>
  RS.bind (ho S) fun a S1 => RS.bind (he S1) fun ys S2 => by
    unfold M.opt
    simp only [eL, joinD_g]
    cases gJoin a ys with
    | none => exact trivial
    | some z => exact rfl
theorem x_split {mo me : M Str} (ho : Xv D.str co ρ mo) (he : Xv D.str ce ρ me) : Xv (eL D.str) (eSplit co ce) ρ (M.bind mo fun a => M.bind me fun b => M.opt (splitD a b)) := fun S =>
  RS.bind (ho S) fun a S1 => RS.bind (he S1) fun b S2 => by
    unfold M.opt
    simp only [eL]
    cases splitD a b with
    | none => exact trivial
    | some z => exact rfl
end
section
variable {α β γ σ τ : Type} {E : σ → Env} {L : τ → Env} {ER : γ → Val → Prop} {X : Env → Prop} {ρ : Env}
end
end PM
set_option maxHeartbeats 1000000
namespace PM
open PySem PySem.Spec PyProof.Rows L2
theorem SetR.some : ∀ {l l' : Env} {n : Nat} {s : Slot}, SetR l n s l' → ∃ a, l[n]? = some a
  | _, _, _, _, .z => ⟨_, rfl⟩
  | _, _, _, _, .s h => by
    obtain ⟨a, e⟩ := SetR.some h
    exact ⟨a, by simpa using e⟩
section
variable {α β γ σ σ' τ τ' : Type} {en : α → D} {eb : β → D} {ρ ρ1 ρj ρi : Env} {ce c : Ex} {tc : Tx} {i j : Nat} {xss : List (List α)}
section
variable {own : List Nat} {ci : Ix} {tg : Tgt} {tt : Tx} {elt : Ex} {ei : γ → D} {t : γ → M Bool} {fe : γ → M (List α)} {ρw : Env} {ρx : γ → Env}
end
variable {E : σ → Env} {L : τ → Env} {ER : β → Val → Prop} {X : Env → Prop} {rest : Stm} {k : List (List α) → M (O σ τ β)}
end
end PM
set_option maxHeartbeats 1000000
namespace PM
open PySem PySem.Spec PyProof.Rows L2
section
variable {α β : Type} {eb : β → D} {ρ ρ1 ρ2 ρw : Env} {c : Ex} {tc : Tx} {i j : Nat} {v : D}
end
end PM
set_option maxHeartbeats 1000000
namespace PM
open PySem PySem.Spec PyProof.Rows L2
section
variable {ζ : Type} {e : ζ → D} {m : Fn} {ds : List D}
end
end PM
set_option maxHeartbeats 1000000
namespace PM
open PySem PySem.Spec PyProof.Rows L2
section
variable {β σ τ : Type} {E : σ → Env} {L : τ → Env} {ER : β → Val → Prop} {X : Env → Prop} {ρ : Env} {rest : Stm} {ca : Ax} {ds : List D} {ini : Ini} {gx : Nat → M D} {me : D} {k : D → M (O σ τ β)} {ρ2 : D → Env}
end
end PM
set_option maxHeartbeats 1000000
namespace PM
open PySem PySem.Spec PyProof.Rows L2
def setF (fl : FTab) (f : Str) (me x : D) : M Unit := fun S => match me with
  | .rf n => (match S[n]? with
    | some (.obj c fs) => if fl c f = true ∧ fs.length < 1000 then .ok () (S.set n (.obj c (pD f x fs))) else .stuck
    | _ => .stuck)
  | _ => .stuck
section
variable {α β γ σ σ' τ τ' : Type} {ea : α → D} {eb : β → D} {e : α → D} {ρ ρw : Env} {c ca cb co ce ck : Ex} {ax : Ax} {m : M α} {ds : List D}
variable {E : σ → Env} {L : τ → Env} {ER : γ → Val → Prop} {X : Env → Prop} {rest : Stm} {i : Nat} {k : M (O σ τ γ)}
end
end PM
set_option maxHeartbeats 1000000
namespace PM
open PySem PySem.Spec PyProof.Rows L2
end PM
set_option maxHeartbeats 1000000
namespace PM
open PySem PySem.Spec PyProof.Rows L2
section
variable {α β γ σ σ' τ τ' : Type} {ea : α → D} {eb : β → D} {e : α → D} {ρ ρw : Env} {c ca cb co ce ck : Ex} {ax : Ax} {m : M α} {ds : List D}
variable {E : σ → Env} {L : τ → Env} {ER : γ → Val → Prop} {X : Env → Prop} {rest : Stm} {i : Nat} {k : M (O σ τ γ)}
end
end PM
set_option maxHeartbeats 1000000
namespace PM
open PySem PySem.Spec PyProof.Rows L2
end PM
set_option maxHeartbeats 1000000
namespace PM
open PySem PySem.Spec PyProof.Rows L2
section
variable {α β : Type} {eb : β → D} {ρ ρw : Env} {own : List Nat} {ci : Ix} {tg : Tgt} {tt : Tx} {elt : Ex} {ei : α → D} {t : α → M Bool} {fe : α → M β} {ρx : α → Env}
end
end PM
set_option maxHeartbeats 1000000
namespace PM
open PySem PySem.Spec PyProof.Rows L2
end PM
set_option maxHeartbeats 1000000
namespace PM
open PySem PySem.Spec PyProof.Rows L2
section
variable {σ τ β : Type} {E : σ → Env} {L : τ → Env} {ER : β → Val → Prop} {X : Env → Prop} {ρ ρj ρt : Env} {rest sb : Stm} {i j n : Nat} {ci : Ex} {me : M (List Bool)} {mr : M β} {k : M (O σ τ β)}
theorem forK_core {S : Store} : ∀ ds : List Bool, forK j sb (ds.map D.bl) ρ S = if ds.any id = true then (match sb (ρ.set j (.fr (.bl true))) S with
      | .rt v S' => .rt v S'
      | _ => .stuck) else .nx (ρ.set j .un) S
  | [] => rfl
  | true :: ds => rfl
  | false :: ds => by
    have ih := forK_core (S := S) ds
    simp only [List.map_cons, forK, List.any_cons, id, Bool.false_or]
    exact ih
theorem t_forK (hi : Nth ρ i (.fr (.exn n))) (hj : SetR ρ j .un ρj) (ht : SetR ρ j (.fr (.bl true)) ρt) (hc : Xv (eL D.bl) ci ρ me) (hr : Sm E L ER XT (sSeq sb sNx) ρt (M.bind mr fun b => M.pure (.rt b))) (hk : Sm E L ER X rest ρj k) :
    Sm E L ER X (sSeq (sForK i j ci sb) rest) ρ (M.bind (M.noexc me) fun ds => if ds.any id = true then M.bind (M.noexc mr) fun b => M.pure (.rt b) else k) := ⟨fun S => by
  obtain ⟨aj, ej⟩ := hj.some
  have q := hc S
  unfold M.bind Res.bind M.noexc
  cases e : me S with
  | exc _ _ => exact trivial
  | stuck => exact trivial
  | ok ds S' =>
    simp only [e, RS] at q
    simp only [sSeq, sForK, hi.eq, ej, q, eL, forK_core]
    by_cases hd : ds.any id = true
    · simp only [hd, if_true]
      have h2 := hr.run S'
      unfold M.bind Res.bind at h2
      cases e2 : mr S' with
      | exc _ _ => exact trivial
      | stuck => exact trivial
      | ok b S2 =>
        simp only [e2, M.pure, SR1] at h2 ⊢
        obtain ⟨v, h3, h4⟩ := h2
        rw [ht.eq]
        unfold sSeq at h3
        cases e3 : sb ρt S' with
        | rt w S3 =>
          simp only [e3] at h3 ⊢
          exact ⟨v, h3, h4⟩
        | nx r s => simp only [e3, sNx] at h3; cases h3
        | bk r s => simp only [e3] at h3; cases h3
        | ct r s => simp only [e3] at h3; cases h3
        | exc a r s => simp only [e3] at h3; cases h3
        | stuck => simp only [e3] at h3; cases h3
    · simp only [hd, hj.eq]
      exact hk.run S'⟩
end
end PM
set_option maxHeartbeats 1000000
namespace PM
open PySem PySem.Spec PyProof.Rows L2
section
variable {α : Type} {e : α → D} {xs ys : List α}
end
section
variable {ρ : Env} {co ce : Ex}
end
section
variable {σ τ β : Type} {E : σ → Env} {L : τ → Env} {ER : β → Val → Prop} {X : Env → Prop} {ρ : Env} {rest : Stm} {i : Nat}
end
end PM
set_option maxHeartbeats 1000000
namespace PM
open PySem PySem.Spec PyProof.Rows L2
section
variable {ρ : Env} {co ce ci : Ex} {mo me : M Str} {mi : M Int}
theorem x_T0 {β : Type} {eb : β → D} {f : Str → Option D} {g : Str → Option β} (hg : ∀ a, f a = (g a).map eb) (ho : Xv D.str co ρ mo) : Xv eb (eT0 f co) ρ (M.bind mo fun a => M.opt (g a)) := fun S =>
  RS.bind (ho S) fun a S1 => by
    unfold M.opt
    simp only [hg]
    cases g a with
    | none => exact trivial
    | some z => exact rfl
theorem x_find1 (ho : Xv D.str co ρ mo) (he : Xv D.str ce ρ me) : Xv D.int (eT1 fFind1 co ce) ρ (M.bind mo fun a => M.bind me fun b => M.pure (Txt.find a b)) := fun S =>
  RS.bind (ho S) fun a S1 => RS.bind (he S1) fun b S2 => rfl
theorem x_upper0 (ho : Xv D.str co ρ mo) : Xv D.str (eT0 fUp co) ρ (M.bind mo fun a => M.opt (gUp a)) := x_T0 (fun _ => rfl) ho
end
end PM
set_option maxHeartbeats 1000000
namespace PM
open PySem PySem.Spec PyProof.Rows L2
section
variable {α σ τ β : Type} {E : σ → Env} {L : τ → Env} {ER : β → Val → Prop} {X : Env → Prop} {ρ : Env} {rest : Stm} {i j : Nat} {en : α → D} {ce : Ex}
end
end PM
set_option maxHeartbeats 1000000
namespace PM
open PySem PySem.Spec PyProof.Rows L2
section
variable {α β γ σ σ' τ τ' : Type}
def tryR (hit : HTab) (h m : M (O σ τ β)) : M (O σ τ β) := fun S => match m S with
  | .exc n S' => (match hit n with
    | some true => h S'
    | some false => .exc n S'
    | none => .stuck)
  | r => r
theorem tryR_pure (hit : HTab) (o : O σ τ β) (h : M (O σ τ β)) : tryR hit h (M.pure o) = M.pure o := id rfl
theorem tryR_exc (hit : HTab) (n : Nat) (h : M (O σ τ β)) (e : hit n = some true) : tryR hit h (M.exc n) = h := by
  funext S
  simp only [tryR, M.exc, e]
theorem tryR_pass (hit : HTab) (n : Nat) (h : M (O σ τ β)) (e : hit n = some false) : tryR hit h (M.exc n) = M.exc n := by
  funext S
  simp only [tryR, M.exc, e]
variable {E : σ → Env} {L : τ → Env} {ER : β → Val → Prop} {X : Env → Prop} {ρ : Env} {body suite : Stm} {m h : M (O σ τ β)}
theorem t_tryR {hit : HTab} (hb : Sm E L ER (fun r => r = ρ) body ρ m) (hX : X ρ) (hh : Sm E L ER X suite ρ h) : Sm E L ER X (sTryR hit suite body) ρ (tryR hit h m) := ⟨fun S => by
  have q := hb.run S
  unfold sTryR tryR
  cases e : m S with
  | ok o S' =>
    cases o with
    | nx s => simp only [e, SR1] at q ⊢; rw [q]
    | bk s => simp only [e, SR1] at q ⊢; rw [q]
    | ct s => simp only [e, SR1] at q ⊢; rw [q]
    | rt v =>
      simp only [e, SR1] at q ⊢
      obtain ⟨w, h1, h2⟩ := q
      exact ⟨w, by rw [h1], h2⟩
  | exc n S' =>
    simp only [e, SR1] at q ⊢
    obtain ⟨ρ', h1, h2⟩ := q
    subst h2
    rw [h1]
    simp only []
    cases e2 : hit n with
    | none => exact trivial
    | some k =>
      cases k with
      | false => exact ⟨ρ', rfl, hX⟩
      | true => exact hh.run S'
  | stuck => exact trivial⟩
end
end PM
namespace PM
open PySem PySem.Spec PyProof.Rows L2
theorem NFL : (∀ {α β : Type} (a : α) (k : α → M β), M.bind (M.pure a) k = k a) ∧ (∀ {α β γ : Type} (m : M α) (f : α → M β) (g : β → M γ), M.bind (M.bind m f) g = M.bind m fun a => M.bind (f a) g) ∧ (∀ {α β : Type} (n : Nat) (k : α → M β), M.bind (M.exc n) k = M.exc n) ∧ (∀ {α : Type} (a : α), M.opt (some a) = M.pure a) ∧
  (∀ {σ σ' τ β : Type} (s : σ) (k : σ → M (O σ' τ β)), PM.bindO (M.pure (.nx s)) k = k s) ∧ (∀ {σ σ' τ β : Type} (b : β) (k : σ → M (O σ' τ β)), PM.bindO (M.pure (.rt b)) k = M.pure (.rt b)) ∧ (∀ {σ σ' τ β : Type} (b : τ) (k : σ → M (O σ' τ β)), PM.bindO (M.pure (.bk b)) k = M.pure (.bk b)) ∧ (∀ {σ σ' τ β : Type} (b : τ) (k : σ → M (O σ' τ β)), PM.bindO (M.pure (.ct b)) k = M.pure (.ct b)) ∧ (∀ {σ σ' τ β : Type} (n : Nat) (k : σ → M (O σ' τ β)), PM.bindO (M.exc n) k = M.exc n) ∧ (∀ {α σ σ' τ β : Type} (m : M α) (f : α → M (O σ τ β)) (k : σ → M (O σ' τ β)), PM.bindO (M.bind m f) k = M.bind m fun a => PM.bindO (f a) k) ∧
  (∀ {β : Type} (d : Option β) (s : Unit), PM.runO d (M.pure (.nx s)) = M.opt d) ∧ (∀ {β : Type} (d : Option β) (b : β), PM.runO d (M.pure (.rt b)) = M.pure b) ∧ (∀ {β : Type} (d : Option β) (n : Nat), PM.runO d (M.exc n) = M.exc n) ∧ (∀ {α β : Type} (d : Option β) (m : M α) (f : α → M (O Unit Unit β)), PM.runO d (M.bind m f) = M.bind m fun a => PM.runO d (f a)) :=
  ⟨M.pure_bind, M.bind_assoc, M.exc_bind, M.opt_some, bindO_nx, bindO_rt, bindO_bk, bindO_ct, bindO_exc, bindO_bind, runO_nx, runO_rt, runO_exc, runO_bind⟩
end PM
set_option maxHeartbeats 4000000
namespace PM
open PySem PySem.Spec PyProof.Rows L2
noncomputable section
abbrev D.k_LETTERS : D := (.str "abcdefghijklmnopqrstuvwxyz")
abbrev D.k_MOST_LETTERS : D := (.int 8)
abbrev D.k_MOST_PLACES : D := (.int 40)
abbrev D.k_MOST_DEEP : D := (.int 12)
abbrev D.k_MOST_LINES : D := (.int 12)
def fl : FTab := fun c f => (c == 10 && f == "row") || (c == 11 && f == "nodes") || (c == 12 && f == "lines") || (c == 12 && f == "wide")
theorem fl_10_row : fl 10 "row" = true := by decide +kernel
theorem fl_11_nodes : fl 11 "nodes" = true := by decide +kernel
theorem fl_12_lines : fl 12 "lines" = true := by decide +kernel
theorem fl_12_wide : fl 12 "wide" = true := by decide +kernel
def clsN : List Str := ["ShrinkError", "NoThing", "NoPlace", "NoFault", "NoRule", "Spent", "Healthy", "NoText", "NoRow", "Thing", "Row", "Forest", "Table", "Fault", "Has", "Many", "Pair", "Before", "Under", "Beside", "Group", "All", "Any", "Not", "Asker", "Shrinking", "Desk"]
def hit_ShrinkError : HTab := fun n => if n = 1 then some true else if n = 7 then some true else none
theorem hit_ShrinkError_NoText : hit_ShrinkError 7 = some true := by rfl
def hit_NoThing : HTab := fun n => if n = 1 then some true else if n = 7 then some false else none
theorem hit_NoThing_NoThing : hit_NoThing 1 = some true := by rfl
theorem hit_NoThing_NoText : hit_NoThing 7 = some false := by rfl
def isx_NoThing : HTab := fun n => if n = 1 then some true else if n = 7 then some false else none
def isx_NoPlace : HTab := fun n => if n = 1 then some false else if n = 7 then some false else none
def isx_NoFault : HTab := fun n => if n = 1 then some false else if n = 7 then some false else none
def isx_NoRule : HTab := fun n => if n = 1 then some false else if n = 7 then some false else none
def isx_Spent : HTab := fun n => if n = 1 then some false else if n = 7 then some false else none
def isx_Healthy : HTab := fun n => if n = 1 then some false else if n = 7 then some false else none
def isx_NoText : HTab := fun n => if n = 1 then some false else if n = 7 then some true else none
def isx_NoRow : HTab := fun n => if n = 1 then some false else if n = 7 then some false else none
def isx_ValueError : HTab := fun n => if n = 1 then some true else if n = 7 then some true else none
def c_p_is_whole : Stm := sSeq (sRet (eAndD (eIsT "int" (eB 0)) (eNotD (eIsT "bool" (eB 0))))) (sNx)
def m_p_is_whole : Fn := mkFn [true] 0 c_p_is_whole
def b1_p_is_mark : Stm := sSeq (sIf (eTr (eBin oNin (eB 1) (eC D.k_LETTERS))) (sSeq (sRet (eC (.bl false))) (sNx)) (sNx)) (sSeq (sWipe [1]) (sNx))
def c_p_is_mark : Stm := sSeq (sIf (tOrD (tNotD (eTr (eIsT "str" (eB 0)))) (tOrD (eTr (eBin oEq (eB 0) (eC (.str "")))) (eTr (eBin oGt (eFn fLen (aCons (eB 0) (aNil))) (eC D.k_MOST_LETTERS))))) (sSeq (sRet (eC (.bl false))) (sNx)) (sNx)) (sSeq (sWipe []) (sSeq (sFor (iS (eB 0)) (gN 1) b1_p_is_mark) (sSeq (sRet (eC (.bl true))) (sNx))))
def m_p_is_mark : Fn := mkFn [true] 1 c_p_is_mark
def b1_p_are_marks : Stm := sSeq (sIf (tNotD (eTr (eCall m_p_is_mark (aCons (eB 2) (aNil))))) (sSeq (sRet (eC (.bl false))) (sNx)) (sNx)) (sSeq (sWipe [1, 2]) (sNx))
def c_p_are_marks : Stm := sSeq (sIf (tOrD (tNotD (eTr (eIsT "list" (eB 0)))) (eTr (eBin oGt (eFn fLen (aCons (eB 0) (aNil))) (eB 1)))) (sSeq (sRet (eC (.bl false))) (sNx)) (sNx)) (sSeq (sWipe [1]) (sSeq (sFor (iB 0) (gN 2) b1_p_are_marks) (sSeq (sRet (eC (.bl true))) (sNx))))
def m_p_are_marks : Fn := mkFn [true, true] 1 c_p_are_marks
def b1_p_are_nodes : Stm := sSeq (sIf (tOrD (tNotD (eTr (eIsT "tuple" (eB 2)))) (eTr (eBin oNe (eFn fLen (aCons (eB 2) (aNil))) (eC (.int 2))))) (sSeq (sRet (eC (.bl false))) (sNx)) (sNx)) (sSeq (sIf (tOrD (tNotD (eTr (eCall m_p_is_mark (aCons (eBin oIx (eB 2) (eC (.int 0))) (aNil))))) (tOrD (tNotD (eTr (eCall m_p_is_whole (aCons (eBin oIx (eB 2) (eC (.int 1))) (aNil))))) (tNotD (eTr (eChain oLe oLe (eC (.int 0)) (eBin oIx (eB 2) (eC (.int 1))) (eB 1)))))) (sSeq (sRet (eC (.bl false))) (sNx)) (sNx)) (sSeq (sSet 1 (eFn fMin2 (aCons (eBin oAdd (eBin oIx (eB 2) (eC (.int 1))) (eC (.int 1))) (aCons (eC D.k_MOST_DEEP) (aNil))))) (sSeq (sWipe [2]) (sNx))))
def c_p_are_nodes : Stm := sSeq (sIf (tOrD (tNotD (eTr (eIsT "list" (eB 0)))) (eTr (eBin oGt (eFn fLen (aCons (eB 0) (aNil))) (eC D.k_MOST_PLACES)))) (sSeq (sRet (eC (.bl false))) (sNx)) (sNx)) (sSeq (sSet 1 (eC (.int 0))) (sSeq (sWipe []) (sSeq (sFor (iB 0) (gN 2) b1_p_are_nodes) (sSeq (sRet (eC (.bl true))) (sNx)))))
def m_p_are_nodes : Fn := mkFn [true] 2 c_p_are_nodes
def b1_p_are_lines : Stm := sSeq (sIf (tOrD (tNotD (eTr (eCall m_p_are_marks (aCons (eB 1) (aCons (eC D.k_MOST_LINES) (aNil)))))) (eTr (eBin oNe (eFn fLen (aCons (eB 1) (aNil))) (eFn fLen (aCons (eBin oIx (eB 0) (eC (.int 0))) (aNil)))))) (sSeq (sRet (eC (.bl false))) (sNx)) (sNx)) (sSeq (sWipe [1]) (sNx))
def c_p_are_lines : Stm := sSeq (sIf (tOrD (tNotD (eTr (eIsT "list" (eB 0)))) (eTr (eBin oGt (eFn fLen (aCons (eB 0) (aNil))) (eC D.k_MOST_LINES)))) (sSeq (sRet (eC (.bl false))) (sNx)) (sNx)) (sSeq (sWipe []) (sSeq (sFor (iB 0) (gN 1) b1_p_are_lines) (sSeq (sRet (eC (.bl true))) (sNx))))
def m_p_are_lines : Fn := mkFn [true] 1 c_p_are_lines
def c_p_Row_init : Stm := sSeq (sIf (tNotD (eTr (eCall m_p_are_marks (aCons (eB 1) (aCons (eC D.k_MOST_PLACES) (aNil)))))) (sSeq (sRaise 1) (sNx)) (sNx)) (sSeq (sFldMe fl 0 "row" (eFn fList (aCons (eB 1) (aNil)))) (sSeq (sWipe [1]) (sNx)))
def m_p_Row_init : Ini := mkIni [true] 0 c_p_Row_init
def c_p_Row_form : Stm := sSeq (sRet (eTup (aCons (eC (.str "row")) (aCons (eFn fTuple (aCons (eFld fl "row" (eB 0)) (aNil))) (aNil))))) (sNx)
def m_p_Row_form : Fn := mkFn [true] 0 c_p_Row_form
def c_p_Forest_init : Stm := sSeq (sIf (tNotD (eTr (eCall m_p_are_nodes (aCons (eB 1) (aNil))))) (sSeq (sRaise 1) (sNx)) (sNx)) (sSeq (sFldMe fl 0 "nodes" (eFn fList (aCons (eB 1) (aNil)))) (sSeq (sWipe [1]) (sNx)))
def m_p_Forest_init : Ini := mkIni [true] 0 c_p_Forest_init
def c_p_Forest_form : Stm := sSeq (sRet (eTup (aCons (eC (.str "forest")) (aCons (eFn fTuple (aCons (eFld fl "nodes" (eB 0)) (aNil))) (aNil))))) (sNx)
def m_p_Forest_form : Fn := mkFn [true] 0 c_p_Forest_form
def c_p_Table_init : Stm := sSeq (sIf (tNotD (eTr (eCall m_p_are_lines (aCons (eB 1) (aNil))))) (sSeq (sRaise 1) (sNx)) (sNx)) (sSeq (sFldMe fl 0 "lines" (eLc [2] (iB 1) (gN 2) (tYesD) (eFn fList (aCons (eB 2) (aNil))))) (sSeq (sFldMe fl 0 "wide" (eC (.int 0))) (sSeq (sIf (eTr (eBin oGt (eFn fLen (aCons (eB 1) (aNil))) (eC (.int 0)))) (sSeq (sFldMe fl 0 "wide" (eFn fLen (aCons (eBin oIx (eB 1) (eC (.int 0))) (aNil)))) (sNx)) (sNx)) (sSeq (sWipe [1, 2]) (sNx)))))
def m_p_Table_init : Ini := mkIni [true] 1 c_p_Table_init
def c_p_Table_form : Stm := sSeq (sRet (eTup (aCons (eC (.str "table")) (aCons (eFld fl "wide" (eB 0)) (aCons (eFn fTuple (aCons (eLc [1] (iL (eFld fl "lines" (eB 0))) (gN 1) (tYesD) (eFn fTuple (aCons (eB 1) (aNil)))) (aNil))) (aNil)))))) (sNx)
def m_p_Table_form : Fn := mkFn [true] 1 c_p_Table_form
def c_p_read_line : Stm := sSeq (sIf (eTr (eBin oEq (eFn fLen (aCons (eB 0) (aNil))) (eC (.int 0)))) (sSeq (sRaise 7) (sNx)) (sNx)) (sSeq (sIf (eTr (eBin oEq (eB 0) (eLst (aCons (eC (.str "-")) (aNil))))) (sSeq (sRetN (eLst (aNil))) (sNx)) (sNx)) (sSeq (sRet (eV 0)) (sNx)))
def m_p_read_line : Fn := mkFn [false] 0 c_p_read_line
def b1_p_read_lines : Stm := sSeq (sIf (eTr (eBin oEq (eB 3) (eC (.str "/")))) (sSeq (sFz 2) (sSeq (sLm 1 lAppend (aCons (eCall m_p_read_line (aCons (eV 2) (aNil))) (aNil))) (sSeq (sSetN 2 (eLst (aNil))) (sNx)))) (sSeq (sLm 2 lAppend (aCons (eV 3) (aNil))) (sNx))) (sSeq (sWipe [3]) (sNx))
def c_p_read_lines : Stm := sSeq (sSetN 1 (eLst (aNil))) (sSeq (sSetN 2 (eLst (aNil))) (sSeq (sWipe []) (sSeq (sFor (iB 0) (gN 3) b1_p_read_lines) (sSeq (sIf (eTr (eBin oGt (eFn fLen (aCons (eB 0) (aNil))) (eC (.int 0)))) (sSeq (sFz 2) (sSeq (sLm 1 lAppend (aCons (eCall m_p_read_line (aCons (eV 2) (aNil))) (aNil))) (sSeq (sWipe [0, 2, 3]) (sNx)))) (sSeq (sWipe [0, 2, 3]) (sNx))) (sSeq (sRetV 1) (sNx))))))
def m_p_read_lines : Fn := mkFn [true] 3 c_p_read_lines
def b1_p_read_nodes : Stm := sSeq (sIf (tAndD (eTr (eBin oIn (eB 5) (eC D.k_LETTERS))) (tNotD (eTr (eB 4)))) (sSeq (sSet 3 (eBin oAdd (eB 3) (eB 5))) (sSeq (sWipe [5]) (sSeq (sCnt) (sNx)))) (sNx)) (sSeq (sIf (eTr (eBin oNin (eB 5) (eC (.str "(,)")))) (sSeq (sRaise 7) (sNx)) (sNx)) (sSeq (sIf (eTr (eBin oNe (eB 3) (eC (.str "")))) (sSeq (sLm 1 lAppend (aCons (eTup (aCons (eV 3) (aCons (eV 2) (aNil)))) (aNil))) (sSeq (sWipe [3, 4]) (sNx))) (sSeq (sIf (tOrD (tNotD (eTr (eB 4))) (eTr (eBin oEq (eB 5) (eC (.str "("))))) (sSeq (sRaise 7) (sNx)) (sNx)) (sSeq (sWipe [3, 4]) (sNx)))) (sSeq (sSet 3 (eC (.str ""))) (sSeq (sSet 4 (eBin oEq (eB 5) (eC (.str ")")))) (sSeq (sIf (eTr (eBin oEq (eB 5) (eC (.str "(")))) (sSeq (sAug 2 ipAdd (eC (.int 1))) (sSeq (sWipe [5]) (sNx))) (sSeq (sWipe [5]) (sNx))) (sSeq (sIf (eTr (eB 4)) (sSeq (sAug 2 oSub (eC (.int 1))) (sSeq (sWipe [5]) (sNx))) (sSeq (sWipe [5]) (sNx))) (sSeq (sIf (eTr (eBin oLt (eB 2) (eC (.int 0)))) (sSeq (sRaise 7) (sNx)) (sNx)) (sSeq (sWipe [5]) (sNx)))))))))
def c_p_read_nodes : Stm := sSeq (sSetN 1 (eLst (aNil))) (sSeq (sSet 2 (eC (.int 0))) (sSeq (sSet 3 (eC (.str ""))) (sSeq (sSet 4 (eC (.bl false))) (sSeq (sWipe []) (sSeq (sFor (iS (eBin oAdd (eB 0) (eC (.str ",")))) (gN 5) b1_p_read_nodes) (sSeq (sIf (eTr (eBin oNe (eB 2) (eC (.int 0)))) (sSeq (sRaise 7) (sNx)) (sNx)) (sSeq (sRetV 1) (sNx))))))))
def m_p_read_nodes : Fn := mkFn [true] 5 c_p_read_nodes
def c_p_thing_of : Stm := sSeq (sIf (eTr (eBin oEq (eBin oIx (eB 0) (eC (.int 0))) (eC (.str "row")))) (sSeq (sRetN (eMake (m_p_Row_init 10) (aCons (eCut oCut (eB 0) (pAt (eC (.int 1))) (pNo)) (aNil)))) (sNx)) (sNx)) (sSeq (sIf (eTr (eBin oEq (eBin oIx (eB 0) (eC (.int 0))) (eC (.str "table")))) (sSeq (sRetN (eMake (m_p_Table_init 12) (aCons (eCall m_p_read_lines (aCons (eCut oCut (eB 0) (pAt (eC (.int 1))) (pNo)) (aNil))) (aNil)))) (sNx)) (sNx)) (sSeq (sIf (tOrD (eTr (eBin oNe (eBin oIx (eB 0) (eC (.int 0))) (eC (.str "forest")))) (eTr (eBin oGt (eFn fLen (aCons (eB 0) (aNil))) (eC (.int 2))))) (sSeq (sRaise 7) (sNx)) (sNx)) (sSeq (sIf (eTr (eBin oEq (eFn fLen (aCons (eB 0) (aNil))) (eC (.int 1)))) (sSeq (sRetN (eMake (m_p_Forest_init 11) (aCons (eLst (aNil)) (aNil)))) (sNx)) (sNx)) (sSeq (sRetN (eMake (m_p_Forest_init 11) (aCons (eCall m_p_read_nodes (aCons (eBin oIx (eB 0) (eC (.int 1))) (aNil))) (aNil)))) (sNx)))))
def m_p_thing_of : Fn := mkFn [true] 0 c_p_thing_of
def c_p_read_thing : Stm := sSeq (sIf (tNotD (eTr (eIsT "str" (eB 0)))) (sSeq (sRaise 7) (sNx)) (sNx)) (sSeq (sTryR hit_NoThing (sSeq (sRaise 7) (sNx)) (sSeq (sSet 1 (eCall m_p_thing_of (aCons (eSplit (eB 0) (eC (.str " "))) (aNil)))) (sSeq (sWipe [0]) (sNx)))) (sSeq (sRet (eV 1)) (sNx)))
def m_p_read_thing : Fn := mkFn [true] 1 c_p_read_thing
def c_l_cell_at : Stm := sSeq (sIf (eTr (eBin oLt (eB 1) (eFn fLen (aCons (eB 0) (aNil))))) (sSeq (sRet (eBin oIx (eB 0) (eB 1))) (sNx)) (sNx)) (sSeq (sRet (eC (.int 0))) (sNx))
def m_l_cell_at : Fn := mkFn [true, true] 0 c_l_cell_at
def c_l_how_many : Stm := sSeq (sIf (eTr (eBin oEq (eBin oMod (eBin oDiv (eB 0) (eC (.int 6))) (eC (.int 8))) (eC (.int 5)))) (sSeq (sRet (eBin oAdd (eC (.int 7)) (eBin oMod (eBin oDiv (eB 0) (eC (.int 48))) (eC (.int 19))))) (sNx)) (sNx)) (sSeq (sRet (eBin oAdd (eC (.int 1)) (eBin oMod (eB 0) (eC (.int 6))))) (sNx))
def m_l_how_many : Fn := mkFn [true] 0 c_l_how_many
def c_l_marks : Stm := sSeq (sSet 2 (eC (.str "abcdefghijklmnopqrstuvwxyz"))) (sSeq (sSet 3 (eCut oCut (eC (.str "marksof")) (pNo) (pAt (eBin oMod (eB 0) (eC (.int 8)))))) (sSeq (sSet 4 (eBin oMod (eBin oDiv (eB 0) (eC (.int 8))) (eBin oAdd (eFn fLen (aCons (eB 3) (aNil))) (eC (.int 1))))) (sSeq (sSet 5 (eBin oMod (eBin oDiv (eB 0) (eC (.int 64))) (eC (.int 26)))) (sSeq (sSet 6 (eBin oAdd (eC (.int 1)) (eBin oMod (eBin oDiv (eB 0) (eC (.int 1664))) (eC (.int 8))))) (sSeq (sIf (eTr (eBin oGt (eB 1) (eC (.int 6)))) (sSeq (sSet 6 (eC (.int 1))) (sSeq (sWipe [0, 7]) (sNx))) (sSeq (sWipe [0, 7]) (sNx))) (sSeq (sRetN (eLc [7] (iR1 (aCons (eB 1) (aNil))) (gN 7) (tYesD) (eBin oAdd (eBin oAdd (eCut oCut (eB 3) (pNo) (pAt (eB 4))) (eBin oIx (eB 2) (eBin oMod (eBin oAdd (eB 5) (eBin oMulI (eB 7) (eB 6))) (eC (.int 26))))) (eCut oCut (eB 3) (pAt (eB 4)) (pNo))))) (sNx)))))))
def m_l_marks : Fn := mkFn [true, true] 6 c_l_marks
def c_l_pick : Stm := sSeq (sIf (eTr (eBin oGt (eFn fLen (aCons (eB 1) (aNil))) (eC (.int 7)))) (sSeq (sRet (eBin oIx (eB 1) (eBin oMod (eBin oAdd (eBin oMulI (eC (.int 5)) (eB 0)) (eBin oDiv (eB 0) (eC (.int 7)))) (eFn fLen (aCons (eB 1) (aNil)))))) (sNx)) (sNx)) (sSeq (sRet (eBin oIx (eB 1) (eBin oMod (eBin oMod (eB 0) (eC (.int 7))) (eFn fLen (aCons (eB 1) (aNil)))))) (sNx))
def m_l_pick : Fn := mkFn [true, true] 0 c_l_pick
def b1_l_nodes : Stm := sSeq (sSet 6 (eBin oMod (eBin oDiv (eB 5) (eC (.int 14))) (eBin oAdd (eB 3) (eC (.int 1))))) (sSeq (sIf (tOrD (eTr (eB 4)) (eTr (eBin oEq (eBin oMod (eBin oDiv (eB 5) (eC (.int 7))) (eC (.int 2))) (eC (.int 0))))) (sSeq (sSet 6 (eV 3)) (sSeq (sWipe [3]) (sNx))) (sSeq (sWipe [3]) (sNx))) (sSeq (sLm 2 lAppend (aCons (eTup (aCons (eCall m_l_pick (aCons (eB 5) (aCons (eB 1) (aNil)))) (aCons (eV 6) (aNil)))) (aNil))) (sSeq (sSet 3 (eFn fMin2 (aCons (eBin oAdd (eB 6) (eC (.int 1))) (aCons (eC (.int 12)) (aNil))))) (sSeq (sWipe [5, 6]) (sNx)))))
def c_l_nodes : Stm := sSeq (sSetN 2 (eLst (aNil))) (sSeq (sSet 3 (eC (.int 0))) (sSeq (sSet 4 (eAndD (eBin oGt (eFn fLen (aCons (eB 0) (aNil))) (eC (.int 0))) (eBin oEq (eBin oMod (eBin oIx (eB 0) (eC (.int 0))) (eC (.int 8))) (eC (.int 5))))) (sSeq (sWipe []) (sSeq (sFor (iB 0) (gN 5) b1_l_nodes) (sSeq (sRetV 2) (sNx))))))
def m_l_nodes : Fn := mkFn [true, true] 5 c_l_nodes
def b2_l_forest_text : Stm := sSeq (sSet 1 (eBin oAdd (eB 1) (eC (.str ")")))) (sSeq (sWipe [3]) (sNx))
def b1_l_forest_text : Stm := sSeq (sIf (tAndD (eTr (eBin oGt (eB 2) (eC (.int 0)))) (eTr (eBin oGt (eBin oIx (eBin oIx (eB 0) (eB 2)) (eC (.int 1))) (eBin oIx (eBin oIx (eB 0) (eBin oSub (eB 2) (eC (.int 1)))) (eC (.int 1)))))) (sSeq (sSet 1 (eBin oAdd (eB 1) (eC (.str "(")))) (sSeq (sWipe [3]) (sNx))) (sSeq (sWipe [3]) (sNx))) (sSeq (sIf (tAndD (eTr (eBin oGt (eB 2) (eC (.int 0)))) (eTr (eBin oLe (eBin oIx (eBin oIx (eB 0) (eB 2)) (eC (.int 1))) (eBin oIx (eBin oIx (eB 0) (eBin oSub (eB 2) (eC (.int 1)))) (eC (.int 1)))))) (sSeq (sWipe []) (sSeq (sFor (iR1 (aCons (eBin oSub (eBin oIx (eBin oIx (eB 0) (eBin oSub (eB 2) (eC (.int 1)))) (eC (.int 1))) (eBin oIx (eBin oIx (eB 0) (eB 2)) (eC (.int 1)))) (aNil))) (gN 3) b2_l_forest_text) (sSeq (sSet 1 (eBin oAdd (eB 1) (eC (.str ",")))) (sSeq (sWipe [3]) (sNx))))) (sSeq (sWipe [3]) (sNx))) (sSeq (sSet 1 (eBin oAdd (eB 1) (eBin oIx (eBin oIx (eB 0) (eB 2)) (eC (.int 0))))) (sSeq (sWipe [2, 3]) (sNx))))
def b3_l_forest_text : Stm := sSeq (sSet 1 (eBin oAdd (eB 1) (eC (.str ")")))) (sSeq (sWipe [2, 3]) (sNx))
def c_l_forest_text : Stm := sSeq (sSet 1 (eC (.str ""))) (sSeq (sWipe []) (sSeq (sFor (iR1 (aCons (eFn fLen (aCons (eB 0) (aNil))) (aNil))) (gN 2) b1_l_forest_text) (sSeq (sIf (eTr (eBin oGt (eFn fLen (aCons (eB 0) (aNil))) (eC (.int 0)))) (sSeq (sWipe []) (sSeq (sFor (iR1 (aCons (eBin oIx (eBin oIx (eB 0) (eUn oNeg (eC (.int 1)))) (eC (.int 1))) (aNil))) (gN 3) b3_l_forest_text) (sSeq (sWipe [0, 2, 3]) (sNx)))) (sSeq (sWipe [0, 2, 3]) (sNx))) (sSeq (sRet (eV 1)) (sNx)))))
def m_l_forest_text : Fn := mkFn [true] 3 c_l_forest_text
def c_l_refused : Stm := sSeq (sTryT 1 hit_ShrinkError (sSeq (sDrop (eCall m_p_read_thing (aCons (eB 0) (aNil)))) (sSeq (sWipe [0, 1, 2]) (sNx))) (sSeq (sForK 1 2 (eLst (aCons (eIsX isx_NoThing (eB 1)) (aCons (eIsX isx_NoPlace (eB 1)) (aCons (eIsX isx_NoFault (eB 1)) (aCons (eIsX isx_NoRule (eB 1)) (aNil)))))) (sRet (eC (.bl false)))) (sSeq (sIf (tOrD (eTr (eIsX isx_Spent (eB 1))) (tOrD (eTr (eIsX isx_Healthy (eB 1))) (eTr (eIsX isx_NoRow (eB 1))))) (sSeq (sRet (eC (.bl false))) (sNx)) (sNx)) (sSeq (sRet (eAndD (eIsX isx_NoText (eB 1)) (eIsX isx_ValueError (eB 1)))) (sNx))))) (sSeq (sRet (eC (.bl false))) (sNx))
def m_l_refused : Fn := mkFn [true] 2 c_l_refused
def c_l_wrong_by_any : Stm := sSeq (sSet 3 (eBin oMod (eB 1) (eC (.int 6)))) (sSeq (sIf (eTr (eBin oEq (eB 3) (eC (.int 0)))) (sSeq (sSet 6 (eLst (aCons (eC .non) (aCons (eC (.int 3)) (aCons (eC (.bl true)) (aCons (eLst (aCons (eV 0) (aNil))) (aCons (eTup (aCons (eV 0) (aNil))) (aCons (eC (.str "")) (aCons (eC (.str " ")) (aCons (eC (.str "rows a")) (aCons (eC (.str "Row")) (aCons (eC (.str "tables")) (aCons (eC (.str "Forest")) (aCons (eC (.str "forests a")) (aNil))))))))))))))) (sSeq (sRet (eBin oIx (eB 6) (eBin oMod (eBin oDiv (eB 1) (eC (.int 6))) (eC (.int 12))))) (sNx))) (sNx)) (sSeq (sIf (eTr (eBin oEq (eB 3) (eC (.int 1)))) (sSeq (sRet (eBin oAdd (eT0 fUp (eCut oCut (eB 0) (pNo) (pAt (eC (.int 1))))) (eCut oCut (eB 0) (pAt (eC (.int 1))) (pNo)))) (sNx)) (sNx)) (sSeq (sIf (eTr (eBin oEq (eB 3) (eC (.int 2)))) (sSeq (sRet (eBin oAdd (eB 0) (eBin oIx (eLst (aCons (eC (.str " ")) (aCons (eC (.str "  ")) (aCons (eC (.str " A")) (aCons (eC (.str " a1")) (aCons (eBin oAdd (eBin oAdd (eC (.str " ")) (eB 2)) (eC (.str ";"))) (aCons (eC (.str " abcdefghi")) (aCons (eC (.str "\n")) (aCons (eC (.str "\t")) (aNil)))))))))) (eBin oMod (eBin oDiv (eB 1) (eC (.int 6))) (eC (.int 8)))))) (sNx)) (sNx)) (sSeq (sSet 4 (eBin oAdd (eT1 fFind1 (eB 0) (eC (.str " "))) (eC (.int 1)))) (sSeq (sSet 5 (eBin oAdd (eB 4) (eBin oMod (eBin oDiv (eB 1) (eC (.int 54))) (eBin oAdd (eBin oSub (eFn fLen (aCons (eB 0) (aNil))) (eB 4)) (eC (.int 1)))))) (sSeq (sIf (tAndD (eTr (eBin oEq (eB 3) (eC (.int 3)))) (eTr (eBin oNe (eCut oCut (eB 0) (pNo) (pAt (eC (.int 1)))) (eC (.str "f"))))) (sSeq (sSet 5 (eV 4)) (sSeq (sWipe [2, 6, 7]) (sNx))) (sSeq (sWipe [2, 6, 7]) (sNx))) (sSeq (sIf (eTr (eBin oEq (eB 3) (eC (.int 3)))) (sSeq (sRet (eBin oAdd (eBin oAdd (eCut oCut (eB 0) (pNo) (pAt (eB 5))) (eC (.str " "))) (eCut oCut (eB 0) (pAt (eB 5)) (pNo)))) (sNx)) (sNx)) (sSeq (sIf (eTr (eBin oEq (eB 3) (eC (.int 4)))) (sSeq (sSet 7 (eBin oIx (eLst (aCons (eC (.str "-")) (aCons (eC (.str "A")) (aCons (eC (.str "Z")) (aCons (eC (.str "C")) (aCons (eC (.str "0")) (aCons (eC (.str "_")) (aCons (eC (.str ".")) (aCons (eC (.str "'")) (aCons (eC (.str "abcdefghi")) (aNil))))))))))) (eBin oMod (eBin oDiv (eB 1) (eC (.int 6))) (eC (.int 9))))) (sSeq (sRet (eBin oAdd (eBin oAdd (eCut oCut (eB 0) (pNo) (pAt (eB 5))) (eB 7)) (eCut oCut (eB 0) (pAt (eB 5)) (pNo)))) (sNx))) (sNx)) (sSeq (sRet (eBin oIx (eLst (aCons (eBin oAdd (eC (.str " ")) (eB 0)) (aCons (eT0 (fRepl " " "  ") (eB 0)) (aCons (eBin oAdd (eBin oAdd (eCut oCut (eB 0) (pNo) (pAt (eBin oSub (eB 4) (eC (.int 1))))) (eC (.str "\t"))) (eCut oCut (eB 0) (pAt (eB 4)) (pNo))) (aNil))))) (eBin oMod (eBin oDiv (eB 1) (eC (.int 6))) (eC (.int 3))))) (sNx))))))))))
def m_l_wrong_by_any : Fn := mkFn [false, true, true] 5 c_l_wrong_by_any
def c_l_lines_text : Stm := sSeq (sRet (eBin oAdd (eC (.str "table ")) (eJoin (eC (.str " / ")) (eLc [1] (iB 0) (gN 1) (tYesD) (eJoin (eC (.str " ")) (eB 1)))))) (sNx)
def m_l_lines_text : Fn := mkFn [true] 1 c_l_lines_text
def c_l_wrong_table : Stm := sSeq (sSet 3 (eCall m_l_lines_text (aCons (eB 0) (aNil)))) (sSeq (sSet 4 (eBin oMod (eB 1) (eC (.int 8)))) (sSeq (sIf (eTr (eBin oEq (eB 4) (eC (.int 7)))) (sSeq (sRet (eBin oAdd (eC (.str "table ")) (eJoin (eC (.str " ")) (eLc [5] (iR1 (aCons (eC (.int 13)) (aNil))) (gN 5) (tYesD) (eV 2))))) (sNx)) (sNx)) (sSeq (sIf (eTr (eBin oEq (eB 4) (eC (.int 0)))) (sSeq (sRet (eBin oAdd (eB 3) (eC (.str " /")))) (sNx)) (sNx)) (sSeq (sIf (eTr (eBin oEq (eB 4) (eC (.int 1)))) (sSeq (sRet (eBin oAdd (eBin oAdd (eB 3) (eC (.str " / "))) (eJoin (eC (.str " ")) (eLc [5] (iR1 (aCons (eBin oAdd (eFn fLen (aCons (eBin oIx (eB 0) (eC (.int 0))) (aNil))) (eC (.int 1))) (aNil))) (gN 5) (tYesD) (eV 2))))) (sNx)) (sNx)) (sSeq (sIf (eTr (eBin oEq (eB 4) (eC (.int 2)))) (sSeq (sRet (eBin oAdd (eB 3) (eC (.str " / -")))) (sNx)) (sNx)) (sSeq (sIf (eTr (eBin oEq (eB 4) (eC (.int 3)))) (sSeq (sRet (eBin oAdd (eB 3) (eC (.str " -")))) (sNx)) (sNx)) (sSeq (sIf (eTr (eBin oEq (eB 4) (eC (.int 4)))) (sSeq (sRet (eBin oAdd (eC (.str "table / ")) (eCut oCut (eB 3) (pAt (eC (.int 6))) (pNo)))) (sNx)) (sNx)) (sSeq (sIf (eTr (eBin oEq (eB 4) (eC (.int 5)))) (sSeq (sRet (eBin oAdd (eBin oAdd (eB 3) (eC (.str " / / "))) (eJoin (eC (.str " ")) (eBin oIx (eB 0) (eC (.int 0)))))) (sNx)) (sNx)) (sSeq (sRet (eBin oAdd (eC (.str "table ")) (eJoin (eC (.str " / ")) (eLc [5] (iR1 (aCons (eC (.int 13)) (aNil))) (gN 5) (tYesD) (eJoin (eC (.str " ")) (eBin oIx (eB 0) (eC (.int 0)))))))) (sNx))))))))))
def m_l_wrong_table : Fn := mkFn [true, true, false] 3 c_l_wrong_table
def c_l_wrong_forest : Stm := sSeq (sSet 3 (eBin oAdd (eC (.str "forest ")) (eCall m_l_forest_text (aCons (eB 0) (aNil))))) (sSeq (sSet 4 (eBin oAdd (eC (.int 7)) (eBin oMod (eBin oDiv (eB 1) (eC (.int 9))) (eBin oSub (eFn fLen (aCons (eB 3) (aNil))) (eC (.int 6)))))) (sSeq (sSet 5 (eBin oMod (eB 1) (eC (.int 9)))) (sSeq (sIf (eTr (eBin oLt (eB 5) (eC (.int 3)))) (sSeq (sRet (eBin oAdd (eBin oAdd (eBin oAdd (eCut oCut (eB 3) (pNo) (pAt (eB 4))) (eBin oIx (eC (.str "(),")) (eB 5))) (eBin oIx (eC (.str "(),")) (eBin oMod (eBin oDiv (eB 1) (eC (.int 9))) (eC (.int 3))))) (eCut oCut (eB 3) (pAt (eB 4)) (pNo)))) (sNx)) (sNx)) (sSeq (sIf (eTr (eBin oEq (eB 5) (eC (.int 3)))) (sSeq (sRet (eBin oAdd (eBin oAdd (eB 3) (eC (.str "("))) (eB 2))) (sNx)) (sNx)) (sSeq (sIf (eTr (eBin oEq (eB 5) (eC (.int 4)))) (sSeq (sRet (eBin oAdd (eB 3) (eC (.str ")")))) (sNx)) (sNx)) (sSeq (sIf (eTr (eBin oEq (eB 5) (eC (.int 5)))) (sSeq (sRet (eBin oAdd (eB 3) (eBin oIx (eLst (aCons (eC (.str "()")) (aCons (eC (.str ",")) (aCons (eC (.str ",()")) (aCons (eC (.str "(,)")) (aCons (eBin oAdd (eBin oAdd (eC (.str "(")) (eB 2)) (eC (.str ",)"))) (aCons (eBin oAdd (eBin oAdd (eBin oAdd (eC (.str "(")) (eB 2)) (eC (.str ")"))) (eB 2)) (aNil)))))))) (eBin oMod (eBin oDiv (eB 1) (eC (.int 9))) (eC (.int 6)))))) (sNx)) (sNx)) (sSeq (sIf (eTr (eBin oEq (eB 5) (eC (.int 6)))) (sSeq (sRet (eBin oAdd (eC (.str "forest ")) (eBin oIx (eLst (aCons (eC (.str "(")) (aCons (eC (.str ",")) (aCons (eC (.str ")")) (aCons (eC (.str "()")) (aCons (eBin oAdd (eC (.str ",")) (eB 2)) (aCons (eBin oAdd (eBin oAdd (eC (.str "(")) (eB 2)) (eC (.str ")"))) (aNil)))))))) (eBin oMod (eBin oDiv (eB 1) (eC (.int 9))) (eC (.int 6)))))) (sNx)) (sNx)) (sSeq (sIf (eTr (eBin oEq (eB 5) (eC (.int 7)))) (sSeq (sRet (eBin oAdd (eC (.str "forest ")) (eCall m_l_forest_text (aCons (eLc [6] (iR1 (aCons (eC (.int 14)) (aNil))) (gN 6) (tYesD) (eTup (aCons (eV 2) (aCons (eV 6) (aNil))))) (aNil))))) (sNx)) (sNx)) (sSeq (sRet (eBin oAdd (eC (.str "forest ")) (eCall m_l_forest_text (aCons (eLc [6] (iR1 (aCons (eC (.int 41)) (aNil))) (gN 6) (tYesD) (eTup (aCons (eV 2) (aCons (eBin oMod (eB 6) (eC (.int 2))) (aNil))))) (aNil))))) (sNx))))))))))
def m_l_wrong_forest : Fn := mkFn [true, true, false] 4 c_l_wrong_forest
def mt_form : MTab := fun c => if c = 10 then some m_p_Row_form else if c = 11 then some m_p_Forest_form else if c = 12 then some m_p_Table_form else none
def c_p_law : Stm := sSeq (sSet 1 (eCall m_l_cell_at (aCons (eB 0) (aCons (eC (.int 0)) (aNil))))) (sSeq (sSet 2 (eCall m_l_marks (aCons (eCall m_l_cell_at (aCons (eB 0) (aCons (eC (.int 1)) (aNil)))) (aCons (eCall m_l_how_many (aCons (eBin oDiv (eB 1) (eC (.int 6))) (aNil))) (aNil))))) (sSeq (sIf (eTr (eBin oEq (eBin oMod (eBin oDiv (eB 1) (eC (.int 36))) (eC (.int 5))) (eC (.int 2)))) (sSeq (sSet 2 (eCut oCut (eLst (aCons (eC (.str "table")) (aCons (eC (.str "forest")) (aCons (eC (.str "row")) (aCons (eC (.str "not")) (aCons (eC (.str "many")) (aCons (eC (.str "has")) (aNil)))))))) (pNo) (pAt (eFn fLen (aCons (eB 2) (aNil)))))) (sSeq (sWipe [3, 4, 5, 6, 7, 8, 9, 10, 11, 12, 13]) (sNx))) (sSeq (sWipe [3, 4, 5, 6, 7, 8, 9, 10, 11, 12, 13]) (sNx))) (sSeq (sSet 3 (eBin oAdd (eCut oCut (eB 0) (pAt (eC (.int 3))) (pAt (eC (.int 13)))) (eLst (aCons (eV 1) (aNil))))) (sSeq (sSet 4 (eLc [7] (iL (eV 3)) (gN 7) (tYesD) (eCall m_l_pick (aCons (eB 7) (aCons (eB 2) (aNil)))))) (sSeq (sSet 5 (eJoin (eC (.str " ")) (eBin oAdd (eLst (aCons (eC (.str "row")) (aNil))) (eB 4)))) (sSeq (sSet 6 (eTup (aCons (eC (.str "row")) (aCons (eFn fTuple (aCons (eB 4) (aNil))) (aNil))))) (sSeq (sSet 7 (eCall m_l_cell_at (aCons (eB 0) (aCons (eC (.int 2)) (aNil))))) (sSeq (sSet 8 (eJoin (eC (.str " ")) (eBin oAdd (eBin oAdd (eLst (aCons (eC (.str "row")) (aNil))) (eB 4)) (eLc [12] (iR1 (aCons (eBin oSub (eC (.int 41)) (eFn fLen (aCons (eB 4) (aNil)))) (aNil))) (gN 12) (tYesD) (eBin oIx (eB 2) (eC (.int 0))))))) (sSeq (sIf (eTr (eBin oEq (eBin oMod (eB 1) (eC (.int 3))) (eC (.int 1)))) (sSeq (sSet 9 (eBin oAdd (eC (.int 1)) (eBin oMod (eBin oDiv (eB 7) (eC (.int 7))) (eC (.int 3))))) (sSeq (sSet 10 (eLc [12] (iR3 (aCons (eC (.int 0)) (aCons (eBin oAdd (eBin oSub (eFn fLen (aCons (eB 4) (aNil))) (eB 9)) (eC (.int 1))) (aCons (eB 9) (aNil))))) (gN 12) (tYesD) (eCut oCut (eB 4) (pAt (eB 12)) (pAt (eBin oAdd (eB 12) (eB 9)))))) (sSeq (sIf (eTr (eBin oEq (eFn fLen (aCons (eB 10) (aNil))) (eC (.int 0)))) (sSeq (sSet 10 (eLst (aCons (eV 4) (aNil)))) (sSeq (sWipe [0, 4, 5, 6, 8, 9, 11, 12, 13]) (sNx))) (sSeq (sWipe [0, 4, 5, 6, 8, 9, 11, 12, 13]) (sNx))) (sSeq (sSet 5 (eCall m_l_lines_text (aCons (eB 10) (aNil)))) (sSeq (sSet 6 (eTup (aCons (eC (.str "table")) (aCons (eFn fLen (aCons (eBin oIx (eB 10) (eC (.int 0))) (aNil))) (aCons (eFn fTuple (aCons (eLc [13] (iL (eV 10)) (gN 13) (tYesD) (eFn fTuple (aCons (eB 13) (aNil)))) (aNil))) (aNil)))))) (sSeq (sSet 8 (eCall m_l_wrong_table (aCons (eB 10) (aCons (eB 7) (aCons (eBin oIx (eB 2) (eC (.int 0))) (aNil)))))) (sSeq (sWipe [0, 4, 9, 10, 11, 12, 13]) (sNx)))))))) (sSeq (sWipe [0, 4, 9, 10, 11, 12, 13]) (sNx))) (sSeq (sIf (eTr (eBin oEq (eBin oMod (eB 1) (eC (.int 3))) (eC (.int 2)))) (sSeq (sSet 11 (eCall m_l_nodes (aCons (eB 3) (aCons (eB 2) (aNil))))) (sSeq (sSet 5 (eBin oAdd (eC (.str "forest ")) (eCall m_l_forest_text (aCons (eB 11) (aNil))))) (sSeq (sSet 6 (eTup (aCons (eC (.str "forest")) (aCons (eFn fTuple (aCons (eB 11) (aNil))) (aNil))))) (sSeq (sSet 8 (eCall m_l_wrong_forest (aCons (eB 11) (aCons (eB 7) (aCons (eBin oIx (eB 2) (eC (.int 0))) (aNil)))))) (sSeq (sWipe [0, 3, 4, 9, 10, 11, 12, 13]) (sNx)))))) (sSeq (sWipe [0, 3, 4, 9, 10, 11, 12, 13]) (sNx))) (sSeq (sIf (eTr (eBin oEq (eBin oMod (eBin oDiv (eB 1) (eC (.int 3))) (eC (.int 2))) (eC (.int 1)))) (sSeq (sSet 8 (eCall m_l_wrong_by_any (aCons (eV 5) (aCons (eB 7) (aCons (eBin oIx (eB 2) (eC (.int 0))) (aNil)))))) (sSeq (sWipe [0, 1, 2, 3, 4, 7, 9, 10, 11, 12, 13]) (sNx))) (sSeq (sWipe [0, 1, 2, 3, 4, 7, 9, 10, 11, 12, 13]) (sNx))) (sSeq (sIf (tNotD (eTr (eCall m_l_refused (aCons (eB 8) (aNil))))) (sSeq (sRet (eC (.bl false))) (sNx)) (sNx)) (sSeq (sRet (eBin oEq (eMeth "form" mt_form (eCall m_p_read_thing (aCons (eB 5) (aNil))) aNil resF) (eB 6))) (sNx))))))))))))))
def m_p_law : Fn := mkFn [true] 13 c_p_law
def LawOk : Prop := ∀ ns : List Int, ns.length ≤ 63 → ∃ S, resF (m_p_law [.scr ns] []) = .ok (.bl true) S
end
end PM
set_option maxHeartbeats 4000000
namespace PM
open PySem PySem.Spec PyProof.Rows L2
noncomputable section
abbrev k_LETTERS : Str := "abcdefghijklmnopqrstuvwxyz"
abbrev k_MOST_LETTERS : Int := 8
abbrev k_MOST_PLACES : Int := 40
abbrev k_MOST_DEEP : Int := 12
abbrev k_MOST_LINES : Int := 12
def f_p_is_whole (v_thing : D) : M Bool := runO none (
 (M.bind (M.bind (M.opt (D.isT "int" v_thing)) fun t2 => (if t2 = true then (M.bind (M.opt (D.isT "bool" v_thing)) fun t1 => M.pure (!t1)) else M.pure false)) fun t3 => M.pure (.rt t3)))
theorem ty_p_is_whole (v_thing : D) : FnT D.bl m_p_is_whole [iN v_thing] (f_p_is_whole v_thing) := by
  unfold f_p_is_whole
  refine t_fn (Ef := fun _ => [.un]) (Lf := fun _ => []) rfl (.t (.n .z)) (fun _ h => nomatch h) ?_
  unfold c_p_is_whole
  exact t_ret (eb := D.bl) (xx_And (p_isTO (p_Bb (e := iN) .z)) (x_Not' (p_isTO (p_Bb (e := iN) .z)))) trivial (fun _ => rf_fr _)
abbrev L1_p_is_mark (v_thing : D) : Unit → Env := fun s => [.bo (iN v_thing), .un]
def f_b1_p_is_mark  (x9 : Nat)  : M (O Unit Unit Bool) :=
 (if (!decide (x9 ∈ Sl k_LETTERS)) = true then
 (M.bind (M.pure false) fun t14 => M.pure (.rt t14))
 else (M.pure (.nx ())))
theorem t_b1_p_is_mark (v_thing : D) (x9 : Nat)  : Sm (L1_p_is_mark v_thing) (L1_p_is_mark v_thing) (RF D.bl) XT b1_p_is_mark [.bo (iN v_thing), .fr (eCh x9)] (f_b1_p_is_mark  x9 ) := by
  unfold b1_p_is_mark f_b1_p_is_mark
  refine t_ifP (p_TrB (pp_bin (p_Bf (e := eCh) (.s .z)) (p_C (e := D.str)) ot_ninS)) ?_ ?_
  · refine t_assoc ?_
    exact t_ret (eb := D.bl) (Pv.x (p_C (e := D.bl))) trivial (fun _ => rf_fr _)
  · refine t_nxl ?_
    refine t_wipe (is := [1]) (.cons .nil (.s .z)) ?_
    exact t_nil rfl
def f_p_is_mark (v_thing : D) : M Bool := runO none (
 (M.bind (M.bind (M.bind (M.opt (D.isT "str" v_thing)) fun t1 => M.pure (!t1)) fun t4 => (if t4 = true then M.pure true else (M.bind (M.opt (D.eq? v_thing (D.str ("" : Str)))) fun t3 => (if t3 = true then M.pure true else (M.bind (M.opt (gI (fLen [v_thing]))) fun t2 => M.pure (decide (t2 > k_MOST_LETTERS))))))) fun t5 => if t5 = true then
 (M.bind (M.pure false) fun t6 => M.pure (.rt t6))
 else (M.bind (M.bind (M.opt (uS v_thing)) fun t12 => M.pure (Sl t12)) fun t16 => bindO (forO (fun x s8 => f_b1_p_is_mark  x ) t16 (() : Unit)) fun s8 =>
 (M.bind (M.pure true) fun t15 => M.pure (.rt t15)))))
theorem ty_p_is_mark (v_thing : D) : FnT D.bl m_p_is_mark [iN v_thing] (f_p_is_mark v_thing) := by
  unfold f_p_is_mark
  refine t_fn (Ef := fun _ => [.un, .un]) (Lf := fun _ => []) rfl (.t (.n (.s .z))) (fun _ h => nomatch h) ?_
  unfold c_p_is_mark
  refine t_if (xx_tOr (x_tNot' (x_TrBm (p_isTO (p_Bb (e := iN) .z)))) (xx_tOr (x_TrBm (pp_binO (p_Bb (e := iN) .z) (p_up (ea := D.str) (p_C (e := D.str))) (fun _ => oo_eqD))) (x_TrBm (xp_bin (p_FnO (ez := D.int) (p_aCons (ea := iN) (p_Bb (e := iN) .z) p_aNil) (fun _ => oo_lenD)) (p_C (e := D.int)) (fun _ => ot_gt))))) trivial ?_ ?_
  · refine t_assoc ?_
    exact t_ret (eb := D.bl) (Pv.x (p_C (e := D.bl))) trivial (fun _ => rf_fr _)
  · refine t_nxl ?_
    refine t_wipe (is := []) .nil ?_
    refine t_for (L' := (L1_p_is_mark v_thing)) (ei := eCh) (x_iS1 (x_cast unS (p_Bb (e := iN) .z))) trivial rfl (fun _ _ => (tgN (.s .z))) (fun x s => t_b1_p_is_mark v_thing x ) (fun s8 => ?_)
    show Sm _ _ _ _ _ [.bo (iN v_thing), .un] _
    exact t_ret (eb := D.bl) (Pv.x (p_C (e := D.bl))) trivial (fun _ => rf_fr _)
abbrev L1_p_are_marks (v_some : D) : Unit → Env := fun s => [.bo (iN v_some), .un, .un]
def f_b1_p_are_marks  (x7 : D)  : M (O Unit Unit Bool) :=
 (M.bind (M.bind (f_p_is_mark x7) fun t11 => M.pure (!t11)) fun t12 => if t12 = true then
 (M.bind (M.pure false) fun t13 => M.pure (.rt t13))
 else (M.pure (.nx ())))
theorem t_b1_p_are_marks (v_some : D) (x7 : D)  : Sm (L1_p_are_marks v_some) (L1_p_are_marks v_some) (RF D.bl) XT b1_p_are_marks [.bo (iN v_some), .un, .fr (iN x7)] (f_b1_p_are_marks  x7 ) := by
  unfold b1_p_are_marks f_b1_p_are_marks
  refine t_if (x_tNot' (x_TrBm (x_callP (p_aCons (ea := iN) (p_Bf (e := iN) (.s (.s .z))) p_aNil) (ty_p_is_mark _)))) trivial ?_ ?_
  · refine t_assoc ?_
    exact t_ret (eb := D.bl) (Pv.x (p_C (e := D.bl))) trivial (fun _ => rf_fr _)
  · refine t_nxl ?_
    refine t_wipe (is := [1, 2]) (.cons (.cons .nil (.s (.s .z))) (.s .z)) ?_
    exact t_nil rfl
def f_p_are_marks (v_some : D) (v_most : Int) : M Bool := runO none (
 (M.bind (M.bind (M.bind (M.opt (D.isT "list" v_some)) fun t1 => M.pure (!t1)) fun t3 => (if t3 = true then M.pure true else (M.bind (M.opt (gI (fLen [v_some]))) fun t2 => M.pure (decide (t2 > v_most))))) fun t4 => if t4 = true then
 (M.bind (M.pure false) fun t5 => M.pure (.rt t5))
 else (M.bind (M.opt ((uL some) v_some)) fun t15 => bindO (forO (fun x s6 => f_b1_p_are_marks  x ) t15 (() : Unit)) fun s6 =>
 (M.bind (M.pure true) fun t14 => M.pure (.rt t14)))))
theorem ty_p_are_marks (v_some : D) (v_most : Int) : FnT D.bl m_p_are_marks [iN v_some, D.int v_most] (f_p_are_marks v_some v_most) := by
  unfold f_p_are_marks
  refine t_fn (Ef := fun _ => [.un, .un, .un]) (Lf := fun _ => []) rfl (.t (.t (.n (.s .z)))) (fun _ h => nomatch h) ?_
  unfold c_p_are_marks
  refine t_if (xx_tOr (x_tNot' (x_TrBm (p_isTO (p_Bb (e := iN) .z)))) (x_TrBm (xp_bin (p_FnO (ez := D.int) (p_aCons (ea := iN) (p_Bb (e := iN) .z) p_aNil) (fun _ => oo_lenD)) (p_Bb (e := D.int) (.s .z)) (fun _ => ot_gt)))) trivial ?_ ?_
  · refine t_assoc ?_
    exact t_ret (eb := D.bl) (Pv.x (p_C (e := D.bl))) trivial (fun _ => rf_fr _)
  · refine t_nxl ?_
    refine t_wipe (is := [1]) (.cons .nil (.s .z)) ?_
    refine t_for (L' := (L1_p_are_marks v_some)) (ei := iN) (x_iBcastb (unL unAny) .z) trivial rfl (fun _ _ => (tgN (.s (.s .z)))) (fun x s => t_b1_p_are_marks v_some x ) (fun s6 => ?_)
    show Sm _ _ _ _ _ [.bo (iN v_some), .un, .un] _
    exact t_ret (eb := D.bl) (Pv.x (p_C (e := D.bl))) trivial (fun _ => rf_fr _)
abbrev L1_p_are_nodes (v_some : D) : Int → Env := fun s => [.bo (iN v_some), .fr (D.int s), .un]
def f_b1_p_are_nodes  (x7 : D) (v_deepest : Int) : M (O Int Int Bool) :=
 (M.bind (M.bind (M.bind (M.opt (D.isT "tuple" x7)) fun t27 => M.pure (!t27)) fun t29 => (if t29 = true then M.pure true else (M.bind (M.opt (gI (fLen [x7]))) fun t28 => M.pure (!decide (t28 = (2 : Int)))))) fun t30 => if t30 = true then
 (M.bind (M.pure false) fun t31 => M.pure (.rt t31))
 else (M.bind (M.bind (M.bind (M.bind (M.opt (oIx x7 (D.int (0 : Int)))) fun t32 => f_p_is_mark t32) fun t33 => M.pure (!t33)) fun t40 => (if t40 = true then M.pure true else (M.bind (M.bind (M.bind (M.opt (oIx x7 (D.int (1 : Int)))) fun t34 => f_p_is_whole t34) fun t35 => M.pure (!t35)) fun t39 => (if t39 = true then M.pure true else (M.bind (M.bind (M.bind (M.opt (oIx x7 (D.int (1 : Int)))) fun t36 => M.opt (uI t36)) fun t37 => M.pure (decide ((0 : Int) ≤ t37) && decide (t37 ≤ v_deepest))) fun t38 => M.pure (!t38)))))) fun t41 => if t41 = true then
 (M.bind (M.pure false) fun t42 => M.pure (.rt t42))
 else (M.bind (M.bind (M.bind (M.bind (M.opt (oIx x7 (D.int (1 : Int)))) fun t43 => M.opt (uI t43)) fun t44 => M.pure (t44 + (1 : Int))) fun t45 => M.pure (min2 t45 k_MOST_DEEP)) fun v_deepest =>
 (M.pure (.nx v_deepest)))))
theorem t_b1_p_are_nodes (v_some : D) (x7 : D) (v_deepest : Int) : Sm (L1_p_are_nodes v_some) (L1_p_are_nodes v_some) (RF D.bl) XT b1_p_are_nodes [.bo (iN v_some), .fr (D.int v_deepest), .fr (iN x7)] (f_b1_p_are_nodes  x7 v_deepest) := by
  unfold b1_p_are_nodes f_b1_p_are_nodes
  refine t_if (xx_tOr (x_tNot' (x_TrBm (p_isTO (p_Bf (e := iN) (.s (.s .z)))))) (x_TrBm (xp_bin (p_FnO (ez := D.int) (p_aCons (ea := iN) (p_Bf (e := iN) (.s (.s .z))) p_aNil) (fun _ => oo_lenD)) (p_C (e := D.int)) (fun _ => (ot_ne eqI))))) trivial ?_ ?_
  · refine t_assoc ?_
    exact t_ret (eb := D.bl) (Pv.x (p_C (e := D.bl))) trivial (fun _ => rf_fr _)
  · refine t_nxl ?_
    refine t_if (xx_tOr (x_tNot' (x_TrBm (x_callX (xa_1 (ea := iN) (pp_binO (p_Bf (e := iN) (.s (.s .z))) (p_up (ea := D.int) (p_C (e := D.int))) (fun _ => oo_ixD)) p_aNil) (fun _ => ty_p_is_mark _)))) (xx_tOr (x_tNot' (x_TrBm (x_callX (xa_1 (ea := iN) (pp_binO (p_Bf (e := iN) (.s (.s .z))) (p_up (ea := D.int) (p_C (e := D.int))) (fun _ => oo_ixD)) p_aNil) (fun _ => ty_p_is_whole _)))) (x_tNot' (x_TrBm (pxp_Ch (p_C (e := D.int)) (x_castX unI (pp_binO (p_Bf (e := iN) (.s (.s .z))) (p_up (ea := D.int) (p_C (e := D.int))) (fun _ => oo_ixD))) (p_Bf (e := D.int) (.s .z)) (fun _ => ot_le) (fun _ => ot_le)))))) trivial ?_ ?_
    · refine t_assoc ?_
      exact t_ret (eb := D.bl) (Pv.x (p_C (e := D.bl))) trivial (fun _ => rf_fr _)
    · refine t_nxl ?_
      refine t_set (en := D.int) (x_FnT (ez := D.int) (xa_1 (ea := D.int) (xp_bin (x_castX unI (pp_binO (p_Bf (e := iN) (.s (.s .z))) (p_up (ea := D.int) (p_C (e := D.int))) (fun _ => oo_ixD))) (p_C (e := D.int)) (fun _ => ot_addI)) (p_aCons (ea := D.int) (p_C (e := D.int)) p_aNil)) (fun _ => ot_min2)) trivial (fun _ => (.s .z)) (fun v_deepest => ?_)
      refine t_wipe (is := [2]) (.cons .nil (.s (.s .z))) ?_
      exact t_nil rfl
def f_p_are_nodes (v_some : D) : M Bool := runO none (
 (M.bind (M.bind (M.bind (M.opt (D.isT "list" v_some)) fun t1 => M.pure (!t1)) fun t3 => (if t3 = true then M.pure true else (M.bind (M.opt (gI (fLen [v_some]))) fun t2 => M.pure (decide (t2 > k_MOST_PLACES))))) fun t4 => if t4 = true then
 (M.bind (M.pure false) fun t5 => M.pure (.rt t5))
 else (M.bind (M.pure (0 : Int)) fun v_deepest =>
 (M.bind (M.opt ((uL some) v_some)) fun t47 => bindO (forO (fun x s6 => f_b1_p_are_nodes  x s6) t47 (v_deepest : Int)) fun s6 =>
 (M.bind (M.pure true) fun t46 => M.pure (.rt t46))))))
theorem ty_p_are_nodes (v_some : D) : FnT D.bl m_p_are_nodes [iN v_some] (f_p_are_nodes v_some) := by
  unfold f_p_are_nodes
  refine t_fn (Ef := fun _ => [.un, .un, .un]) (Lf := fun _ => []) rfl (.t (.n (.s (.s .z)))) (fun _ h => nomatch h) ?_
  unfold c_p_are_nodes
  refine t_if (xx_tOr (x_tNot' (x_TrBm (p_isTO (p_Bb (e := iN) .z)))) (x_TrBm (xp_bin (p_FnO (ez := D.int) (p_aCons (ea := iN) (p_Bb (e := iN) .z) p_aNil) (fun _ => oo_lenD)) (p_C (e := D.int)) (fun _ => ot_gt)))) trivial ?_ ?_
  · refine t_assoc ?_
    exact t_ret (eb := D.bl) (Pv.x (p_C (e := D.bl))) trivial (fun _ => rf_fr _)
  · refine t_nxl ?_
    refine t_set (en := D.int) (Pv.x (p_C (e := D.int))) trivial (fun _ => (.s .z)) (fun v_deepest => ?_)
    refine t_wipe (is := []) .nil ?_
    refine t_for (L' := (L1_p_are_nodes v_some)) (ei := iN) (x_iBcastb (unL unAny) .z) trivial rfl (fun _ _ => (tgN (.s (.s .z)))) (fun x s => t_b1_p_are_nodes v_some x s) (fun s6 => ?_)
    show Sm _ _ _ _ _ [.bo (iN v_some), .fr (D.int s6), .un] _
    exact t_ret (eb := D.bl) (Pv.x (p_C (e := D.bl))) trivial (fun _ => rf_fr _)
abbrev L1_p_are_lines (v_some : D) : Unit → Env := fun s => [.bo (iN v_some), .un]
def f_b1_p_are_lines (v_some : D) (x7 : D)  : M (O Unit Unit Bool) :=
 (M.bind (M.bind (M.bind (f_p_are_marks x7 k_MOST_LINES) fun t15 => M.pure (!t15)) fun t19 => (if t19 = true then M.pure true else (M.bind (M.opt (gI (fLen [x7]))) fun t17 => M.bind (M.bind (M.opt (oIx v_some (D.int (0 : Int)))) fun t16 => M.opt (gI (fLen [t16]))) fun t18 => M.pure (!decide (t17 = t18))))) fun t20 => if t20 = true then
 (M.bind (M.pure false) fun t21 => M.pure (.rt t21))
 else (M.pure (.nx ())))
theorem t_b1_p_are_lines (v_some : D) (x7 : D)  : Sm (L1_p_are_lines v_some) (L1_p_are_lines v_some) (RF D.bl) XT b1_p_are_lines [.bo (iN v_some), .fr (iN x7)] (f_b1_p_are_lines v_some x7 ) := by
  unfold b1_p_are_lines f_b1_p_are_lines
  refine t_if (xx_tOr (x_tNot' (x_TrBm (x_callP (p_aCons (ea := iN) (p_Bf (e := iN) (.s .z)) (p_aCons (ea := D.int) (p_C (e := D.int)) p_aNil)) (ty_p_are_marks _ _)))) (x_TrBm (xx_bin (p_FnO (ez := D.int) (p_aCons (ea := iN) (p_Bf (e := iN) (.s .z)) p_aNil) (fun _ => oo_lenD)) (x_FnO (ez := D.int) (xa_1 (ea := iN) (pp_binO (p_Bb (e := iN) .z) (p_up (ea := D.int) (p_C (e := D.int))) (fun _ => oo_ixD)) p_aNil) (fun _ _ => oo_lenD)) (fun _ _ => (ot_ne eqI))))) trivial ?_ ?_
  · refine t_assoc ?_
    exact t_ret (eb := D.bl) (Pv.x (p_C (e := D.bl))) trivial (fun _ => rf_fr _)
  · refine t_nxl ?_
    refine t_wipe (is := [1]) (.cons .nil (.s .z)) ?_
    exact t_nil rfl
def f_p_are_lines (v_some : D) : M Bool := runO none (
 (M.bind (M.bind (M.bind (M.opt (D.isT "list" v_some)) fun t1 => M.pure (!t1)) fun t3 => (if t3 = true then M.pure true else (M.bind (M.opt (gI (fLen [v_some]))) fun t2 => M.pure (decide (t2 > k_MOST_LINES))))) fun t4 => if t4 = true then
 (M.bind (M.pure false) fun t5 => M.pure (.rt t5))
 else (M.bind (M.opt ((uL some) v_some)) fun t23 => bindO (forO (fun x s6 => f_b1_p_are_lines v_some x ) t23 (() : Unit)) fun s6 =>
 (M.bind (M.pure true) fun t22 => M.pure (.rt t22)))))
theorem ty_p_are_lines (v_some : D) : FnT D.bl m_p_are_lines [iN v_some] (f_p_are_lines v_some) := by
  unfold f_p_are_lines
  refine t_fn (Ef := fun _ => [.un, .un]) (Lf := fun _ => []) rfl (.t (.n (.s .z))) (fun _ h => nomatch h) ?_
  unfold c_p_are_lines
  refine t_if (xx_tOr (x_tNot' (x_TrBm (p_isTO (p_Bb (e := iN) .z)))) (x_TrBm (xp_bin (p_FnO (ez := D.int) (p_aCons (ea := iN) (p_Bb (e := iN) .z) p_aNil) (fun _ => oo_lenD)) (p_C (e := D.int)) (fun _ => ot_gt)))) trivial ?_ ?_
  · refine t_assoc ?_
    exact t_ret (eb := D.bl) (Pv.x (p_C (e := D.bl))) trivial (fun _ => rf_fr _)
  · refine t_nxl ?_
    refine t_wipe (is := []) .nil ?_
    refine t_for (L' := (L1_p_are_lines v_some)) (ei := iN) (x_iBcastb (unL unAny) .z) trivial rfl (fun _ _ => (tgN (.s .z))) (fun x s => t_b1_p_are_lines v_some x ) (fun s6 => ?_)
    show Sm _ _ _ _ _ [.bo (iN v_some), .un] _
    exact t_ret (eb := D.bl) (Pv.x (p_C (e := D.bl))) trivial (fun _ => rf_fr _)
def f_p_Row_init (k : Nat) (v_marks : D) : M D := runI (
 M.bind (M.pure (D.obj k [])) fun v_self =>
 (M.bind (M.bind (f_p_are_marks v_marks k_MOST_PLACES) fun t1 => M.pure (!t1)) fun t2 => if t2 = true then
 (M.exc 1)
 else (M.bind (M.opt (gLs (fList [v_marks]))) fun t3 => M.bind (M.opt (gFld fl "row" v_self ((eL iN) t3))) fun v_self =>
 (M.pure (.nx v_self)))))
theorem ty_p_Row_init (k : Nat) (v_marks : D) : FnI iN (m_p_Row_init k) [iN v_marks] (f_p_Row_init k v_marks) := by
  unfold f_p_Row_init
  refine t_ini (Ef := fun d => [.me (iN d), .un]) (Lf := fun _ => []) (k := k) rfl (.t (.n .z)) (fun _ => .z) ?_
  refine t_let (ρ2 := fun v_self => [.me (iN v_self), .bo (iN v_marks)]) (a := D.obj k []) (fun v_self => ?_)
  unfold c_p_Row_init
  refine t_if (x_tNot' (x_TrBm (x_callP (p_aCons (ea := iN) (p_Bb (e := iN) (.s .z)) (p_aCons (ea := D.int) (p_C (e := D.int)) p_aNil)) (ty_p_are_marks _ _)))) trivial ?_ ?_
  · refine t_assoc ?_
    exact t_raise trivial
  · refine t_nxl ?_
    refine t_fldMe (en := (eL iN)) .z (p_FnO (ez := (eL iN)) (p_aCons (ea := iN) (p_Bb (e := iN) (.s .z)) p_aNil) (fun _ => oo_listD)) trivial (fun _ => .z) (fun v_self => ?_)
    refine t_wipe (is := [1]) (.cons .nil (.s .z)) ?_
    exact t_nil rfl
def f_p_Row_form (v_self : D) : M (Str × (List Str)) := runO none (
 (M.bind (M.bind (M.bind (M.bind (fldM fl "row" v_self) fun t1 => M.opt ((uL uS) t1)) fun t2 => M.pure t2) fun t3 => M.pure (("row" : Str), t3)) fun t4 => M.pure (.rt t4)))
theorem ty_p_Row_form (v_self : D) : FnT (eP2 D.str (eTL D.str)) m_p_Row_form [iN v_self] (f_p_Row_form v_self) := by
  unfold f_p_Row_form
  refine t_fn (Ef := fun _ => [.un]) (Lf := fun _ => []) rfl (.t (.n .z)) (fun _ h => nomatch h) ?_
  unfold c_p_Row_form
  exact t_ret (eb := (eP2 D.str (eTL D.str))) (x_Tup' (ez := (eP2 D.str (eTL D.str))) (xa_P (ea := D.str) (p_C (e := D.str)) (xa_1 (ea := (eTL D.str)) (x_FnT (ez := (eTL D.str)) (xa_1 (ea := (eL D.str)) (x_castX (unL unS) (p_fld (ea := iN) (p_Bb (e := iN) .z))) p_aNil) (fun _ => ot_tupL)) p_aNil)) (fun _ => Nat.le_of_ble_eq_true rfl) (fun _ => rfl)) trivial (fun _ => rf_fr _)
def f_p_Forest_init (k : Nat) (v_nodes : D) : M D := runI (
 M.bind (M.pure (D.obj k [])) fun v_self =>
 (M.bind (M.bind (f_p_are_nodes v_nodes) fun t1 => M.pure (!t1)) fun t2 => if t2 = true then
 (M.exc 1)
 else (M.bind (M.opt (gLs (fList [v_nodes]))) fun t3 => M.bind (M.opt (gFld fl "nodes" v_self ((eL iN) t3))) fun v_self =>
 (M.pure (.nx v_self)))))
theorem ty_p_Forest_init (k : Nat) (v_nodes : D) : FnI iN (m_p_Forest_init k) [iN v_nodes] (f_p_Forest_init k v_nodes) := by
  unfold f_p_Forest_init
  refine t_ini (Ef := fun d => [.me (iN d), .un]) (Lf := fun _ => []) (k := k) rfl (.t (.n .z)) (fun _ => .z) ?_
  refine t_let (ρ2 := fun v_self => [.me (iN v_self), .bo (iN v_nodes)]) (a := D.obj k []) (fun v_self => ?_)
  unfold c_p_Forest_init
  refine t_if (x_tNot' (x_TrBm (x_callP (p_aCons (ea := iN) (p_Bb (e := iN) (.s .z)) p_aNil) (ty_p_are_nodes _)))) trivial ?_ ?_
  · refine t_assoc ?_
    exact t_raise trivial
  · refine t_nxl ?_
    refine t_fldMe (en := (eL iN)) .z (p_FnO (ez := (eL iN)) (p_aCons (ea := iN) (p_Bb (e := iN) (.s .z)) p_aNil) (fun _ => oo_listD)) trivial (fun _ => .z) (fun v_self => ?_)
    refine t_wipe (is := [1]) (.cons .nil (.s .z)) ?_
    exact t_nil rfl
def f_p_Forest_form (v_self : D) : M (Str × (List (Str × Int))) := runO none (
 (M.bind (M.bind (M.bind (M.bind (fldM fl "nodes" v_self) fun t1 => M.opt ((uL (uP2 uS uI)) t1)) fun t2 => M.pure t2) fun t3 => M.pure (("forest" : Str), t3)) fun t4 => M.pure (.rt t4)))
theorem ty_p_Forest_form (v_self : D) : FnT (eP2 D.str (eTL (eP2 D.str D.int))) m_p_Forest_form [iN v_self] (f_p_Forest_form v_self) := by
  unfold f_p_Forest_form
  refine t_fn (Ef := fun _ => [.un]) (Lf := fun _ => []) rfl (.t (.n .z)) (fun _ h => nomatch h) ?_
  unfold c_p_Forest_form
  exact t_ret (eb := (eP2 D.str (eTL (eP2 D.str D.int)))) (x_Tup' (ez := (eP2 D.str (eTL (eP2 D.str D.int)))) (xa_P (ea := D.str) (p_C (e := D.str)) (xa_1 (ea := (eTL (eP2 D.str D.int))) (x_FnT (ez := (eTL (eP2 D.str D.int))) (xa_1 (ea := (eL (eP2 D.str D.int))) (x_castX (unL (unP2 unS unI)) (p_fld (ea := iN) (p_Bb (e := iN) .z))) p_aNil) (fun _ => ot_tupL)) p_aNil)) (fun _ => Nat.le_of_ble_eq_true rfl) (fun _ => rfl)) trivial (fun _ => rf_fr _)
def f_p_Table_init (k : Nat) (v_lines : D) : M D := runI (
 M.bind (M.pure (D.obj k [])) fun v_self =>
 (M.bind (M.bind (f_p_are_lines v_lines) fun t1 => M.pure (!t1)) fun t2 => if t2 = true then
 (M.exc 1)
 else (M.bind (M.bind (M.opt ((uL some) v_lines)) fun t4 => lcO (fun x3 => (M.pure true)) (fun x3 => (M.opt (gLs (fList [x3])))) t4 []) fun t5 => M.bind (M.opt (gFld fl "lines" v_self ((eL (eL iN)) t5))) fun v_self =>
 (M.bind (M.pure (0 : Int)) fun t6 => M.bind (M.opt (gFld fl "wide" v_self (D.int t6))) fun v_self =>
 (M.bind (M.bind (M.opt (gI (fLen [v_lines]))) fun t7 => M.pure (decide (t7 > (0 : Int)))) fun t8 => if t8 = true then
 (M.bind (M.bind (M.opt (oIx v_lines (D.int (0 : Int)))) fun t9 => M.opt (gI (fLen [t9]))) fun t10 => M.bind (M.opt (gFld fl "wide" v_self (D.int t10))) fun v_self =>
 (M.pure (.nx v_self)))
 else (M.pure (.nx v_self)))))))
theorem ty_p_Table_init (k : Nat) (v_lines : D) : FnI iN (m_p_Table_init k) [iN v_lines] (f_p_Table_init k v_lines) := by
  unfold f_p_Table_init
  refine t_ini (Ef := fun d => [.me (iN d), .un, .un]) (Lf := fun _ => []) (k := k) rfl (.t (.n (.s .z))) (fun _ => .z) ?_
  refine t_let (ρ2 := fun v_self => [.me (iN v_self), .bo (iN v_lines), .un]) (a := D.obj k []) (fun v_self => ?_)
  unfold c_p_Table_init
  refine t_if (x_tNot' (x_TrBm (x_callP (p_aCons (ea := iN) (p_Bb (e := iN) (.s .z)) p_aNil) (ty_p_are_lines _)))) trivial ?_ ?_
  · refine t_assoc ?_
    exact t_raise trivial
  · refine t_nxl ?_
    refine t_fldMe (en := (eL (eL iN))) .z (x_Lc' (ei := iN) (eb := (eL iN)) (x_iBcastb (unL unAny) (.s .z)) (.cons .nil (.s (.s .z))) (fun _ => (tgN (.s (.s .z)))) (fun x3 => (Pv.x p_Yes)) (fun x3 => (p_FnO (ez := (eL iN)) (p_aCons (ea := iN) (p_Bf (e := iN) (.s (.s .z))) p_aNil) (fun _ => oo_listD)))) trivial (fun _ => .z) (fun v_self => ?_)
    refine t_fldMe (en := D.int) .z (Pv.x (p_C (e := D.int))) trivial (fun _ => .z) (fun v_self => ?_)
    refine t_if (x_TrBm (xp_bin (p_FnO (ez := D.int) (p_aCons (ea := iN) (p_Bb (e := iN) (.s .z)) p_aNil) (fun _ => oo_lenD)) (p_C (e := D.int)) (fun _ => ot_gt))) trivial ?_ ?_
    · refine t_assoc ?_
      refine t_fldMe (en := D.int) .z (x_FnO (ez := D.int) (xa_1 (ea := iN) (pp_binO (p_Bb (e := iN) (.s .z)) (p_up (ea := D.int) (p_C (e := D.int))) (fun _ => oo_ixD)) p_aNil) (fun _ _ => oo_lenD)) trivial (fun _ => .z) (fun v_self => ?_)
      refine t_nxl ?_
      refine t_wipe (is := [1, 2]) (.cons (.cons .nil (.s (.s .z))) (.s .z)) ?_
      exact t_nil rfl
    · refine t_nxl ?_
      refine t_wipe (is := [1, 2]) (.cons (.cons .nil (.s (.s .z))) (.s .z)) ?_
      exact t_nil rfl
def f_p_Table_form (v_self : D) : M (Str × Int × (List (List Str))) := runO none (
 (M.bind (M.bind (M.bind (M.bind (fldM fl "wide" v_self) fun t1 => M.opt (uI t1)) fun t6 => M.bind (M.bind (M.bind (M.bind (fldM fl "lines" v_self) fun t2 => M.opt ((uL (uL uS)) t2)) fun t4 => lcO (fun x3 => (M.pure true)) (fun x3 => (M.pure x3)) t4 []) fun t5 => M.pure t5) fun t7 => M.pure (t6, t7)) fun t8 => M.pure (("table" : Str), t8.1, t8.2)) fun t9 => M.pure (.rt t9)))
theorem ty_p_Table_form (v_self : D) : FnT (eP3 D.str D.int (eTL (eTL D.str))) m_p_Table_form [iN v_self] (f_p_Table_form v_self) := by
  unfold f_p_Table_form
  refine t_fn (Ef := fun _ => [.un, .un]) (Lf := fun _ => []) rfl (.t (.n (.s .z))) (fun _ h => nomatch h) ?_
  unfold c_p_Table_form
  exact t_ret (eb := (eP3 D.str D.int (eTL (eTL D.str)))) (x_Tup' (ez := (eP3 D.str D.int (eTL (eTL D.str)))) (xa_P (ea := D.str) (p_C (e := D.str)) (xa_X (ea := D.int) (x_castX unI (p_fld (ea := iN) (p_Bb (e := iN) .z))) (xa_1 (ea := (eTL (eTL D.str))) (x_FnT (ez := (eTL (eTL D.str))) (xa_1 (ea := (eL (eTL D.str))) (x_Lc' (ei := (eL D.str)) (eb := (eTL D.str)) (x_iL' (x_castX (unL (unL unS)) (p_fld (ea := iN) (p_Bb (e := iN) .z)))) (.cons .nil (.s .z)) (fun _ => (tgN (.s .z))) (fun x3 => (Pv.x p_Yes)) (fun x3 => (Pv.x (p_Fn (ez := (eTL D.str)) (p_aCons (ea := (eL D.str)) (p_Bf (e := (eL D.str)) (.s .z)) p_aNil) ot_tupL)))) p_aNil) (fun _ => ot_tupL)) p_aNil))) (fun _ => Nat.le_of_ble_eq_true rfl) (fun _ => rfl)) trivial (fun _ => rf_fr _)
def f_p_read_line (v_words : (List Str)) : M (List Str) := runO none (
 (if (decide (((List.length v_words : Nat) : Int) = (0 : Int))) = true then
 (M.exc 7)
 else (if (decide (v_words = [("-" : Str)])) = true then
 (M.bind (M.pure ([] : List Str)) fun t3 => M.pure (.rt t3))
 else (M.bind (M.pure v_words) fun t4 => M.pure (.rt t4)))))
theorem ty_p_read_line (v_words : (List Str)) : FnT (eL D.str) m_p_read_line [(eL D.str) v_words] (f_p_read_line v_words) := by
  unfold f_p_read_line
  refine t_fn (Ef := fun _ => [.un]) (Lf := fun _ => []) rfl (.f (.n .z)) (fun _ h => nomatch h) ?_
  unfold c_p_read_line
  refine t_ifP (p_TrB (pp_bin (p_Fn (ez := D.int) (p_aCons (ea := (eL D.str)) (p_Bf (e := (eL D.str)) .z) p_aNil) ot_lenL) (p_C (e := D.int)) (ot_eq eqI))) ?_ ?_
  · refine t_assoc ?_
    exact t_raise trivial
  · refine t_nxl ?_
    refine t_ifP (p_TrB (pp_bin (p_Bf (e := (eL D.str)) .z) (p_Lst (ez := (eL D.str)) (p_aCons (ea := D.str) (p_C (e := D.str)) p_aNil) (Nat.le_of_ble_eq_true rfl) rfl) (ot_eq (eqL eqS)))) ?_ ?_
    · refine t_assoc ?_
      exact t_retN (eb := (eL D.str)) (Pv.x (p_Lst (ez := (eL D.str)) p_aNil (Nat.le_of_ble_eq_true rfl) rfl)) trivial (fun _ => rf_ow _)
    · refine t_nxl ?_
      exact t_ret (eb := (eL D.str)) (Pv.x (p_V (e := (eL D.str)) .z)) trivial (fun _ => rf_fr _)
abbrev L1_p_read_lines (v_words : (List Str)) : ((List (List Str)) × (List Str)) → Env := fun s => [.bo ((eL D.str) v_words), .ow ((eL (eL D.str)) s.1), .ow ((eL D.str) s.2), .un]
def f_b1_p_read_lines  (x2 : Str) (v_lines : (List (List Str))) (v_line : (List Str)) : M (O ((List (List Str)) × (List Str)) ((List (List Str)) × (List Str)) (List (List Str))) :=
 (if (decide (x2 = ("/" : Str))) = true then
 (M.bind (f_p_read_line v_line) fun t7 => M.bind (M.opt (gApp v_lines t7)) fun v_lines =>
 (M.bind (M.pure ([] : List Str)) fun v_line =>
 (M.pure (.nx (v_lines, v_line)))))
 else (M.bind (M.pure x2) fun t8 => M.bind (M.opt (gApp v_line t8)) fun v_line =>
 (M.pure (.nx (v_lines, v_line)))))
theorem t_b1_p_read_lines (v_words : (List Str)) (x2 : Str) (v_lines : (List (List Str))) (v_line : (List Str)) : Sm (L1_p_read_lines v_words) (L1_p_read_lines v_words) (RN (eL (eL D.str))) XT b1_p_read_lines [.bo ((eL D.str) v_words), .ow ((eL (eL D.str)) v_lines), .ow ((eL D.str) v_line), .fr (D.str x2)] (f_b1_p_read_lines  x2 v_lines v_line) := by
  unfold b1_p_read_lines f_b1_p_read_lines
  refine t_ifP (p_TrB (pp_bin (p_Bf (e := D.str) (.s (.s (.s .z)))) (p_C (e := D.str)) (ot_eq eqS))) ?_ ?_
  · refine t_assoc ?_
    refine t_fzo (.s (.s .z)) (.s (.s .z)) ?_
    refine t_assoc ?_
    refine t_app (en := (eL D.str)) (.s .z) (x_callP (p_aCons (ea := (eL D.str)) (p_V (e := (eL D.str)) (.s (.s .z))) p_aNil) (ty_p_read_line _)) trivial (fun _ => (.s .z)) (fun v_lines => ?_)
    refine t_assoc ?_
    refine t_setN (en := (eL D.str)) (Pv.x (p_Lst (ez := (eL D.str)) p_aNil (Nat.le_of_ble_eq_true rfl) rfl)) trivial (fun _ => (.s (.s .z))) (fun v_line => ?_)
    refine t_nxl ?_
    refine t_wipe (is := [3]) (.cons .nil (.s (.s (.s .z)))) ?_
    exact t_nil rfl
  · refine t_assoc ?_
    refine t_app (en := D.str) (.s (.s .z)) (Pv.x (p_V (e := D.str) (.s (.s (.s .z))))) trivial (fun _ => (.s (.s .z))) (fun v_line => ?_)
    refine t_nxl ?_
    refine t_wipe (is := [3]) (.cons .nil (.s (.s (.s .z)))) ?_
    exact t_nil rfl
def f_p_read_lines (v_words : (List Str)) : M (List (List Str)) := runO none (
 (M.bind (M.pure ([] : List (List Str))) fun v_lines =>
 (M.bind (M.pure ([] : List Str)) fun v_line =>
 (M.bind (M.pure v_words) fun t13 => bindO (forO (fun x s1 => f_b1_p_read_lines  x s1.1 s1.2) t13 ((v_lines, v_line) : ((List (List Str)) × (List Str)))) fun s1 =>
 (bindO (σ := (List (List Str))) (if (decide (((List.length v_words : Nat) : Int) > (0 : Int))) = true then
 (M.bind (f_p_read_line s1.2) fun t12 => M.bind (M.opt (gApp s1.1 t12)) fun v_lines =>
 (M.pure (.nx v_lines)))
 else (M.pure (.nx s1.1))) fun s11 =>
 (M.pure (.rt s11)))))))
theorem tyN_p_read_lines (v_words : (List Str)) : FnN (eL (eL D.str)) m_p_read_lines [(eL D.str) v_words] (f_p_read_lines v_words) := by
  unfold f_p_read_lines
  refine t_fnN (Ef := fun _ => [.un, .un, .un, .un]) (Lf := fun _ => []) rfl (.t (.n (.s (.s (.s .z))))) ?_
  unfold c_p_read_lines
  refine t_setN (en := (eL (eL D.str))) (Pv.x (p_Lst (ez := (eL (eL D.str))) p_aNil (Nat.le_of_ble_eq_true rfl) rfl)) trivial (fun _ => (.s .z)) (fun v_lines => ?_)
  refine t_setN (en := (eL D.str)) (Pv.x (p_Lst (ez := (eL D.str)) p_aNil (Nat.le_of_ble_eq_true rfl) rfl)) trivial (fun _ => (.s (.s .z))) (fun v_line => ?_)
  refine t_wipe (is := []) .nil ?_
  refine t_for (L' := (L1_p_read_lines v_words)) (ei := D.str) (Pv.x (p_iBb (ea := D.str) .z)) trivial rfl (fun _ _ => (tgN (.s (.s (.s .z))))) (fun x s => t_b1_p_read_lines v_words x s.1 s.2) (fun s1 => ?_)
  show Sm _ _ _ _ _ [.bo ((eL D.str) v_words), .ow ((eL (eL D.str)) s1.1), .ow ((eL D.str) s1.2), .un] _
  refine t_seq (E' := (fun s11 : (List (List Str)) => ([.un, .ow ((eL (eL D.str)) s11), .un, .un] : Env))) (t_ifP1 (p_TrB (pp_bin (p_Fn (ez := D.int) (p_aCons (ea := (eL D.str)) (p_Bb (e := (eL D.str)) .z) p_aNil) ot_lenL) (p_C (e := D.int)) ot_gt)) ?_ ?_) (fun s11 => ?_)
  · refine t_fzo (.s (.s .z)) (.s (.s .z)) ?_
    refine t_app (en := (eL D.str)) (.s .z) (x_callP (p_aCons (ea := (eL D.str)) (p_V (e := (eL D.str)) (.s (.s .z))) p_aNil) (ty_p_read_line _)) trivial (fun _ => (.s .z)) (fun v_lines => ?_)
    refine t_wipe (is := [0, 2, 3]) (.cons (.cons (.cons .nil (.s (.s (.s .z)))) (.s (.s .z))) .z) ?_
    exact t_nil rfl
  · refine t_wipe (is := [0, 2, 3]) (.cons (.cons (.cons .nil (.s (.s (.s .z)))) (.s (.s .z))) .z) ?_
    exact t_nil rfl
  · exact t_retVo (eb := (eL (eL D.str))) (.s .z) (rn_ow _)
theorem ty_p_read_lines (v_words : (List Str)) : FnT (eL (eL D.str)) m_p_read_lines [(eL D.str) v_words] (f_p_read_lines v_words) := (tyN_p_read_lines v_words).toT
abbrev L1_p_read_nodes (v_text : Str) : ((List (Str × Int)) × Int × Str × Bool) → Env := fun s => [.bo (D.str v_text), .ow ((eL (eP2 D.str D.int)) s.1), .fr (D.int s.2.1), .fr (D.str s.2.2.1), .fr (D.bl s.2.2.2), .un]
def f_b1_p_read_nodes  (x3 : Nat) (v_nodes : (List (Str × Int))) (v_depth : Int) (v_mark : Str) (v_closed : Bool) : M (O ((List (Str × Int)) × Int × Str × Bool) ((List (Str × Int)) × Int × Str × Bool) (List (Str × Int))) :=
 (if ((decide (x3 ∈ Sl k_LETTERS)) && (!v_closed)) = true then
 (M.bind (M.opt (gCatS v_mark (S1 x3))) fun v_mark =>
 (M.pure (.ct (v_nodes, v_depth, v_mark, v_closed))))
 else (if (!decide (x3 ∈ Sl ("(,)" : Str))) = true then
 (M.exc 7)
 else (bindO (σ := (List (Str × Int))) (if (!decide (v_mark = ("" : Str))) = true then
 (M.bind (M.pure (v_mark, v_depth)) fun t28 => M.bind (M.opt (gApp v_nodes t28)) fun v_nodes =>
 (M.pure (.nx v_nodes)))
 else (if ((!v_closed) || (decide ((S1 x3) = ("(" : Str)))) = true then
 (M.exc 7)
 else (M.pure (.nx v_nodes)))) fun s27 =>
 (M.bind (M.pure ("" : Str)) fun v_mark =>
 (M.bind (M.pure (decide ((S1 x3) = (")" : Str)))) fun v_closed =>
 (bindO (σ := Int) (if (decide ((S1 x3) = ("(" : Str))) = true then
 (M.bind (M.pure (1 : Int)) fun t33 => M.bind (M.pure (v_depth + t33)) fun v_depth =>
 (M.pure (.nx v_depth)))
 else (M.pure (.nx v_depth))) fun s32 =>
 (bindO (σ := Int) (if v_closed = true then
 (M.bind (M.pure (1 : Int)) fun t37 => M.bind (M.pure (s32 - t37)) fun v_depth =>
 (M.pure (.nx v_depth)))
 else (M.pure (.nx s32))) fun s36 =>
 (if (decide (s36 < (0 : Int))) = true then
 (M.exc 7)
 else (M.pure (.nx (s27, s36, v_mark, v_closed)))))))))))
theorem t_b1_p_read_nodes (v_text : Str) (x3 : Nat) (v_nodes : (List (Str × Int))) (v_depth : Int) (v_mark : Str) (v_closed : Bool) : Sm (L1_p_read_nodes v_text) (L1_p_read_nodes v_text) (RN (eL (eP2 D.str D.int))) XT b1_p_read_nodes [.bo (D.str v_text), .ow ((eL (eP2 D.str D.int)) v_nodes), .fr (D.int v_depth), .fr (D.str v_mark), .fr (D.bl v_closed), .fr (eCh x3)] (f_b1_p_read_nodes  x3 v_nodes v_depth v_mark v_closed) := by
  unfold b1_p_read_nodes f_b1_p_read_nodes
  refine t_ifP (p_tAnd (p_TrB (pp_bin (p_Bf (e := eCh) (.s (.s (.s (.s (.s .z)))))) (p_C (e := D.str)) ot_inS)) (p_tNot (p_TrB (p_Bf (e := D.bl) (.s (.s (.s (.s .z)))))))) ?_ ?_
  · refine t_assoc ?_
    refine t_set (en := D.str) (pp_binO (p_Bf (e := D.str) (.s (.s (.s .z)))) (p_as (ea := eCh) (e' := D.str) (p_Bf (e := eCh) (.s (.s (.s (.s (.s .z)))))) rfl) (fun _ => oo_catS)) trivial (fun _ => (.s (.s (.s .z)))) (fun v_mark => ?_)
    refine t_assoc ?_
    refine t_wipe (is := [5]) (.cons .nil (.s (.s (.s (.s (.s .z)))))) ?_
    refine t_assoc ?_
    exact t_cnt rfl
  · refine t_nxl ?_
    refine t_ifP (p_TrB (pp_bin (p_Bf (e := eCh) (.s (.s (.s (.s (.s .z)))))) (p_C (e := D.str)) ot_ninS)) ?_ ?_
    · refine t_assoc ?_
      exact t_raise trivial
    · refine t_nxl ?_
      refine t_seq (E' := (fun s27 : (List (Str × Int)) => ([.bo (D.str v_text), .ow ((eL (eP2 D.str D.int)) s27), .fr (D.int v_depth), .un, .un, .fr (eCh x3)] : Env))) (t_ifP1 (p_TrB (pp_bin (p_Bf (e := D.str) (.s (.s (.s .z)))) (p_C (e := D.str)) (ot_ne eqS))) ?_ ?_) (fun s27 => ?_)
      · refine t_app (en := (eP2 D.str D.int)) (.s .z) (Pv.x (p_Tup (ez := (eP2 D.str D.int)) (p_aCons (ea := D.str) (p_V (e := D.str) (.s (.s (.s .z)))) (p_aCons (ea := D.int) (p_V (e := D.int) (.s (.s .z))) p_aNil)) (Nat.le_of_ble_eq_true rfl) rfl)) trivial (fun _ => (.s .z)) (fun v_nodes => ?_)
        refine t_wipe (is := [3, 4]) (.cons (.cons .nil (.s (.s (.s (.s .z))))) (.s (.s (.s .z)))) ?_
        exact t_nil rfl
      · refine t_ifP (p_tOr (p_tNot (p_TrB (p_Bf (e := D.bl) (.s (.s (.s (.s .z))))))) (p_TrB (pp_bin (p_as (ea := eCh) (e' := D.str) (p_Bf (e := eCh) (.s (.s (.s (.s (.s .z)))))) rfl) (p_C (e := D.str)) (ot_eq eqS)))) ?_ ?_
        · refine t_assoc ?_
          exact t_raise trivial
        · refine t_nxl ?_
          refine t_wipe (is := [3, 4]) (.cons (.cons .nil (.s (.s (.s (.s .z))))) (.s (.s (.s .z)))) ?_
          exact t_nil rfl
      · refine t_set (en := D.str) (Pv.x (p_C (e := D.str))) trivial (fun _ => (.s (.s (.s .z)))) (fun v_mark => ?_)
        refine t_set (en := D.bl) (Pv.x (pp_bin (p_as (ea := eCh) (e' := D.str) (p_Bf (e := eCh) (.s (.s (.s (.s (.s .z)))))) rfl) (p_C (e := D.str)) (ot_eq eqS))) trivial (fun _ => (.s (.s (.s (.s .z))))) (fun v_closed => ?_)
        refine t_seq (E' := (fun s32 : Int => ([.bo (D.str v_text), .ow ((eL (eP2 D.str D.int)) s27), .fr (D.int s32), .fr (D.str v_mark), .fr (D.bl v_closed), .un] : Env))) (t_ifP1 (p_TrB (pp_bin (p_as (ea := eCh) (e' := D.str) (p_Bf (e := eCh) (.s (.s (.s (.s (.s .z)))))) rfl) (p_C (e := D.str)) (ot_eq eqS))) ?_ ?_) (fun s32 => ?_)
        · refine t_aug (en := D.int) (.s (.s .z)) (Pv.x (p_C (e := D.int))) trivial (fun _ => ot_addI) (fun _ => (.s (.s .z))) (fun v_depth => ?_)
          refine t_wipe (is := [5]) (.cons .nil (.s (.s (.s (.s (.s .z)))))) ?_
          exact t_nil rfl
        · refine t_wipe (is := [5]) (.cons .nil (.s (.s (.s (.s (.s .z)))))) ?_
          exact t_nil rfl
        · refine t_seq (E' := (fun s36 : Int => ([.bo (D.str v_text), .ow ((eL (eP2 D.str D.int)) s27), .fr (D.int s36), .fr (D.str v_mark), .fr (D.bl v_closed), .un] : Env))) (t_ifP1 (p_TrB (p_Bf (e := D.bl) (.s (.s (.s (.s .z)))))) ?_ ?_) (fun s36 => ?_)
          · refine t_aug (en := D.int) (.s (.s .z)) (Pv.x (p_C (e := D.int))) trivial (fun _ => ot_sub) (fun _ => (.s (.s .z))) (fun v_depth => ?_)
            refine t_wipe (is := [5]) (.cons .nil (.s (.s (.s (.s (.s .z)))))) ?_
            exact t_nil rfl
          · refine t_wipe (is := [5]) (.cons .nil (.s (.s (.s (.s (.s .z)))))) ?_
            exact t_nil rfl
          · refine t_ifP (p_TrB (pp_bin (p_Bf (e := D.int) (.s (.s .z))) (p_C (e := D.int)) ot_lt)) ?_ ?_
            · refine t_assoc ?_
              exact t_raise trivial
            · refine t_nxl ?_
              refine t_wipe (is := [5]) (.cons .nil (.s (.s (.s (.s (.s .z)))))) ?_
              exact t_nil rfl
def f_p_read_nodes (v_text : Str) : M (List (Str × Int)) := runO none (
 (M.bind (M.pure ([] : List (Str × Int))) fun v_nodes =>
 (M.bind (M.pure (0 : Int)) fun v_depth =>
 (M.bind (M.pure ("" : Str)) fun v_mark =>
 (M.bind (M.pure false) fun v_closed =>
 (M.bind (M.bind (M.opt (gCatS v_text ("," : Str))) fun t21 => M.pure (Sl t21)) fun t40 => bindO (forO (fun x s2 => f_b1_p_read_nodes  x s2.1 s2.2.1 s2.2.2.1 s2.2.2.2) t40 ((v_nodes, v_depth, v_mark, v_closed) : ((List (Str × Int)) × Int × Str × Bool))) fun s2 =>
 (if (!decide (s2.2.1 = (0 : Int))) = true then
 (M.exc 7)
 else (M.pure (.rt s2.1)))))))))
theorem tyN_p_read_nodes (v_text : Str) : FnN (eL (eP2 D.str D.int)) m_p_read_nodes [D.str v_text] (f_p_read_nodes v_text) := by
  unfold f_p_read_nodes
  refine t_fnN (Ef := fun _ => [.un, .un, .un, .un, .un, .un]) (Lf := fun _ => []) rfl (.t (.n (.s (.s (.s (.s (.s .z))))))) ?_
  unfold c_p_read_nodes
  refine t_setN (en := (eL (eP2 D.str D.int))) (Pv.x (p_Lst (ez := (eL (eP2 D.str D.int))) p_aNil (Nat.le_of_ble_eq_true rfl) rfl)) trivial (fun _ => (.s .z)) (fun v_nodes => ?_)
  refine t_set (en := D.int) (Pv.x (p_C (e := D.int))) trivial (fun _ => (.s (.s .z))) (fun v_depth => ?_)
  refine t_set (en := D.str) (Pv.x (p_C (e := D.str))) trivial (fun _ => (.s (.s (.s .z)))) (fun v_mark => ?_)
  refine t_set (en := D.bl) (Pv.x (p_C (e := D.bl))) trivial (fun _ => (.s (.s (.s (.s .z))))) (fun v_closed => ?_)
  refine t_wipe (is := []) .nil ?_
  refine t_for (L' := (L1_p_read_nodes v_text)) (ei := eCh) (x_iS1 (pp_binO (p_Bb (e := D.str) .z) (p_C (e := D.str)) (fun _ => oo_catS))) trivial rfl (fun _ _ => (tgN (.s (.s (.s (.s (.s .z))))))) (fun x s => t_b1_p_read_nodes v_text x s.1 s.2.1 s.2.2.1 s.2.2.2) (fun s2 => ?_)
  show Sm _ _ _ _ _ [.bo (D.str v_text), .ow ((eL (eP2 D.str D.int)) s2.1), .fr (D.int s2.2.1), .fr (D.str s2.2.2.1), .fr (D.bl s2.2.2.2), .un] _
  refine t_ifP (p_TrB (pp_bin (p_Bf (e := D.int) (.s (.s .z))) (p_C (e := D.int)) (ot_ne eqI))) ?_ ?_
  · refine t_assoc ?_
    exact t_raise trivial
  · refine t_nxl ?_
    exact t_retVo (eb := (eL (eP2 D.str D.int))) (.s .z) (rn_ow _)
theorem ty_p_read_nodes (v_text : Str) : FnT (eL (eP2 D.str D.int)) m_p_read_nodes [D.str v_text] (f_p_read_nodes v_text) := (tyN_p_read_nodes v_text).toT
def f_p_thing_of (v_words : (List Str)) : M D := runO none (
 (M.bind (M.bind (M.opt (gIx v_words (0 : Int))) fun t1 => M.pure (decide (t1 = ("row" : Str)))) fun t2 => if t2 = true then
 (M.bind (f_p_Row_init 10 ((eL D.str) (cutD v_words (some (1 : Int)) none))) fun t3 => M.pure (.rt t3))
 else (M.bind (M.bind (M.opt (gIx v_words (0 : Int))) fun t4 => M.pure (decide (t4 = ("table" : Str)))) fun t5 => if t5 = true then
 (M.bind (M.bind (M.bind (f_p_read_lines (cutD v_words (some (1 : Int)) none)) fun t6 => M.pure ((eL (eL D.str)) t6)) fun t7 => f_p_Table_init 12 t7) fun t8 => M.pure (.rt t8))
 else (M.bind (M.bind (M.bind (M.opt (gIx v_words (0 : Int))) fun t9 => M.pure (!decide (t9 = ("forest" : Str)))) fun t10 => M.pure (t10 || (decide (((List.length v_words : Nat) : Int) > (2 : Int))))) fun t11 => if t11 = true then
 (M.exc 7)
 else (if (decide (((List.length v_words : Nat) : Int) = (1 : Int))) = true then
 (M.bind (f_p_Forest_init 11 ((eL iN) [])) fun t13 => M.pure (.rt t13))
 else (M.bind (M.bind (M.bind (M.bind (M.opt (gIx v_words (1 : Int))) fun t14 => f_p_read_nodes t14) fun t15 => M.pure ((eL (eP2 D.str D.int)) t15)) fun t16 => f_p_Forest_init 11 t16) fun t17 => M.pure (.rt t17)))))))
theorem tyN_p_thing_of (v_words : (List Str)) : FnN iN m_p_thing_of [(eL D.str) v_words] (f_p_thing_of v_words) := by
  unfold f_p_thing_of
  refine t_fnN (Ef := fun _ => [.un]) (Lf := fun _ => []) rfl (.t (.n .z)) ?_
  unfold c_p_thing_of
  refine t_if (x_TrBm (xp_bin (pp_binO (p_Bb (e := (eL D.str)) .z) (p_C (e := D.int)) (fun _ => oo_ixL)) (p_C (e := D.str)) (fun _ => (ot_eq eqS)))) trivial ?_ ?_
  · refine t_assoc ?_
    exact t_retN (eb := iN) (x_makeP (p_aCons (ea := iN) (p_up (ea := (eL D.str)) (p_Cut (p_Bb (e := (eL D.str)) .z) (p_At (p_C (e := D.int))) p_No ot_cutL)) p_aNil) (ty_p_Row_init _ _)) trivial (fun _ => rn_ow _)
  · refine t_nxl ?_
    refine t_if (x_TrBm (xp_bin (pp_binO (p_Bb (e := (eL D.str)) .z) (p_C (e := D.int)) (fun _ => oo_ixL)) (p_C (e := D.str)) (fun _ => (ot_eq eqS)))) trivial ?_ ?_
    · refine t_assoc ?_
      exact t_retN (eb := iN) (x_makeX (xa_1 (ea := iN) (x_up (ea := (eL (eL D.str))) (x_callP (p_aCons (ea := (eL D.str)) (p_Cut (p_Bb (e := (eL D.str)) .z) (p_At (p_C (e := D.int))) p_No ot_cutL) p_aNil) (ty_p_read_lines _))) p_aNil) (fun _ => ty_p_Table_init _ _)) trivial (fun _ => rn_ow _)
    · refine t_nxl ?_
      refine t_if (xp_tOr (x_TrBm (xp_bin (pp_binO (p_Bb (e := (eL D.str)) .z) (p_C (e := D.int)) (fun _ => oo_ixL)) (p_C (e := D.str)) (fun _ => (ot_ne eqS)))) (p_TrB (pp_bin (p_Fn (ez := D.int) (p_aCons (ea := (eL D.str)) (p_Bb (e := (eL D.str)) .z) p_aNil) ot_lenL) (p_C (e := D.int)) ot_gt))) trivial ?_ ?_
      · refine t_assoc ?_
        exact t_raise trivial
      · refine t_nxl ?_
        refine t_ifP (p_TrB (pp_bin (p_Fn (ez := D.int) (p_aCons (ea := (eL D.str)) (p_Bb (e := (eL D.str)) .z) p_aNil) ot_lenL) (p_C (e := D.int)) (ot_eq eqI))) ?_ ?_
        · refine t_assoc ?_
          exact t_retN (eb := iN) (x_makeP (p_aCons (ea := iN) (p_up (ea := (eL iN)) (p_Lst p_aNil (Nat.le_of_ble_eq_true rfl) rfl)) p_aNil) (ty_p_Forest_init _ _)) trivial (fun _ => rn_ow _)
        · refine t_nxl ?_
          exact t_retN (eb := iN) (x_makeX (xa_1 (ea := iN) (x_up (ea := (eL (eP2 D.str D.int))) (x_callX (xa_1 (ea := D.str) (pp_binO (p_Bb (e := (eL D.str)) .z) (p_C (e := D.int)) (fun _ => oo_ixL)) p_aNil) (fun _ => ty_p_read_nodes _))) p_aNil) (fun _ => ty_p_Forest_init _ _)) trivial (fun _ => rn_ow _)
theorem ty_p_thing_of (v_words : (List Str)) : FnT iN m_p_thing_of [(eL D.str) v_words] (f_p_thing_of v_words) := (tyN_p_thing_of v_words).toT
def f_p_read_thing (v_text : D) : M D := runO none (
 (M.bind (M.bind (M.opt (D.isT "str" v_text)) fun t1 => M.pure (!t1)) fun t2 => if t2 = true then
 (M.exc 7)
 else (bindO (σ := D) (tryR hit_NoThing
 (M.exc 7)
 (M.bind (M.bind (M.bind (M.opt (uS v_text)) fun t7 => M.bind (M.pure (" " : Str)) fun t8 => M.opt (splitD t7 t8)) fun t9 => f_p_thing_of t9) fun v_found =>
 (M.pure (.nx v_found)))) fun s6 =>
 (M.bind (M.pure s6) fun t10 => M.pure (.rt t10)))))
theorem ty_p_read_thing (v_text : D) : FnT iN m_p_read_thing [iN v_text] (f_p_read_thing v_text) := by
  unfold f_p_read_thing
  refine t_fn (Ef := fun _ => [.un, .un]) (Lf := fun _ => []) rfl (.t (.n (.s .z))) (fun _ h => nomatch h) ?_
  unfold c_p_read_thing
  refine t_if (x_tNot' (x_TrBm (p_isTO (p_Bb (e := iN) .z)))) trivial ?_ ?_
  · refine t_assoc ?_
    exact t_raise trivial
  · refine t_nxl ?_
    refine t_seq (E' := (fun s6 : D => ([.un, .fr (iN s6)] : Env))) (t_tryR ?_ trivial ?_) (fun s6 => ?_)
    · refine t_set (en := iN) (x_callX (xa_1 (ea := (eL D.str)) (x_split (x_cast unS (p_Bb (e := iN) .z)) (Pv.x (p_C (e := D.str)))) p_aNil) (fun _ => ty_p_thing_of _)) rfl (fun _ => (.s .z)) (fun v_found => ?_)
      refine t_wipe (is := [0]) (.cons .nil .z) ?_
      exact t_nil rfl
    · exact t_raise trivial
    · exact t_ret (eb := iN) (Pv.x (p_V (e := iN) (.s .z))) trivial (fun _ => rf_fr _)
def f_l_cell_at (v_script : (List Int)) (v_k : Int) : M Int := runO none (
 (if (decide (v_k < ((List.length v_script : Nat) : Int))) = true then
 (M.bind (M.opt (gIx v_script v_k)) fun t2 => M.pure (.rt t2))
 else (M.bind (M.pure (0 : Int)) fun t3 => M.pure (.rt t3))))
theorem ty_l_cell_at (v_script : (List Int)) (v_k : Int) : FnT D.int m_l_cell_at [D.scr v_script, D.int v_k] (f_l_cell_at v_script v_k) := by
  unfold f_l_cell_at
  refine t_fn (Ef := fun _ => [.un, .un]) (Lf := fun _ => []) rfl (.t (.t (.n .z))) (fun _ h => nomatch h) ?_
  unfold c_l_cell_at
  refine t_ifP (p_TrB (pp_bin (p_Bb (e := D.int) (.s .z)) (p_Fn (ez := D.int) (p_aCons (ea := D.scr) (p_Bb (e := D.scr) .z) p_aNil) ot_lenScr) ot_lt)) ?_ ?_
  · refine t_assoc ?_
    exact t_ret (eb := D.int) (pp_binO (p_Bb (e := D.scr) .z) (p_Bb (e := D.int) (.s .z)) (fun _ => oo_ixScr)) trivial (fun _ => rf_fr _)
  · refine t_nxl ?_
    exact t_ret (eb := D.int) (Pv.x (p_C (e := D.int))) trivial (fun _ => rf_fr _)
def f_l_how_many (v_number : Int) : M Int := runO none (
 (if (decide (((v_number / (6 : Int)) % (8 : Int)) = (5 : Int))) = true then
 (M.bind (M.pure ((7 : Int) + ((v_number / (48 : Int)) % (19 : Int)))) fun t2 => M.pure (.rt t2))
 else (M.bind (M.pure ((1 : Int) + (v_number % (6 : Int)))) fun t3 => M.pure (.rt t3))))
theorem ty_l_how_many (v_number : Int) : FnT D.int m_l_how_many [D.int v_number] (f_l_how_many v_number) := by
  unfold f_l_how_many
  refine t_fn (Ef := fun _ => [.un]) (Lf := fun _ => []) rfl (.t (.n .z)) (fun _ h => nomatch h) ?_
  unfold c_l_how_many
  refine t_ifP (p_TrB (pp_bin (pp_bin (pp_bin (p_Bb (e := D.int) .z) (p_C (e := D.int)) ot_div) (p_C (e := D.int)) ot_mod) (p_C (e := D.int)) (ot_eq eqI))) ?_ ?_
  · refine t_assoc ?_
    exact t_ret (eb := D.int) (Pv.x (pp_bin (p_C (e := D.int)) (pp_bin (pp_bin (p_Bb (e := D.int) .z) (p_C (e := D.int)) ot_div) (p_C (e := D.int)) ot_mod) ot_addI)) trivial (fun _ => rf_fr _)
  · refine t_nxl ?_
    exact t_ret (eb := D.int) (Pv.x (pp_bin (p_C (e := D.int)) (pp_bin (p_Bb (e := D.int) .z) (p_C (e := D.int)) ot_mod) ot_addI)) trivial (fun _ => rf_fr _)
def f_l_marks (v_cell : Int) (v_many : Int) : M (List Str) := runO none (
 (M.bind (M.pure ("abcdefghijklmnopqrstuvwxyz" : Str)) fun v_letters =>
 (M.bind (M.opt (gCutS ("marksof" : Str) none (some (v_cell % (8 : Int))))) fun v_base =>
 (M.bind (M.bind (M.bind (M.opt (gLenS v_base)) fun t1 => M.pure (t1 + (1 : Int))) fun t2 => M.opt (gMod (v_cell / (8 : Int)) t2)) fun v_at =>
 (M.bind (M.pure ((v_cell / (64 : Int)) % (26 : Int))) fun v_first =>
 (M.bind (M.pure ((1 : Int) + ((v_cell / (1664 : Int)) % (8 : Int)))) fun v_step =>
 (bindO (σ := Int) (if (decide (v_many > (6 : Int))) = true then
 (M.bind (M.pure (1 : Int)) fun v_step =>
 (M.pure (.nx v_step)))
 else (M.pure (.nx v_step))) fun s4 =>
 (M.bind (M.bind (M.opt (gR1 v_many)) fun t14 => lcO (fun x5 => (M.pure true)) (fun x5 => (M.bind (M.bind (M.opt (gCutS v_base none (some v_at))) fun t10 => M.bind (M.bind (M.bind (M.bind (M.bind (M.opt (gMul x5 s4)) fun t6 => M.pure (v_first + t6)) fun t7 => M.pure (t7 % (26 : Int))) fun t8 => M.opt (gIxS v_letters t8)) fun t9 => M.pure (S1 t9)) fun t11 => M.opt (gCatS t10 t11)) fun t12 => M.bind (M.opt (gCutS v_base (some v_at) none)) fun t13 => M.opt (gCatS t12 t13))) t14 []) fun t15 => M.pure (.rt t15)))))))))
theorem tyN_l_marks (v_cell : Int) (v_many : Int) : FnN (eL D.str) m_l_marks [D.int v_cell, D.int v_many] (f_l_marks v_cell v_many) := by
  unfold f_l_marks
  refine t_fnN (Ef := fun _ => [.un, .un, .un, .un, .un, .un, .un, .un]) (Lf := fun _ => []) rfl (.t (.t (.n (.s (.s (.s (.s (.s (.s .z))))))))) ?_
  unfold c_l_marks
  refine t_set (en := D.str) (Pv.x (p_C (e := D.str))) trivial (fun _ => (.s (.s .z))) (fun v_letters => ?_)
  refine t_set (en := D.str) (p_CutO (p_C (e := D.str)) p_No (p_At (pp_bin (p_Bb (e := D.int) .z) (p_C (e := D.int)) ot_mod)) (fun _ => oo_cutS)) trivial (fun _ => (.s (.s (.s .z)))) (fun v_base => ?_)
  refine t_set (en := D.int) (px_binO (pp_bin (p_Bb (e := D.int) .z) (p_C (e := D.int)) ot_div) (xp_bin (p_FnO (ez := D.int) (p_aCons (ea := D.str) (p_Bf (e := D.str) (.s (.s (.s .z)))) p_aNil) (fun _ => oo_lenS)) (p_C (e := D.int)) (fun _ => ot_addI)) (fun _ _ => oo_mod)) trivial (fun _ => (.s (.s (.s (.s .z))))) (fun v_at => ?_)
  refine t_set (en := D.int) (Pv.x (pp_bin (pp_bin (p_Bb (e := D.int) .z) (p_C (e := D.int)) ot_div) (p_C (e := D.int)) ot_mod)) trivial (fun _ => (.s (.s (.s (.s (.s .z)))))) (fun v_first => ?_)
  refine t_set (en := D.int) (Pv.x (pp_bin (p_C (e := D.int)) (pp_bin (pp_bin (p_Bb (e := D.int) .z) (p_C (e := D.int)) ot_div) (p_C (e := D.int)) ot_mod) ot_addI)) trivial (fun _ => (.s (.s (.s (.s (.s (.s .z))))))) (fun v_step => ?_)
  refine t_seq (E' := (fun s4 : Int => ([.un, .bo (D.int v_many), .fr (D.str v_letters), .fr (D.str v_base), .fr (D.int v_at), .fr (D.int v_first), .fr (D.int s4), .un] : Env))) (t_ifP1 (p_TrB (pp_bin (p_Bb (e := D.int) (.s .z)) (p_C (e := D.int)) ot_gt)) ?_ ?_) (fun s4 => ?_)
  · refine t_set (en := D.int) (Pv.x (p_C (e := D.int))) trivial (fun _ => (.s (.s (.s (.s (.s (.s .z))))))) (fun v_step => ?_)
    refine t_wipe (is := [0, 7]) (.cons (.cons .nil (.s (.s (.s (.s (.s (.s (.s .z)))))))) .z) ?_
    exact t_nil rfl
  · refine t_wipe (is := [0, 7]) (.cons (.cons .nil (.s (.s (.s (.s (.s (.s (.s .z)))))))) .z) ?_
    exact t_nil rfl
  · generalize (13 : Int) = z13
    generalize (14 : Int) = z14
    generalize (41 : Int) = z41
    exact t_retN (eb := (eL D.str)) (x_Lc' (ei := D.int) (eb := D.str) (p_iFn (ez := D.int) (p_aCons (ea := D.int) (p_Bb (e := D.int) (.s .z)) p_aNil) (fun _ => oo_R1)) (.cons .nil (.s (.s (.s (.s (.s (.s (.s .z)))))))) (fun _ => (tgN (.s (.s (.s (.s (.s (.s (.s .z))))))))) (fun x5 => (Pv.x p_Yes)) (fun x5 => (xx_binO (xx_binO (p_CutO (p_Bf (e := D.str) (.s (.s (.s .z)))) p_No (p_At (p_Bf (e := D.int) (.s (.s (.s (.s .z)))))) (fun _ => oo_cutS)) (x_as (ea := eCh) (e' := D.str) (px_binO (p_Bf (e := D.str) (.s (.s .z))) (xp_bin (px_bin (p_Bf (e := D.int) (.s (.s (.s (.s (.s .z)))))) (pp_binO (p_Bf (e := D.int) (.s (.s (.s (.s (.s (.s (.s .z)))))))) (p_Bf (e := D.int) (.s (.s (.s (.s (.s (.s .z))))))) (fun _ => oo_mul)) (fun _ => ot_addI)) (p_C (e := D.int)) (fun _ => ot_mod)) (fun _ _ => oo_ixS)) (fun _ => rfl)) (fun _ _ _ => oo_catS)) (p_CutO (p_Bf (e := D.str) (.s (.s (.s .z)))) (p_At (p_Bf (e := D.int) (.s (.s (.s (.s .z)))))) p_No (fun _ => oo_cutS)) (fun _ _ _ => oo_catS)))) trivial (fun _ => rn_ow _)
theorem ty_l_marks (v_cell : Int) (v_many : Int) : FnT (eL D.str) m_l_marks [D.int v_cell, D.int v_many] (f_l_marks v_cell v_many) := (tyN_l_marks v_cell v_many).toT
def f_l_pick (v_cell : Int) (v_marks_here : (List Str)) : M Str := runO none (
 (if (decide (((List.length v_marks_here : Nat) : Int) > (7 : Int))) = true then
 (M.bind (M.bind (M.opt (gMod (((5 : Int) * v_cell) + (v_cell / (7 : Int))) ((List.length v_marks_here : Nat) : Int))) fun t2 => M.opt (gIx v_marks_here t2)) fun t3 => M.pure (.rt t3))
 else (M.bind (M.bind (M.opt (gMod (v_cell % (7 : Int)) ((List.length v_marks_here : Nat) : Int))) fun t4 => M.opt (gIx v_marks_here t4)) fun t5 => M.pure (.rt t5))))
theorem ty_l_pick (v_cell : Int) (v_marks_here : (List Str)) : FnT D.str m_l_pick [D.int v_cell, (eL D.str) v_marks_here] (f_l_pick v_cell v_marks_here) := by
  unfold f_l_pick
  refine t_fn (Ef := fun _ => [.un, .un]) (Lf := fun _ => []) rfl (.t (.t (.n .z))) (fun _ h => nomatch h) ?_
  unfold c_l_pick
  refine t_ifP (p_TrB (pp_bin (p_Fn (ez := D.int) (p_aCons (ea := (eL D.str)) (p_Bb (e := (eL D.str)) (.s .z)) p_aNil) ot_lenL) (p_C (e := D.int)) ot_gt)) ?_ ?_
  · refine t_assoc ?_
    exact t_ret (eb := D.str) (px_binO (p_Bb (e := (eL D.str)) (.s .z)) (pp_binO (pp_bin (pp_bin (p_C (e := D.int)) (p_Bb (e := D.int) .z) ot_mulL) (pp_bin (p_Bb (e := D.int) .z) (p_C (e := D.int)) ot_div) ot_addI) (p_Fn (ez := D.int) (p_aCons (ea := (eL D.str)) (p_Bb (e := (eL D.str)) (.s .z)) p_aNil) ot_lenL) (fun _ => oo_mod)) (fun _ _ => oo_ixL)) trivial (fun _ => rf_fr _)
  · refine t_nxl ?_
    exact t_ret (eb := D.str) (px_binO (p_Bb (e := (eL D.str)) (.s .z)) (pp_binO (pp_bin (p_Bb (e := D.int) .z) (p_C (e := D.int)) ot_mod) (p_Fn (ez := D.int) (p_aCons (ea := (eL D.str)) (p_Bb (e := (eL D.str)) (.s .z)) p_aNil) ot_lenL) (fun _ => oo_mod)) (fun _ _ => oo_ixL)) trivial (fun _ => rf_fr _)
abbrev L1_l_nodes (v_cells : (List Int)) (v_marks_here : (List Str)) (v_chain : Bool) : ((List (Str × Int)) × Int) → Env := fun s => [.bo ((eL D.int) v_cells), .bo ((eL D.str) v_marks_here), .ow ((eL (eP2 D.str D.int)) s.1), .fr (D.int s.2), .fr (D.bl v_chain), .un, .un]
def f_b1_l_nodes (v_marks_here : (List Str)) (v_chain : Bool) (x4 : Int) (v_nodes_here : (List (Str × Int))) (v_deepest : Int) : M (O ((List (Str × Int)) × Int) ((List (Str × Int)) × Int) (List (Str × Int))) :=
 (M.bind (M.opt (gMod (x4 / (14 : Int)) (v_deepest + (1 : Int)))) fun v_depth =>
 (bindO (σ := Int) (if (v_chain || (decide (((x4 / (7 : Int)) % (2 : Int)) = (0 : Int)))) = true then
 (M.bind (M.pure v_deepest) fun v_depth =>
 (M.pure (.nx v_depth)))
 else (M.pure (.nx v_depth))) fun s10 =>
 (M.bind (M.bind (f_l_pick x4 v_marks_here) fun t11 => M.pure (t11, s10)) fun t12 => M.bind (M.opt (gApp v_nodes_here t12)) fun v_nodes_here =>
 (M.bind (M.pure (min2 (s10 + (1 : Int)) (12 : Int))) fun v_deepest =>
 (M.pure (.nx (v_nodes_here, v_deepest)))))))
theorem t_b1_l_nodes (v_cells : (List Int)) (v_marks_here : (List Str)) (v_chain : Bool) (x4 : Int) (v_nodes_here : (List (Str × Int))) (v_deepest : Int) : Sm (L1_l_nodes v_cells v_marks_here v_chain) (L1_l_nodes v_cells v_marks_here v_chain) (RN (eL (eP2 D.str D.int))) XT b1_l_nodes [.bo ((eL D.int) v_cells), .bo ((eL D.str) v_marks_here), .ow ((eL (eP2 D.str D.int)) v_nodes_here), .fr (D.int v_deepest), .fr (D.bl v_chain), .fr (D.int x4), .un] (f_b1_l_nodes v_marks_here v_chain x4 v_nodes_here v_deepest) := by
  unfold b1_l_nodes f_b1_l_nodes
  refine t_set (en := D.int) (pp_binO (pp_bin (p_Bf (e := D.int) (.s (.s (.s (.s (.s .z)))))) (p_C (e := D.int)) ot_div) (pp_bin (p_Bf (e := D.int) (.s (.s (.s .z)))) (p_C (e := D.int)) ot_addI) (fun _ => oo_mod)) trivial (fun _ => (.s (.s (.s (.s (.s (.s .z))))))) (fun v_depth => ?_)
  refine t_seq (E' := (fun s10 : Int => ([.bo ((eL D.int) v_cells), .bo ((eL D.str) v_marks_here), .ow ((eL (eP2 D.str D.int)) v_nodes_here), .un, .fr (D.bl v_chain), .fr (D.int x4), .fr (D.int s10)] : Env))) (t_ifP1 (p_tOr (p_TrB (p_Bf (e := D.bl) (.s (.s (.s (.s .z)))))) (p_TrB (pp_bin (pp_bin (pp_bin (p_Bf (e := D.int) (.s (.s (.s (.s (.s .z)))))) (p_C (e := D.int)) ot_div) (p_C (e := D.int)) ot_mod) (p_C (e := D.int)) (ot_eq eqI)))) ?_ ?_) (fun s10 => ?_)
  · refine t_set (en := D.int) (Pv.x (p_V (e := D.int) (.s (.s (.s .z))))) trivial (fun _ => (.s (.s (.s (.s (.s (.s .z))))))) (fun v_depth => ?_)
    refine t_wipe (is := [3]) (.cons .nil (.s (.s (.s .z)))) ?_
    exact t_nil rfl
  · refine t_wipe (is := [3]) (.cons .nil (.s (.s (.s .z)))) ?_
    exact t_nil rfl
  · refine t_app (en := (eP2 D.str D.int)) (.s (.s .z)) (x_Tup' (ez := (eP2 D.str D.int)) (xa_1 (ea := D.str) (x_callP (p_aCons (ea := D.int) (p_Bf (e := D.int) (.s (.s (.s (.s (.s .z)))))) (p_aCons (ea := (eL D.str)) (p_Bb (e := (eL D.str)) (.s .z)) p_aNil)) (ty_l_pick _ _)) (p_aCons (ea := D.int) (p_V (e := D.int) (.s (.s (.s (.s (.s (.s .z))))))) p_aNil)) (fun _ => Nat.le_of_ble_eq_true rfl) (fun _ => rfl)) trivial (fun _ => (.s (.s .z))) (fun v_nodes_here => ?_)
    refine t_set (en := D.int) (Pv.x (p_Fn (ez := D.int) (p_aCons (ea := D.int) (pp_bin (p_Bf (e := D.int) (.s (.s (.s (.s (.s (.s .z))))))) (p_C (e := D.int)) ot_addI) (p_aCons (ea := D.int) (p_C (e := D.int)) p_aNil)) ot_min2)) trivial (fun _ => (.s (.s (.s .z)))) (fun v_deepest => ?_)
    refine t_wipe (is := [5, 6]) (.cons (.cons .nil (.s (.s (.s (.s (.s (.s .z))))))) (.s (.s (.s (.s (.s .z)))))) ?_
    exact t_nil rfl
def f_l_nodes (v_cells : (List Int)) (v_marks_here : (List Str)) : M (List (Str × Int)) := runO none (
 (M.bind (M.pure ([] : List (Str × Int))) fun v_nodes_here =>
 (M.bind (M.pure (0 : Int)) fun v_deepest =>
 (M.bind (if (decide (((List.length v_cells : Nat) : Int) > (0 : Int))) = true then (M.bind (M.bind (M.opt (gIx v_cells (0 : Int))) fun t1 => M.pure (t1 % (8 : Int))) fun t2 => M.pure (decide (t2 = (5 : Int)))) else M.pure false) fun v_chain =>
 (M.bind (M.pure v_cells) fun t13 => bindO (forO (fun x s3 => f_b1_l_nodes v_marks_here v_chain x s3.1 s3.2) t13 ((v_nodes_here, v_deepest) : ((List (Str × Int)) × Int))) fun s3 =>
 (M.pure (.rt s3.1)))))))
theorem tyN_l_nodes (v_cells : (List Int)) (v_marks_here : (List Str)) : FnN (eL (eP2 D.str D.int)) m_l_nodes [(eL D.int) v_cells, (eL D.str) v_marks_here] (f_l_nodes v_cells v_marks_here) := by
  unfold f_l_nodes
  refine t_fnN (Ef := fun _ => [.un, .un, .un, .un, .un, .un, .un]) (Lf := fun _ => []) rfl (.t (.t (.n (.s (.s (.s (.s (.s .z)))))))) ?_
  unfold c_l_nodes
  refine t_setN (en := (eL (eP2 D.str D.int))) (Pv.x (p_Lst (ez := (eL (eP2 D.str D.int))) p_aNil (Nat.le_of_ble_eq_true rfl) rfl)) trivial (fun _ => (.s (.s .z))) (fun v_nodes_here => ?_)
  refine t_set (en := D.int) (Pv.x (p_C (e := D.int))) trivial (fun _ => (.s (.s (.s .z)))) (fun v_deepest => ?_)
  refine t_set (en := D.bl) (px_And (pp_bin (p_Fn (ez := D.int) (p_aCons (ea := (eL D.int)) (p_Bb (e := (eL D.int)) .z) p_aNil) ot_lenL) (p_C (e := D.int)) ot_gt) (xp_bin (xp_bin (pp_binO (p_Bb (e := (eL D.int)) .z) (p_C (e := D.int)) (fun _ => oo_ixL)) (p_C (e := D.int)) (fun _ => ot_mod)) (p_C (e := D.int)) (fun _ => (ot_eq eqI)))) trivial (fun _ => (.s (.s (.s (.s .z))))) (fun v_chain => ?_)
  refine t_wipe (is := []) .nil ?_
  refine t_for (L' := (L1_l_nodes v_cells v_marks_here v_chain)) (ei := D.int) (Pv.x (p_iBb (ea := D.int) .z)) trivial rfl (fun _ _ => (tgN (.s (.s (.s (.s (.s .z))))))) (fun x s => t_b1_l_nodes v_cells v_marks_here v_chain x s.1 s.2) (fun s3 => ?_)
  show Sm _ _ _ _ _ [.bo ((eL D.int) v_cells), .bo ((eL D.str) v_marks_here), .ow ((eL (eP2 D.str D.int)) s3.1), .fr (D.int s3.2), .fr (D.bl v_chain), .un, .un] _
  exact t_retVo (eb := (eL (eP2 D.str D.int))) (.s (.s .z)) (rn_ow _)
theorem ty_l_nodes (v_cells : (List Int)) (v_marks_here : (List Str)) : FnT (eL (eP2 D.str D.int)) m_l_nodes [(eL D.int) v_cells, (eL D.str) v_marks_here] (f_l_nodes v_cells v_marks_here) := (tyN_l_nodes v_cells v_marks_here).toT
abbrev L2_l_forest_text (v_nodes_here : (List (Str × Int))) (v_k : Int) : Str → Env := fun s => [.bo ((eL (eP2 D.str D.int)) v_nodes_here), .fr (D.str s), .fr (D.int v_k), .un]
def f_b2_l_forest_text  (x74 : Int) (v_text : Str) : M (O Str Str Str) :=
 (M.bind (M.opt (gCatS v_text (")" : Str))) fun v_text =>
 (M.pure (.nx v_text)))
theorem t_b2_l_forest_text (v_nodes_here : (List (Str × Int))) (v_k : Int) (x74 : Int) (v_text : Str) : Sm (L2_l_forest_text v_nodes_here v_k) (L2_l_forest_text v_nodes_here v_k) (RF D.str) XT b2_l_forest_text [.bo ((eL (eP2 D.str D.int)) v_nodes_here), .fr (D.str v_text), .fr (D.int v_k), .fr (D.int x74)] (f_b2_l_forest_text  x74 v_text) := by
  unfold b2_l_forest_text f_b2_l_forest_text
  refine t_set (en := D.str) (pp_binO (p_Bf (e := D.str) (.s .z)) (p_C (e := D.str)) (fun _ => oo_catS)) trivial (fun _ => (.s .z)) (fun v_text => ?_)
  refine t_wipe (is := [3]) (.cons .nil (.s (.s (.s .z)))) ?_
  exact t_nil rfl
abbrev L1_l_forest_text (v_nodes_here : (List (Str × Int))) : Str → Env := fun s => [.bo ((eL (eP2 D.str D.int)) v_nodes_here), .fr (D.str s), .un, .un]
def f_b1_l_forest_text (v_nodes_here : (List (Str × Int))) (x2 : Int) (v_text : Str) : M (O Str Str Str) :=
 (bindO (σ := Str) (M.bind (if (decide (x2 > (0 : Int))) = true then (M.bind (M.bind (M.opt (gIx v_nodes_here x2)) fun t43 => M.pure (t43.2)) fun t45 => M.bind (M.bind (M.opt (gIx v_nodes_here (x2 - (1 : Int)))) fun t44 => M.pure (t44.2)) fun t46 => M.pure (decide (t45 > t46))) else M.pure false) fun t47 => if t47 = true then
 (M.bind (M.opt (gCatS v_text ("(" : Str))) fun v_text =>
 (M.pure (.nx v_text)))
 else (M.pure (.nx v_text))) fun s48 =>
 (bindO (σ := Str) (M.bind (if (decide (x2 > (0 : Int))) = true then (M.bind (M.bind (M.opt (gIx v_nodes_here x2)) fun t49 => M.pure (t49.2)) fun t51 => M.bind (M.bind (M.opt (gIx v_nodes_here (x2 - (1 : Int)))) fun t50 => M.pure (t50.2)) fun t52 => M.pure (decide (t51 ≤ t52))) else M.pure false) fun t53 => if t53 = true then
 (M.bind (M.bind (M.bind (M.bind (M.opt (gIx v_nodes_here (x2 - (1 : Int)))) fun t75 => M.pure (t75.2)) fun t77 => M.bind (M.bind (M.opt (gIx v_nodes_here x2)) fun t76 => M.pure (t76.2)) fun t78 => M.pure (t77 - t78)) fun t79 => M.opt (gR1 t79)) fun t80 => bindO (forO (fun x s73 => f_b2_l_forest_text  x s73) t80 (s48 : Str)) fun s73 =>
 (M.bind (M.opt (gCatS s73 ("," : Str))) fun v_text =>
 (M.pure (.nx v_text))))
 else (M.pure (.nx s48))) fun s67 =>
 (M.bind (M.bind (M.bind (M.opt (gIx v_nodes_here x2)) fun t81 => M.pure (t81.1)) fun t82 => M.opt (gCatS s67 t82)) fun v_text =>
 (M.pure (.nx v_text)))))
theorem t_b1_l_forest_text (v_nodes_here : (List (Str × Int))) (x2 : Int) (v_text : Str) : Sm (L1_l_forest_text v_nodes_here) (L1_l_forest_text v_nodes_here) (RF D.str) XT b1_l_forest_text [.bo ((eL (eP2 D.str D.int)) v_nodes_here), .fr (D.str v_text), .fr (D.int x2), .un] (f_b1_l_forest_text v_nodes_here x2 v_text) := by
  unfold b1_l_forest_text f_b1_l_forest_text
  refine t_seq (E' := (fun s48 : Str => ([.bo ((eL (eP2 D.str D.int)) v_nodes_here), .fr (D.str s48), .fr (D.int x2), .un] : Env))) (t_if1 (px_tAnd (p_TrB (pp_bin (p_Bf (e := D.int) (.s (.s .z))) (p_C (e := D.int)) ot_gt)) (x_TrBm (xx_bin (xp_bin (pp_binO (p_Bb (e := (eL (eP2 D.str D.int))) .z) (p_Bf (e := D.int) (.s (.s .z))) (fun _ => oo_ixL)) (p_C (e := D.int)) (fun _ => ot_ixP2b)) (xp_bin (pp_binO (p_Bb (e := (eL (eP2 D.str D.int))) .z) (pp_bin (p_Bf (e := D.int) (.s (.s .z))) (p_C (e := D.int)) ot_sub) (fun _ => oo_ixL)) (p_C (e := D.int)) (fun _ => ot_ixP2b)) (fun _ _ => ot_gt)))) trivial ?_ ?_) (fun s48 => ?_)
  · refine t_set (en := D.str) (pp_binO (p_Bf (e := D.str) (.s .z)) (p_C (e := D.str)) (fun _ => oo_catS)) trivial (fun _ => (.s .z)) (fun v_text => ?_)
    refine t_wipe (is := [3]) (.cons .nil (.s (.s (.s .z)))) ?_
    exact t_nil rfl
  · refine t_wipe (is := [3]) (.cons .nil (.s (.s (.s .z)))) ?_
    exact t_nil rfl
  · refine t_seq (E' := (fun s67 : Str => ([.bo ((eL (eP2 D.str D.int)) v_nodes_here), .fr (D.str s67), .fr (D.int x2), .un] : Env))) (t_if1 (px_tAnd (p_TrB (pp_bin (p_Bf (e := D.int) (.s (.s .z))) (p_C (e := D.int)) ot_gt)) (x_TrBm (xx_bin (xp_bin (pp_binO (p_Bb (e := (eL (eP2 D.str D.int))) .z) (p_Bf (e := D.int) (.s (.s .z))) (fun _ => oo_ixL)) (p_C (e := D.int)) (fun _ => ot_ixP2b)) (xp_bin (pp_binO (p_Bb (e := (eL (eP2 D.str D.int))) .z) (pp_bin (p_Bf (e := D.int) (.s (.s .z))) (p_C (e := D.int)) ot_sub) (fun _ => oo_ixL)) (p_C (e := D.int)) (fun _ => ot_ixP2b)) (fun _ _ => ot_le)))) trivial ?_ ?_) (fun s67 => ?_)
    · refine t_wipe (is := []) .nil ?_
      generalize (13 : Int) = z13
      generalize (14 : Int) = z14
      generalize (41 : Int) = z41
      refine t_for (L' := (L2_l_forest_text v_nodes_here x2)) (ei := D.int) (x_iFn' (ez := D.int) (xa_1 (ea := D.int) (xx_bin (xp_bin (pp_binO (p_Bb (e := (eL (eP2 D.str D.int))) .z) (pp_bin (p_Bf (e := D.int) (.s (.s .z))) (p_C (e := D.int)) ot_sub) (fun _ => oo_ixL)) (p_C (e := D.int)) (fun _ => ot_ixP2b)) (xp_bin (pp_binO (p_Bb (e := (eL (eP2 D.str D.int))) .z) (p_Bf (e := D.int) (.s (.s .z))) (fun _ => oo_ixL)) (p_C (e := D.int)) (fun _ => ot_ixP2b)) (fun _ _ => ot_sub)) p_aNil) (fun _ _ => oo_R1)) trivial rfl (fun _ _ => (tgN (.s (.s (.s .z))))) (fun x s => t_b2_l_forest_text v_nodes_here x2 x s) (fun s73 => ?_)
      show Sm _ _ _ _ _ [.bo ((eL (eP2 D.str D.int)) v_nodes_here), .fr (D.str s73), .fr (D.int x2), .un] _
      refine t_set (en := D.str) (pp_binO (p_Bf (e := D.str) (.s .z)) (p_C (e := D.str)) (fun _ => oo_catS)) trivial (fun _ => (.s .z)) (fun v_text => ?_)
      refine t_wipe (is := [3]) (.cons .nil (.s (.s (.s .z)))) ?_
      exact t_nil rfl
    · refine t_wipe (is := [3]) (.cons .nil (.s (.s (.s .z)))) ?_
      exact t_nil rfl
    · refine t_set (en := D.str) (px_binO (p_Bf (e := D.str) (.s .z)) (xp_bin (pp_binO (p_Bb (e := (eL (eP2 D.str D.int))) .z) (p_Bf (e := D.int) (.s (.s .z))) (fun _ => oo_ixL)) (p_C (e := D.int)) (fun _ => ot_ixP2a)) (fun _ _ => oo_catS)) trivial (fun _ => (.s .z)) (fun v_text => ?_)
      refine t_wipe (is := [2, 3]) (.cons (.cons .nil (.s (.s (.s .z)))) (.s (.s .z))) ?_
      exact t_nil rfl
abbrev L3_l_forest_text (v_nodes_here : (List (Str × Int))) : Str → Env := fun s => [.bo ((eL (eP2 D.str D.int)) v_nodes_here), .fr (D.str s), .un, .un]
def f_b3_l_forest_text  (x95 : Int) (v_text : Str) : M (O Str Str Str) :=
 (M.bind (M.opt (gCatS v_text (")" : Str))) fun v_text =>
 (M.pure (.nx v_text)))
theorem t_b3_l_forest_text (v_nodes_here : (List (Str × Int))) (x95 : Int) (v_text : Str) : Sm (L3_l_forest_text v_nodes_here) (L3_l_forest_text v_nodes_here) (RF D.str) XT b3_l_forest_text [.bo ((eL (eP2 D.str D.int)) v_nodes_here), .fr (D.str v_text), .un, .fr (D.int x95)] (f_b3_l_forest_text  x95 v_text) := by
  unfold b3_l_forest_text f_b3_l_forest_text
  refine t_set (en := D.str) (pp_binO (p_Bf (e := D.str) (.s .z)) (p_C (e := D.str)) (fun _ => oo_catS)) trivial (fun _ => (.s .z)) (fun v_text => ?_)
  refine t_wipe (is := [2, 3]) (.cons (.cons .nil (.s (.s (.s .z)))) (.s (.s .z))) ?_
  exact t_nil rfl
def f_l_forest_text (v_nodes_here : (List (Str × Int))) : M Str := runO none (
 (M.bind (M.pure ("" : Str)) fun v_text =>
 (M.bind (M.opt (gR1 ((List.length v_nodes_here : Nat) : Int))) fun t100 => bindO (forO (fun x s1 => f_b1_l_forest_text v_nodes_here x s1) t100 (v_text : Str)) fun s1 =>
 (bindO (σ := Str) (if (decide (((List.length v_nodes_here : Nat) : Int) > (0 : Int))) = true then
 (M.bind (M.bind (M.bind (M.opt (gIx v_nodes_here (-(1 : Int)))) fun t96 => M.pure (t96.2)) fun t97 => M.opt (gR1 t97)) fun t98 => bindO (forO (fun x s94 => f_b3_l_forest_text  x s94) t98 (s1 : Str)) fun s94 =>
 (M.pure (.nx s94)))
 else (M.pure (.nx s1))) fun s91 =>
 (M.bind (M.pure s91) fun t99 => M.pure (.rt t99))))))
theorem ty_l_forest_text (v_nodes_here : (List (Str × Int))) : FnT D.str m_l_forest_text [(eL (eP2 D.str D.int)) v_nodes_here] (f_l_forest_text v_nodes_here) := by
  unfold f_l_forest_text
  refine t_fn (Ef := fun _ => [.un, .un, .un, .un]) (Lf := fun _ => []) rfl (.t (.n (.s (.s (.s .z))))) (fun _ h => nomatch h) ?_
  unfold c_l_forest_text
  refine t_set (en := D.str) (Pv.x (p_C (e := D.str))) trivial (fun _ => (.s .z)) (fun v_text => ?_)
  refine t_wipe (is := []) .nil ?_
  generalize (13 : Int) = z13
  generalize (14 : Int) = z14
  generalize (41 : Int) = z41
  refine t_for (L' := (L1_l_forest_text v_nodes_here)) (ei := D.int) (p_iFn (ez := D.int) (p_aCons (ea := D.int) (p_Fn (ez := D.int) (p_aCons (ea := (eL (eP2 D.str D.int))) (p_Bb (e := (eL (eP2 D.str D.int))) .z) p_aNil) ot_lenL) p_aNil) (fun _ => oo_R1)) trivial rfl (fun _ _ => (tgN (.s (.s .z)))) (fun x s => t_b1_l_forest_text v_nodes_here x s) (fun s1 => ?_)
  show Sm _ _ _ _ _ [.bo ((eL (eP2 D.str D.int)) v_nodes_here), .fr (D.str s1), .un, .un] _
  refine t_seq (E' := (fun s91 : Str => ([.un, .fr (D.str s91), .un, .un] : Env))) (t_ifP1 (p_TrB (pp_bin (p_Fn (ez := D.int) (p_aCons (ea := (eL (eP2 D.str D.int))) (p_Bb (e := (eL (eP2 D.str D.int))) .z) p_aNil) ot_lenL) (p_C (e := D.int)) ot_gt)) ?_ ?_) (fun s91 => ?_)
  · refine t_wipe (is := []) .nil ?_
    generalize (13 : Int) = z13
    generalize (14 : Int) = z14
    generalize (41 : Int) = z41
    refine t_for (L' := (L3_l_forest_text v_nodes_here)) (ei := D.int) (x_iFn' (ez := D.int) (xa_1 (ea := D.int) (xp_bin (pp_binO (p_Bb (e := (eL (eP2 D.str D.int))) .z) (p_un (p_C (e := D.int)) ot_neg) (fun _ => oo_ixL)) (p_C (e := D.int)) (fun _ => ot_ixP2b)) p_aNil) (fun _ _ => oo_R1)) trivial rfl (fun _ _ => (tgN (.s (.s (.s .z))))) (fun x s => t_b3_l_forest_text v_nodes_here x s) (fun s94 => ?_)
    show Sm _ _ _ _ _ [.bo ((eL (eP2 D.str D.int)) v_nodes_here), .fr (D.str s94), .un, .un] _
    refine t_wipe (is := [0, 2, 3]) (.cons (.cons (.cons .nil (.s (.s (.s .z)))) (.s (.s .z))) .z) ?_
    exact t_nil rfl
  · refine t_wipe (is := [0, 2, 3]) (.cons (.cons (.cons .nil (.s (.s (.s .z)))) (.s (.s .z))) .z) ?_
    exact t_nil rfl
  · exact t_ret (eb := D.str) (Pv.x (p_V (e := D.str) (.s .z))) trivial (fun _ => rf_fr _)
def f_l_refused (v_text : D) : M Bool := runO none (
 (bindO (σ := Unit) (tryO hit_ShrinkError
 (M.bind (f_p_read_thing v_text) fun t19 =>
 (M.pure (.nx ())))
 (fun n => (M.bind (M.noexc (M.bind (M.bind (isXM isx_NoThing (D.exn n)) fun t24 => M.bind (M.bind (isXM isx_NoPlace (D.exn n)) fun t22 => M.bind (M.bind (isXM isx_NoFault (D.exn n)) fun t20 => M.bind (isXM isx_NoRule (D.exn n)) fun t21 => M.pure (t20, t21)) fun t23 => M.pure (t22, t23)) fun t25 => M.pure (t24, t25)) fun t26 => M.pure [t26.1, t26.2.1, t26.2.2.1, t26.2.2.2])) fun t34 => if List.any t34 id = true then (M.bind (M.noexc (M.pure false)) fun t35 => M.pure (.rt t35)) else
 (M.bind (M.bind (isXM isx_Spent (D.exn n)) fun t29 => (if t29 = true then M.pure true else (M.bind (isXM isx_Healthy (D.exn n)) fun t28 => (if t28 = true then M.pure true else (isXM isx_NoRow (D.exn n)))))) fun t30 => if t30 = true then
 (M.bind (M.pure false) fun t31 => M.pure (.rt t31))
 else (M.bind (M.bind (isXM isx_NoText (D.exn n)) fun t32 => (if t32 = true then (isXM isx_ValueError (D.exn n)) else M.pure false)) fun t33 => M.pure (.rt t33)))))) fun s18 =>
 (M.bind (M.pure false) fun t36 => M.pure (.rt t36))))
theorem ty_l_refused (v_text : D) : FnT D.bl m_l_refused [iN v_text] (f_l_refused v_text) := by
  unfold f_l_refused
  refine t_fn (Ef := fun _ => [.un, .un, .un]) (Lf := fun _ => []) rfl (.t (.n (.s (.s .z)))) (fun _ h => nomatch h) ?_
  unfold c_l_refused
  refine t_seq (E' := (fun s18 : Unit => ([.un, .un, .un] : Env))) (t_tryT ?_ trivial (fun _ => (.s .z)) (fun n => ?_) (fun _ => rfl) (fun _ => rfl)) (fun s18 => ?_)
  · refine t_drop (en := iN) (x_callP (p_aCons (ea := iN) (p_Bb (e := iN) .z) p_aNil) (ty_p_read_thing _)) rfl (fun _ => ?_)
    refine t_wipe (is := [0, 1, 2]) (.cons (.cons (.cons .nil (.s (.s .z))) (.s .z)) .z) ?_
    exact t_nil rfl
  · refine t_forK (.s .z) (.s (.s .z)) (.s (.s .z)) (x_Lst' (ez := (eL D.bl)) (xa_X (ea := D.bl) (p_isX (p_Bf (e := iN) (.s .z))) (xa_X (ea := D.bl) (p_isX (p_Bf (e := iN) (.s .z))) (xa_X (ea := D.bl) (p_isX (p_Bf (e := iN) (.s .z))) (xa_1 (ea := D.bl) (p_isX (p_Bf (e := iN) (.s .z))) p_aNil)))) (fun _ => Nat.le_of_ble_eq_true rfl) (fun _ => rfl)) ?_ ?_
    · exact t_ret (eb := D.bl) (Pv.x (p_C (e := D.bl))) trivial (fun _ => rf_fr _)
    · refine t_if (xx_tOr (x_TrBm (p_isX (p_Bf (e := iN) (.s .z)))) (xx_tOr (x_TrBm (p_isX (p_Bf (e := iN) (.s .z)))) (x_TrBm (p_isX (p_Bf (e := iN) (.s .z)))))) trivial ?_ ?_
      · refine t_assoc ?_
        exact t_ret (eb := D.bl) (Pv.x (p_C (e := D.bl))) trivial (fun _ => rf_fr _)
      · refine t_nxl ?_
        exact t_ret (eb := D.bl) (xx_And (p_isX (p_Bf (e := iN) (.s .z))) (p_isX (p_Bf (e := iN) (.s .z)))) trivial (fun _ => rf_fr _)
  · exact t_ret (eb := D.bl) (Pv.x (p_C (e := D.bl))) trivial (fun _ => rf_fr _)
def f_l_wrong_by_any (v_text : Str) (v_cell : Int) (v_mark : Str) : M D := runO none (
 (M.bind (M.pure (v_cell % (6 : Int))) fun v_way =>
 (if (decide (v_way = (0 : Int))) = true then
 (M.bind (M.pure [(iU ()), (D.int (3 : Int)), (D.bl true), ((eL D.str) [v_text]), ((eTL D.str) [v_text]), (D.str ("" : Str)), (D.str (" " : Str)), (D.str ("rows a" : Str)), (D.str ("Row" : Str)), (D.str ("tables" : Str)), (D.str ("Forest" : Str)), (D.str ("forests a" : Str))]) fun v_some =>
 (M.bind (M.opt (gIx v_some ((v_cell / (6 : Int)) % (12 : Int)))) fun t2 => M.pure (.rt t2)))
 else (if (decide (v_way = (1 : Int))) = true then
 (M.bind (M.bind (M.bind (M.bind (M.opt (gCutS v_text none (some (1 : Int)))) fun t4 => M.opt (gUp t4)) fun t5 => M.bind (M.opt (gCutS v_text (some (1 : Int)) none)) fun t6 => M.opt (gCatS t5 t6)) fun t7 => M.pure (D.str t7)) fun t8 => M.pure (.rt t8))
 else (if (decide (v_way = (2 : Int))) = true then
 (M.bind (M.bind (M.bind (M.bind (M.bind (M.bind (M.opt (gCatS (" " : Str) v_mark)) fun t11 => M.opt (gCatS t11 (";" : Str))) fun t12 => M.pure [(" " : Str), ("  " : Str), (" A" : Str), (" a1" : Str), t12, (" abcdefghi" : Str), ("\n" : Str), ("\t" : Str)]) fun t13 => M.opt (gIx t13 ((v_cell / (6 : Int)) % (8 : Int)))) fun t14 => M.opt (gCatS v_text t14)) fun t15 => M.pure (D.str t15)) fun t16 => M.pure (.rt t16))
 else (M.bind (M.bind (M.bind (M.pure v_text) fun t17 => M.bind (M.pure (" " : Str)) fun t18 => M.pure (Txt.find t17 t18)) fun t19 => M.pure (t19 + (1 : Int))) fun v_at =>
 (M.bind (M.bind (M.bind (M.bind (M.bind (M.opt (gLenS v_text)) fun t20 => M.pure (t20 - v_at)) fun t21 => M.pure (t21 + (1 : Int))) fun t22 => M.opt (gMod (v_cell / (54 : Int)) t22)) fun t23 => M.pure (v_at + t23)) fun v_spot =>
 (bindO (σ := Int) (M.bind (if (decide (v_way = (3 : Int))) = true then (M.bind (M.opt (gCutS v_text none (some (1 : Int)))) fun t24 => M.pure (!decide (t24 = ("f" : Str)))) else M.pure false) fun t25 => if t25 = true then
 (M.bind (M.pure v_at) fun v_spot =>
 (M.pure (.nx v_spot)))
 else (M.pure (.nx v_spot))) fun s26 =>
 (if (decide (v_way = (3 : Int))) = true then
 (M.bind (M.bind (M.bind (M.bind (M.opt (gCutS v_text none (some s26))) fun t28 => M.opt (gCatS t28 (" " : Str))) fun t29 => M.bind (M.opt (gCutS v_text (some s26) none)) fun t30 => M.opt (gCatS t29 t30)) fun t31 => M.pure (D.str t31)) fun t32 => M.pure (.rt t32))
 else (if (decide (v_way = (4 : Int))) = true then
 (M.bind (M.opt (gIx [("-" : Str), ("A" : Str), ("Z" : Str), ("C" : Str), ("0" : Str), ("_" : Str), ("." : Str), ("'" : Str), ("abcdefghi" : Str)] ((v_cell / (6 : Int)) % (9 : Int)))) fun v_odd =>
 (M.bind (M.bind (M.bind (M.bind (M.opt (gCutS v_text none (some s26))) fun t34 => M.opt (gCatS t34 v_odd)) fun t35 => M.bind (M.opt (gCutS v_text (some s26) none)) fun t36 => M.opt (gCatS t35 t36)) fun t37 => M.pure (D.str t37)) fun t38 => M.pure (.rt t38)))
 else (M.bind (M.bind (M.bind (M.bind (M.bind (M.opt (gCatS (" " : Str) v_text)) fun t49 => M.bind (M.bind (M.bind (M.pure v_text) fun t43 => M.opt (gRepl " " "  " t43)) fun t47 => M.bind (M.bind (M.bind (M.opt (gCutS v_text none (some (v_at - (1 : Int))))) fun t44 => M.opt (gCatS t44 ("\t" : Str))) fun t45 => M.bind (M.opt (gCutS v_text (some v_at) none)) fun t46 => M.opt (gCatS t45 t46)) fun t48 => M.pure (t47, t48)) fun t50 => M.pure (t49, t50)) fun t51 => M.pure [t51.1, t51.2.1, t51.2.2]) fun t52 => M.opt (gIx t52 ((v_cell / (6 : Int)) % (3 : Int)))) fun t53 => M.pure (D.str t53)) fun t54 => M.pure (.rt t54))))))))))))
theorem ty_l_wrong_by_any (v_text : Str) (v_cell : Int) (v_mark : Str) : FnT iN m_l_wrong_by_any [D.str v_text, D.int v_cell, D.str v_mark] (f_l_wrong_by_any v_text v_cell v_mark) := by
  unfold f_l_wrong_by_any
  refine t_fn (Ef := fun _ => [.un, .un, .un, .un, .un, .un, .un, .un]) (Lf := fun _ => []) rfl (.f (.t (.t (.n (.s (.s (.s (.s (.s .z))))))))) (fun _ h => nomatch h) ?_
  unfold c_l_wrong_by_any
  refine t_set (en := D.int) (Pv.x (pp_bin (p_Bb (e := D.int) (.s .z)) (p_C (e := D.int)) ot_mod)) trivial (fun _ => (.s (.s (.s .z)))) (fun v_way => ?_)
  refine t_ifP (p_TrB (pp_bin (p_Bf (e := D.int) (.s (.s (.s .z)))) (p_C (e := D.int)) (ot_eq eqI))) ?_ ?_
  · refine t_assoc ?_
    refine t_set (en := (eL iN)) (Pv.x (p_Lst (ez := (eL iN)) (p_aCons (ea := iN) (p_up (ea := iU) (p_Cd (e := iU) (a := ()) rfl)) (p_aCons (ea := iN) (p_up (ea := D.int) (p_C (e := D.int))) (p_aCons (ea := iN) (p_up (ea := D.bl) (p_C (e := D.bl))) (p_aCons (ea := iN) (p_up (ea := (eL D.str)) (p_Lst (ez := (eL D.str)) (p_aCons (ea := D.str) (p_V (e := D.str) .z) p_aNil) (Nat.le_of_ble_eq_true rfl) rfl)) (p_aCons (ea := iN) (p_up (ea := (eTL D.str)) (p_Tup (ez := (eTL D.str)) (p_aCons (ea := D.str) (p_V (e := D.str) .z) p_aNil) (Nat.le_of_ble_eq_true rfl) rfl)) (p_aCons (ea := iN) (p_up (ea := D.str) (p_C (e := D.str))) (p_aCons (ea := iN) (p_up (ea := D.str) (p_C (e := D.str))) (p_aCons (ea := iN) (p_up (ea := D.str) (p_C (e := D.str))) (p_aCons (ea := iN) (p_up (ea := D.str) (p_C (e := D.str))) (p_aCons (ea := iN) (p_up (ea := D.str) (p_C (e := D.str))) (p_aCons (ea := iN) (p_up (ea := D.str) (p_C (e := D.str))) (p_aCons (ea := iN) (p_up (ea := D.str) (p_C (e := D.str))) p_aNil)))))))))))) (Nat.le_of_ble_eq_true rfl) rfl)) trivial (fun _ => (.s (.s (.s (.s (.s (.s .z))))))) (fun v_some => ?_)
    refine t_assoc ?_
    exact t_ret (eb := iN) (pp_binO (p_Bf (e := (eL iN)) (.s (.s (.s (.s (.s (.s .z))))))) (pp_bin (pp_bin (p_Bb (e := D.int) (.s .z)) (p_C (e := D.int)) ot_div) (p_C (e := D.int)) ot_mod) (fun _ => oo_ixL)) trivial (fun _ => rf_fr _)
  · refine t_nxl ?_
    refine t_ifP (p_TrB (pp_bin (p_Bf (e := D.int) (.s (.s (.s .z)))) (p_C (e := D.int)) (ot_eq eqI))) ?_ ?_
    · refine t_assoc ?_
      exact t_ret (eb := iN) (x_up (ea := D.str) (xx_binO (x_upper0 (p_CutO (p_Bf (e := D.str) .z) p_No (p_At (p_C (e := D.int))) (fun _ => oo_cutS))) (p_CutO (p_Bf (e := D.str) .z) (p_At (p_C (e := D.int))) p_No (fun _ => oo_cutS)) (fun _ _ _ => oo_catS))) trivial (fun _ => rf_fr _)
    · refine t_nxl ?_
      refine t_ifP (p_TrB (pp_bin (p_Bf (e := D.int) (.s (.s (.s .z)))) (p_C (e := D.int)) (ot_eq eqI))) ?_ ?_
      · refine t_assoc ?_
        exact t_ret (eb := iN) (x_up (ea := D.str) (px_binO (p_Bf (e := D.str) .z) (xp_binO (x_Lst' (ez := (eL D.str)) (xa_P (ea := D.str) (p_C (e := D.str)) (xa_P (ea := D.str) (p_C (e := D.str)) (xa_P (ea := D.str) (p_C (e := D.str)) (xa_P (ea := D.str) (p_C (e := D.str)) (xa_1 (ea := D.str) (xp_binO (pp_binO (p_C (e := D.str)) (p_Bb (e := D.str) (.s (.s .z))) (fun _ => oo_catS)) (p_C (e := D.str)) (fun _ _ => oo_catS)) (p_aCons (ea := D.str) (p_C (e := D.str)) (p_aCons (ea := D.str) (p_C (e := D.str)) (p_aCons (ea := D.str) (p_C (e := D.str)) p_aNil)))))))) (fun _ => Nat.le_of_ble_eq_true rfl) (fun _ => rfl)) (pp_bin (pp_bin (p_Bb (e := D.int) (.s .z)) (p_C (e := D.int)) ot_div) (p_C (e := D.int)) ot_mod) (fun _ _ => oo_ixL)) (fun _ _ => oo_catS))) trivial (fun _ => rf_fr _)
      · refine t_nxl ?_
        refine t_set (en := D.int) (xp_bin (x_find1 (Pv.x (p_Bf (e := D.str) .z)) (Pv.x (p_C (e := D.str)))) (p_C (e := D.int)) (fun _ => ot_addI)) trivial (fun _ => (.s (.s (.s (.s .z))))) (fun v_at => ?_)
        refine t_set (en := D.int) (px_bin (p_Bf (e := D.int) (.s (.s (.s (.s .z))))) (px_binO (pp_bin (p_Bb (e := D.int) (.s .z)) (p_C (e := D.int)) ot_div) (xp_bin (xp_bin (p_FnO (ez := D.int) (p_aCons (ea := D.str) (p_Bf (e := D.str) .z) p_aNil) (fun _ => oo_lenS)) (p_Bf (e := D.int) (.s (.s (.s (.s .z))))) (fun _ => ot_sub)) (p_C (e := D.int)) (fun _ => ot_addI)) (fun _ _ => oo_mod)) (fun _ => ot_addI)) trivial (fun _ => (.s (.s (.s (.s (.s .z)))))) (fun v_spot => ?_)
        refine t_seq (E' := (fun s26 : Int => ([.fr (D.str v_text), .bo (D.int v_cell), .un, .fr (D.int v_way), .fr (D.int v_at), .fr (D.int s26), .un, .un] : Env))) (t_if1 (px_tAnd (p_TrB (pp_bin (p_Bf (e := D.int) (.s (.s (.s .z)))) (p_C (e := D.int)) (ot_eq eqI))) (x_TrBm (xp_bin (p_CutO (p_Bf (e := D.str) .z) p_No (p_At (p_C (e := D.int))) (fun _ => oo_cutS)) (p_C (e := D.str)) (fun _ => (ot_ne eqS))))) trivial ?_ ?_) (fun s26 => ?_)
        · refine t_set (en := D.int) (Pv.x (p_V (e := D.int) (.s (.s (.s (.s .z)))))) trivial (fun _ => (.s (.s (.s (.s (.s .z)))))) (fun v_spot => ?_)
          refine t_wipe (is := [2, 6, 7]) (.cons (.cons (.cons .nil (.s (.s (.s (.s (.s (.s (.s .z)))))))) (.s (.s (.s (.s (.s (.s .z))))))) (.s (.s .z))) ?_
          exact t_nil rfl
        · refine t_wipe (is := [2, 6, 7]) (.cons (.cons (.cons .nil (.s (.s (.s (.s (.s (.s (.s .z)))))))) (.s (.s (.s (.s (.s (.s .z))))))) (.s (.s .z))) ?_
          exact t_nil rfl
        · refine t_ifP (p_TrB (pp_bin (p_Bf (e := D.int) (.s (.s (.s .z)))) (p_C (e := D.int)) (ot_eq eqI))) ?_ ?_
          · refine t_assoc ?_
            exact t_ret (eb := iN) (x_up (ea := D.str) (xx_binO (xp_binO (p_CutO (p_Bf (e := D.str) .z) p_No (p_At (p_Bf (e := D.int) (.s (.s (.s (.s (.s .z))))))) (fun _ => oo_cutS)) (p_C (e := D.str)) (fun _ _ => oo_catS)) (p_CutO (p_Bf (e := D.str) .z) (p_At (p_Bf (e := D.int) (.s (.s (.s (.s (.s .z))))))) p_No (fun _ => oo_cutS)) (fun _ _ _ => oo_catS))) trivial (fun _ => rf_fr _)
          · refine t_nxl ?_
            refine t_ifP (p_TrB (pp_bin (p_Bf (e := D.int) (.s (.s (.s .z)))) (p_C (e := D.int)) (ot_eq eqI))) ?_ ?_
            · refine t_assoc ?_
              refine t_set (en := D.str) (pp_binO (p_Lst (ez := (eL D.str)) (p_aCons (ea := D.str) (p_C (e := D.str)) (p_aCons (ea := D.str) (p_C (e := D.str)) (p_aCons (ea := D.str) (p_C (e := D.str)) (p_aCons (ea := D.str) (p_C (e := D.str)) (p_aCons (ea := D.str) (p_C (e := D.str)) (p_aCons (ea := D.str) (p_C (e := D.str)) (p_aCons (ea := D.str) (p_C (e := D.str)) (p_aCons (ea := D.str) (p_C (e := D.str)) (p_aCons (ea := D.str) (p_C (e := D.str)) p_aNil))))))))) (Nat.le_of_ble_eq_true rfl) rfl) (pp_bin (pp_bin (p_Bb (e := D.int) (.s .z)) (p_C (e := D.int)) ot_div) (p_C (e := D.int)) ot_mod) (fun _ => oo_ixL)) trivial (fun _ => (.s (.s (.s (.s (.s (.s (.s .z)))))))) (fun v_odd => ?_)
              refine t_assoc ?_
              exact t_ret (eb := iN) (x_up (ea := D.str) (xx_binO (xp_binO (p_CutO (p_Bf (e := D.str) .z) p_No (p_At (p_Bf (e := D.int) (.s (.s (.s (.s (.s .z))))))) (fun _ => oo_cutS)) (p_Bf (e := D.str) (.s (.s (.s (.s (.s (.s (.s .z)))))))) (fun _ _ => oo_catS)) (p_CutO (p_Bf (e := D.str) .z) (p_At (p_Bf (e := D.int) (.s (.s (.s (.s (.s .z))))))) p_No (fun _ => oo_cutS)) (fun _ _ _ => oo_catS))) trivial (fun _ => rf_fr _)
            · refine t_nxl ?_
              exact t_ret (eb := iN) (x_up (ea := D.str) (xp_binO (x_Lst' (ez := (eL D.str)) (xa_X (ea := D.str) (pp_binO (p_C (e := D.str)) (p_Bf (e := D.str) .z) (fun _ => oo_catS)) (xa_X (ea := D.str) (x_T0 (fun _ => rfl) (Pv.x (p_Bf (e := D.str) .z))) (xa_1 (ea := D.str) (xx_binO (xp_binO (p_CutO (p_Bf (e := D.str) .z) p_No (p_At (pp_bin (p_Bf (e := D.int) (.s (.s (.s (.s .z))))) (p_C (e := D.int)) ot_sub)) (fun _ => oo_cutS)) (p_C (e := D.str)) (fun _ _ => oo_catS)) (p_CutO (p_Bf (e := D.str) .z) (p_At (p_Bf (e := D.int) (.s (.s (.s (.s .z)))))) p_No (fun _ => oo_cutS)) (fun _ _ _ => oo_catS)) p_aNil))) (fun _ => Nat.le_of_ble_eq_true rfl) (fun _ => rfl)) (pp_bin (pp_bin (p_Bb (e := D.int) (.s .z)) (p_C (e := D.int)) ot_div) (p_C (e := D.int)) ot_mod) (fun _ _ => oo_ixL))) trivial (fun _ => rf_fr _)
def f_l_lines_text (v_lines : (List (List Str))) : M Str := runO none (
 (M.bind (M.bind (M.bind (M.pure (" / " : Str)) fun t4 => M.bind (lcO (fun x1 => (M.pure true)) (fun x1 => (M.bind (M.pure (" " : Str)) fun t2 => M.bind (M.pure x1) fun t3 => M.opt (gJoin t2 t3))) v_lines []) fun t5 => M.opt (gJoin t4 t5)) fun t6 => M.opt (gCatS ("table " : Str) t6)) fun t7 => M.pure (.rt t7)))
theorem ty_l_lines_text (v_lines : (List (List Str))) : FnT D.str m_l_lines_text [(eL (eL D.str)) v_lines] (f_l_lines_text v_lines) := by
  unfold f_l_lines_text
  refine t_fn (Ef := fun _ => [.un, .un]) (Lf := fun _ => []) rfl (.t (.n (.s .z))) (fun _ h => nomatch h) ?_
  unfold c_l_lines_text
  exact t_ret (eb := D.str) (px_binO (p_C (e := D.str)) (x_joinL (Pv.x (p_C (e := D.str))) (p_Lc (ei := (eL D.str)) (eb := D.str) (p_iBb (ea := (eL D.str)) .z) (.cons .nil (.s .z)) (fun _ => (tgN (.s .z))) (fun x1 => (Pv.x p_Yes)) (fun x1 => (x_joinL (Pv.x (p_C (e := D.str))) (Pv.x (p_Bf (e := (eL D.str)) (.s .z))))))) (fun _ _ => oo_catS)) trivial (fun _ => rf_fr _)
def f_l_wrong_table (v_lines : (List (List Str))) (v_cell : Int) (v_mark : Str) : M Str := runO none (
 (M.bind (f_l_lines_text v_lines) fun v_text =>
 (M.bind (M.pure (v_cell % (8 : Int))) fun v_way =>
 (if (decide (v_way = (7 : Int))) = true then
 (M.bind (M.bind (M.bind (M.pure (" " : Str)) fun t4 => M.bind (M.bind (M.opt (gR1 (13 : Int))) fun t3 => lcO (fun x2 => (M.pure true)) (fun x2 => (M.pure v_mark)) t3 []) fun t5 => M.opt (gJoin t4 t5)) fun t6 => M.opt (gCatS ("table " : Str) t6)) fun t7 => M.pure (.rt t7))
 else (if (decide (v_way = (0 : Int))) = true then
 (M.bind (M.opt (gCatS v_text (" /" : Str))) fun t9 => M.pure (.rt t9))
 else (if (decide (v_way = (1 : Int))) = true then
 (M.bind (M.bind (M.opt (gCatS v_text (" / " : Str))) fun t18 => M.bind (M.bind (M.pure (" " : Str)) fun t16 => M.bind (M.bind (M.bind (M.bind (M.bind (M.opt (gIx v_lines (0 : Int))) fun t11 => M.pure ((List.length t11 : Nat) : Int)) fun t12 => M.pure (t12 + (1 : Int))) fun t13 => M.opt (gR1 t13)) fun t15 => lcO (fun x14 => (M.pure true)) (fun x14 => (M.pure v_mark)) t15 []) fun t17 => M.opt (gJoin t16 t17)) fun t19 => M.opt (gCatS t18 t19)) fun t20 => M.pure (.rt t20))
 else (if (decide (v_way = (2 : Int))) = true then
 (M.bind (M.opt (gCatS v_text (" / -" : Str))) fun t22 => M.pure (.rt t22))
 else (if (decide (v_way = (3 : Int))) = true then
 (M.bind (M.opt (gCatS v_text (" -" : Str))) fun t24 => M.pure (.rt t24))
 else (if (decide (v_way = (4 : Int))) = true then
 (M.bind (M.bind (M.opt (gCutS v_text (some (6 : Int)) none)) fun t26 => M.opt (gCatS ("table / " : Str) t26)) fun t27 => M.pure (.rt t27))
 else (if (decide (v_way = (5 : Int))) = true then
 (M.bind (M.bind (M.opt (gCatS v_text (" / / " : Str))) fun t31 => M.bind (M.bind (M.pure (" " : Str)) fun t29 => M.bind (M.opt (gIx v_lines (0 : Int))) fun t30 => M.opt (gJoin t29 t30)) fun t32 => M.opt (gCatS t31 t32)) fun t33 => M.pure (.rt t33))
 else (M.bind (M.bind (M.bind (M.pure (" / " : Str)) fun t38 => M.bind (M.bind (M.opt (gR1 (13 : Int))) fun t37 => lcO (fun x34 => (M.pure true)) (fun x34 => (M.bind (M.pure (" " : Str)) fun t35 => M.bind (M.opt (gIx v_lines (0 : Int))) fun t36 => M.opt (gJoin t35 t36))) t37 []) fun t39 => M.opt (gJoin t38 t39)) fun t40 => M.opt (gCatS ("table " : Str) t40)) fun t41 => M.pure (.rt t41))))))))))))
theorem ty_l_wrong_table (v_lines : (List (List Str))) (v_cell : Int) (v_mark : Str) : FnT D.str m_l_wrong_table [(eL (eL D.str)) v_lines, D.int v_cell, D.str v_mark] (f_l_wrong_table v_lines v_cell v_mark) := by
  unfold f_l_wrong_table
  refine t_fn (Ef := fun _ => [.un, .un, .un, .un, .un, .un]) (Lf := fun _ => []) rfl (.t (.t (.f (.n (.s (.s (.s .z))))))) (fun _ h => nomatch h) ?_
  unfold c_l_wrong_table
  refine t_set (en := D.str) (x_callP (p_aCons (ea := (eL (eL D.str))) (p_Bb (e := (eL (eL D.str))) .z) p_aNil) (ty_l_lines_text _)) trivial (fun _ => (.s (.s (.s .z)))) (fun v_text => ?_)
  refine t_set (en := D.int) (Pv.x (pp_bin (p_Bb (e := D.int) (.s .z)) (p_C (e := D.int)) ot_mod)) trivial (fun _ => (.s (.s (.s (.s .z))))) (fun v_way => ?_)
  refine t_ifP (p_TrB (pp_bin (p_Bf (e := D.int) (.s (.s (.s (.s .z))))) (p_C (e := D.int)) (ot_eq eqI))) ?_ ?_
  · refine t_assoc ?_
    generalize (13 : Int) = z13
    generalize (14 : Int) = z14
    generalize (41 : Int) = z41
    exact t_ret (eb := D.str) (px_binO (p_C (e := D.str)) (x_joinL (Pv.x (p_C (e := D.str))) (x_Lc' (ei := D.int) (eb := D.str) (p_iFn (ez := D.int) (p_aCons (ea := D.int) (p_C (e := D.int)) p_aNil) (fun _ => oo_R1)) (.cons .nil (.s (.s (.s (.s (.s .z)))))) (fun _ => (tgN (.s (.s (.s (.s (.s .z))))))) (fun x2 => (Pv.x p_Yes)) (fun x2 => (Pv.x (p_V (e := D.str) (.s (.s .z))))))) (fun _ _ => oo_catS)) trivial (fun _ => rf_fr _)
  · refine t_nxl ?_
    refine t_ifP (p_TrB (pp_bin (p_Bf (e := D.int) (.s (.s (.s (.s .z))))) (p_C (e := D.int)) (ot_eq eqI))) ?_ ?_
    · refine t_assoc ?_
      exact t_ret (eb := D.str) (pp_binO (p_Bf (e := D.str) (.s (.s (.s .z)))) (p_C (e := D.str)) (fun _ => oo_catS)) trivial (fun _ => rf_fr _)
    · refine t_nxl ?_
      refine t_ifP (p_TrB (pp_bin (p_Bf (e := D.int) (.s (.s (.s (.s .z))))) (p_C (e := D.int)) (ot_eq eqI))) ?_ ?_
      · refine t_assoc ?_
        generalize (13 : Int) = z13
        generalize (14 : Int) = z14
        generalize (41 : Int) = z41
        exact t_ret (eb := D.str) (xx_binO (pp_binO (p_Bf (e := D.str) (.s (.s (.s .z)))) (p_C (e := D.str)) (fun _ => oo_catS)) (x_joinL (Pv.x (p_C (e := D.str))) (x_Lc' (ei := D.int) (eb := D.str) (x_iFn' (ez := D.int) (xa_1 (ea := D.int) (xp_bin (x_FnT (ez := D.int) (xa_1 (ea := (eL D.str)) (pp_binO (p_Bb (e := (eL (eL D.str))) .z) (p_C (e := D.int)) (fun _ => oo_ixL)) p_aNil) (fun _ => ot_lenL)) (p_C (e := D.int)) (fun _ => ot_addI)) p_aNil) (fun _ _ => oo_R1)) (.cons .nil (.s (.s (.s (.s (.s .z)))))) (fun _ => (tgN (.s (.s (.s (.s (.s .z))))))) (fun x14 => (Pv.x p_Yes)) (fun x14 => (Pv.x (p_V (e := D.str) (.s (.s .z))))))) (fun _ _ _ => oo_catS)) trivial (fun _ => rf_fr _)
      · refine t_nxl ?_
        refine t_ifP (p_TrB (pp_bin (p_Bf (e := D.int) (.s (.s (.s (.s .z))))) (p_C (e := D.int)) (ot_eq eqI))) ?_ ?_
        · refine t_assoc ?_
          exact t_ret (eb := D.str) (pp_binO (p_Bf (e := D.str) (.s (.s (.s .z)))) (p_C (e := D.str)) (fun _ => oo_catS)) trivial (fun _ => rf_fr _)
        · refine t_nxl ?_
          refine t_ifP (p_TrB (pp_bin (p_Bf (e := D.int) (.s (.s (.s (.s .z))))) (p_C (e := D.int)) (ot_eq eqI))) ?_ ?_
          · refine t_assoc ?_
            exact t_ret (eb := D.str) (pp_binO (p_Bf (e := D.str) (.s (.s (.s .z)))) (p_C (e := D.str)) (fun _ => oo_catS)) trivial (fun _ => rf_fr _)
          · refine t_nxl ?_
            refine t_ifP (p_TrB (pp_bin (p_Bf (e := D.int) (.s (.s (.s (.s .z))))) (p_C (e := D.int)) (ot_eq eqI))) ?_ ?_
            · refine t_assoc ?_
              exact t_ret (eb := D.str) (px_binO (p_C (e := D.str)) (p_CutO (p_Bf (e := D.str) (.s (.s (.s .z)))) (p_At (p_C (e := D.int))) p_No (fun _ => oo_cutS)) (fun _ _ => oo_catS)) trivial (fun _ => rf_fr _)
            · refine t_nxl ?_
              refine t_ifP (p_TrB (pp_bin (p_Bf (e := D.int) (.s (.s (.s (.s .z))))) (p_C (e := D.int)) (ot_eq eqI))) ?_ ?_
              · refine t_assoc ?_
                exact t_ret (eb := D.str) (xx_binO (pp_binO (p_Bf (e := D.str) (.s (.s (.s .z)))) (p_C (e := D.str)) (fun _ => oo_catS)) (x_joinL (Pv.x (p_C (e := D.str))) (pp_binO (p_Bb (e := (eL (eL D.str))) .z) (p_C (e := D.int)) (fun _ => oo_ixL))) (fun _ _ _ => oo_catS)) trivial (fun _ => rf_fr _)
              · refine t_nxl ?_
                generalize (13 : Int) = z13
                generalize (14 : Int) = z14
                generalize (41 : Int) = z41
                exact t_ret (eb := D.str) (px_binO (p_C (e := D.str)) (x_joinL (Pv.x (p_C (e := D.str))) (x_Lc' (ei := D.int) (eb := D.str) (p_iFn (ez := D.int) (p_aCons (ea := D.int) (p_C (e := D.int)) p_aNil) (fun _ => oo_R1)) (.cons .nil (.s (.s (.s (.s (.s .z)))))) (fun _ => (tgN (.s (.s (.s (.s (.s .z))))))) (fun x34 => (Pv.x p_Yes)) (fun x34 => (x_joinL (Pv.x (p_C (e := D.str))) (pp_binO (p_Bb (e := (eL (eL D.str))) .z) (p_C (e := D.int)) (fun _ => oo_ixL)))))) (fun _ _ => oo_catS)) trivial (fun _ => rf_fr _)
def f_l_wrong_forest (v_nodes_here : (List (Str × Int))) (v_cell : Int) (v_mark : Str) : M Str := runO none (
 (M.bind (M.bind (f_l_forest_text v_nodes_here) fun t1 => M.opt (gCatS ("forest " : Str) t1)) fun v_text =>
 (M.bind (M.bind (M.bind (M.bind (M.opt (gLenS v_text)) fun t2 => M.pure (t2 - (6 : Int))) fun t3 => M.opt (gMod (v_cell / (9 : Int)) t3)) fun t4 => M.pure ((7 : Int) + t4)) fun v_at =>
 (M.bind (M.pure (v_cell % (9 : Int))) fun v_way =>
 (if (decide (v_way < (3 : Int))) = true then
 (M.bind (M.bind (M.bind (M.bind (M.opt (gCutS v_text none (some v_at))) fun t7 => M.bind (M.bind (M.opt (gIxS ("()," : Str) v_way)) fun t6 => M.pure (S1 t6)) fun t8 => M.opt (gCatS t7 t8)) fun t10 => M.bind (M.bind (M.opt (gIxS ("()," : Str) ((v_cell / (9 : Int)) % (3 : Int)))) fun t9 => M.pure (S1 t9)) fun t11 => M.opt (gCatS t10 t11)) fun t12 => M.bind (M.opt (gCutS v_text (some v_at) none)) fun t13 => M.opt (gCatS t12 t13)) fun t14 => M.pure (.rt t14))
 else (if (decide (v_way = (3 : Int))) = true then
 (M.bind (M.bind (M.opt (gCatS v_text ("(" : Str))) fun t16 => M.opt (gCatS t16 v_mark)) fun t17 => M.pure (.rt t17))
 else (if (decide (v_way = (4 : Int))) = true then
 (M.bind (M.opt (gCatS v_text (")" : Str))) fun t19 => M.pure (.rt t19))
 else (if (decide (v_way = (5 : Int))) = true then
 (M.bind (M.bind (M.bind (M.bind (M.bind (M.bind (M.opt (gCatS ("(" : Str) v_mark)) fun t24 => M.opt (gCatS t24 (",)" : Str))) fun t27 => M.bind (M.bind (M.bind (M.opt (gCatS ("(" : Str) v_mark)) fun t25 => M.opt (gCatS t25 (")" : Str))) fun t26 => M.opt (gCatS t26 v_mark)) fun t28 => M.pure (t27, t28)) fun t29 => M.pure [("()" : Str), ("," : Str), (",()" : Str), ("(,)" : Str), t29.1, t29.2]) fun t30 => M.opt (gIx t30 ((v_cell / (9 : Int)) % (6 : Int)))) fun t31 => M.opt (gCatS v_text t31)) fun t32 => M.pure (.rt t32))
 else (if (decide (v_way = (6 : Int))) = true then
 (M.bind (M.bind (M.bind (M.bind (M.bind (M.opt (gCatS ("," : Str) v_mark)) fun t36 => M.bind (M.bind (M.opt (gCatS ("(" : Str) v_mark)) fun t35 => M.opt (gCatS t35 (")" : Str))) fun t37 => M.pure (t36, t37)) fun t38 => M.pure [("(" : Str), ("," : Str), (")" : Str), ("()" : Str), t38.1, t38.2]) fun t39 => M.opt (gIx t39 ((v_cell / (9 : Int)) % (6 : Int)))) fun t40 => M.opt (gCatS ("forest " : Str) t40)) fun t41 => M.pure (.rt t41))
 else (if (decide (v_way = (7 : Int))) = true then
 (M.bind (M.bind (M.bind (M.bind (M.opt (gR1 (14 : Int))) fun t44 => lcO (fun x43 => (M.pure true)) (fun x43 => (M.pure (v_mark, x43))) t44 []) fun t45 => f_l_forest_text t45) fun t46 => M.opt (gCatS ("forest " : Str) t46)) fun t47 => M.pure (.rt t47))
 else (M.bind (M.bind (M.bind (M.bind (M.opt (gR1 (41 : Int))) fun t49 => lcO (fun x48 => (M.pure true)) (fun x48 => (M.pure (v_mark, (x48 % (2 : Int))))) t49 []) fun t50 => f_l_forest_text t50) fun t51 => M.opt (gCatS ("forest " : Str) t51)) fun t52 => M.pure (.rt t52))))))))))))
theorem ty_l_wrong_forest (v_nodes_here : (List (Str × Int))) (v_cell : Int) (v_mark : Str) : FnT D.str m_l_wrong_forest [(eL (eP2 D.str D.int)) v_nodes_here, D.int v_cell, D.str v_mark] (f_l_wrong_forest v_nodes_here v_cell v_mark) := by
  unfold f_l_wrong_forest
  refine t_fn (Ef := fun _ => [.un, .un, .un, .un, .un, .un, .un]) (Lf := fun _ => []) rfl (.t (.t (.f (.n (.s (.s (.s (.s .z)))))))) (fun _ h => nomatch h) ?_
  unfold c_l_wrong_forest
  refine t_set (en := D.str) (px_binO (p_C (e := D.str)) (x_callP (p_aCons (ea := (eL (eP2 D.str D.int))) (p_Bb (e := (eL (eP2 D.str D.int))) .z) p_aNil) (ty_l_forest_text _)) (fun _ _ => oo_catS)) trivial (fun _ => (.s (.s (.s .z)))) (fun v_text => ?_)
  refine t_set (en := D.int) (px_bin (p_C (e := D.int)) (px_binO (pp_bin (p_Bb (e := D.int) (.s .z)) (p_C (e := D.int)) ot_div) (xp_bin (p_FnO (ez := D.int) (p_aCons (ea := D.str) (p_Bf (e := D.str) (.s (.s (.s .z)))) p_aNil) (fun _ => oo_lenS)) (p_C (e := D.int)) (fun _ => ot_sub)) (fun _ _ => oo_mod)) (fun _ => ot_addI)) trivial (fun _ => (.s (.s (.s (.s .z))))) (fun v_at => ?_)
  refine t_set (en := D.int) (Pv.x (pp_bin (p_Bb (e := D.int) (.s .z)) (p_C (e := D.int)) ot_mod)) trivial (fun _ => (.s (.s (.s (.s (.s .z)))))) (fun v_way => ?_)
  refine t_ifP (p_TrB (pp_bin (p_Bf (e := D.int) (.s (.s (.s (.s (.s .z)))))) (p_C (e := D.int)) ot_lt)) ?_ ?_
  · refine t_assoc ?_
    exact t_ret (eb := D.str) (xx_binO (xx_binO (xx_binO (p_CutO (p_Bf (e := D.str) (.s (.s (.s .z)))) p_No (p_At (p_Bf (e := D.int) (.s (.s (.s (.s .z)))))) (fun _ => oo_cutS)) (x_as (ea := eCh) (e' := D.str) (pp_binO (p_C (e := D.str)) (p_Bf (e := D.int) (.s (.s (.s (.s (.s .z)))))) (fun _ => oo_ixS)) (fun _ => rfl)) (fun _ _ _ => oo_catS)) (x_as (ea := eCh) (e' := D.str) (pp_binO (p_C (e := D.str)) (pp_bin (pp_bin (p_Bb (e := D.int) (.s .z)) (p_C (e := D.int)) ot_div) (p_C (e := D.int)) ot_mod) (fun _ => oo_ixS)) (fun _ => rfl)) (fun _ _ _ => oo_catS)) (p_CutO (p_Bf (e := D.str) (.s (.s (.s .z)))) (p_At (p_Bf (e := D.int) (.s (.s (.s (.s .z)))))) p_No (fun _ => oo_cutS)) (fun _ _ _ => oo_catS)) trivial (fun _ => rf_fr _)
  · refine t_nxl ?_
    refine t_ifP (p_TrB (pp_bin (p_Bf (e := D.int) (.s (.s (.s (.s (.s .z)))))) (p_C (e := D.int)) (ot_eq eqI))) ?_ ?_
    · refine t_assoc ?_
      exact t_ret (eb := D.str) (xp_binO (pp_binO (p_Bf (e := D.str) (.s (.s (.s .z)))) (p_C (e := D.str)) (fun _ => oo_catS)) (p_Bf (e := D.str) (.s (.s .z))) (fun _ _ => oo_catS)) trivial (fun _ => rf_fr _)
    · refine t_nxl ?_
      refine t_ifP (p_TrB (pp_bin (p_Bf (e := D.int) (.s (.s (.s (.s (.s .z)))))) (p_C (e := D.int)) (ot_eq eqI))) ?_ ?_
      · refine t_assoc ?_
        exact t_ret (eb := D.str) (pp_binO (p_Bf (e := D.str) (.s (.s (.s .z)))) (p_C (e := D.str)) (fun _ => oo_catS)) trivial (fun _ => rf_fr _)
      · refine t_nxl ?_
        refine t_ifP (p_TrB (pp_bin (p_Bf (e := D.int) (.s (.s (.s (.s (.s .z)))))) (p_C (e := D.int)) (ot_eq eqI))) ?_ ?_
        · refine t_assoc ?_
          exact t_ret (eb := D.str) (px_binO (p_Bf (e := D.str) (.s (.s (.s .z)))) (xp_binO (x_Lst' (ez := (eL D.str)) (xa_P (ea := D.str) (p_C (e := D.str)) (xa_P (ea := D.str) (p_C (e := D.str)) (xa_P (ea := D.str) (p_C (e := D.str)) (xa_P (ea := D.str) (p_C (e := D.str)) (xa_X (ea := D.str) (xp_binO (pp_binO (p_C (e := D.str)) (p_Bf (e := D.str) (.s (.s .z))) (fun _ => oo_catS)) (p_C (e := D.str)) (fun _ _ => oo_catS)) (xa_1 (ea := D.str) (xp_binO (xp_binO (pp_binO (p_C (e := D.str)) (p_Bf (e := D.str) (.s (.s .z))) (fun _ => oo_catS)) (p_C (e := D.str)) (fun _ _ => oo_catS)) (p_Bf (e := D.str) (.s (.s .z))) (fun _ _ => oo_catS)) p_aNil)))))) (fun _ => Nat.le_of_ble_eq_true rfl) (fun _ => rfl)) (pp_bin (pp_bin (p_Bb (e := D.int) (.s .z)) (p_C (e := D.int)) ot_div) (p_C (e := D.int)) ot_mod) (fun _ _ => oo_ixL)) (fun _ _ => oo_catS)) trivial (fun _ => rf_fr _)
        · refine t_nxl ?_
          refine t_ifP (p_TrB (pp_bin (p_Bf (e := D.int) (.s (.s (.s (.s (.s .z)))))) (p_C (e := D.int)) (ot_eq eqI))) ?_ ?_
          · refine t_assoc ?_
            exact t_ret (eb := D.str) (px_binO (p_C (e := D.str)) (xp_binO (x_Lst' (ez := (eL D.str)) (xa_P (ea := D.str) (p_C (e := D.str)) (xa_P (ea := D.str) (p_C (e := D.str)) (xa_P (ea := D.str) (p_C (e := D.str)) (xa_P (ea := D.str) (p_C (e := D.str)) (xa_X (ea := D.str) (pp_binO (p_C (e := D.str)) (p_Bf (e := D.str) (.s (.s .z))) (fun _ => oo_catS)) (xa_1 (ea := D.str) (xp_binO (pp_binO (p_C (e := D.str)) (p_Bf (e := D.str) (.s (.s .z))) (fun _ => oo_catS)) (p_C (e := D.str)) (fun _ _ => oo_catS)) p_aNil)))))) (fun _ => Nat.le_of_ble_eq_true rfl) (fun _ => rfl)) (pp_bin (pp_bin (p_Bb (e := D.int) (.s .z)) (p_C (e := D.int)) ot_div) (p_C (e := D.int)) ot_mod) (fun _ _ => oo_ixL)) (fun _ _ => oo_catS)) trivial (fun _ => rf_fr _)
          · refine t_nxl ?_
            refine t_ifP (p_TrB (pp_bin (p_Bf (e := D.int) (.s (.s (.s (.s (.s .z)))))) (p_C (e := D.int)) (ot_eq eqI))) ?_ ?_
            · refine t_assoc ?_
              generalize (13 : Int) = z13
              generalize (14 : Int) = z14
              generalize (41 : Int) = z41
              exact t_ret (eb := D.str) (px_binO (p_C (e := D.str)) (x_callX (xa_1 (ea := (eL (eP2 D.str D.int))) (x_Lc' (ei := D.int) (eb := (eP2 D.str D.int)) (p_iFn (ez := D.int) (p_aCons (ea := D.int) (p_C (e := D.int)) p_aNil) (fun _ => oo_R1)) (.cons .nil (.s (.s (.s (.s (.s (.s .z))))))) (fun _ => (tgN (.s (.s (.s (.s (.s (.s .z)))))))) (fun x43 => (Pv.x p_Yes)) (fun x43 => (Pv.x (p_Tup (ez := (eP2 D.str D.int)) (p_aCons (ea := D.str) (p_V (e := D.str) (.s (.s .z))) (p_aCons (ea := D.int) (p_V (e := D.int) (.s (.s (.s (.s (.s (.s .z))))))) p_aNil)) (Nat.le_of_ble_eq_true rfl) rfl)))) p_aNil) (fun _ => ty_l_forest_text _)) (fun _ _ => oo_catS)) trivial (fun _ => rf_fr _)
            · refine t_nxl ?_
              generalize (13 : Int) = z13
              generalize (14 : Int) = z14
              generalize (41 : Int) = z41
              exact t_ret (eb := D.str) (px_binO (p_C (e := D.str)) (x_callX (xa_1 (ea := (eL (eP2 D.str D.int))) (x_Lc' (ei := D.int) (eb := (eP2 D.str D.int)) (p_iFn (ez := D.int) (p_aCons (ea := D.int) (p_C (e := D.int)) p_aNil) (fun _ => oo_R1)) (.cons .nil (.s (.s (.s (.s (.s (.s .z))))))) (fun _ => (tgN (.s (.s (.s (.s (.s (.s .z)))))))) (fun x48 => (Pv.x p_Yes)) (fun x48 => (Pv.x (p_Tup (ez := (eP2 D.str D.int)) (p_aCons (ea := D.str) (p_V (e := D.str) (.s (.s .z))) (p_aCons (ea := D.int) (pp_bin (p_Bf (e := D.int) (.s (.s (.s (.s (.s (.s .z))))))) (p_C (e := D.int)) ot_mod) p_aNil)) (Nat.le_of_ble_eq_true rfl) rfl)))) p_aNil) (fun _ => ty_l_forest_text _)) (fun _ _ => oo_catS)) trivial (fun _ => rf_fr _)
def f_p_law (v_script : (List Int)) : M Bool := runO none (
 (M.bind (f_l_cell_at v_script (0 : Int)) fun v_seed =>
 (M.bind (M.bind (M.bind (f_l_cell_at v_script (1 : Int)) fun t1 => M.bind (f_l_how_many (v_seed / (6 : Int))) fun t2 => M.pure (t1, t2)) fun t3 => f_l_marks t3.1 t3.2) fun v_marks_here =>
 (bindO (σ := (List Str)) (if (decide (((v_seed / (36 : Int)) % (5 : Int)) = (2 : Int))) = true then
 (M.bind (M.pure (cutD [("table" : Str), ("forest" : Str), ("row" : Str), ("not" : Str), ("many" : Str), ("has" : Str)] none (some ((List.length v_marks_here : Nat) : Int)))) fun v_marks_here =>
 (M.pure (.nx v_marks_here)))
 else (M.pure (.nx v_marks_here))) fun s5 =>
 (M.bind (M.opt (gCatL (cutD v_script (some (3 : Int)) (some (13 : Int))) [v_seed])) fun v_cells =>
 (M.bind (lcO (fun x6 => (M.pure true)) (fun x6 => (f_l_pick x6 s5)) v_cells []) fun v_row =>
 (M.bind (M.bind (M.pure (" " : Str)) fun t7 => M.bind (M.opt (gCatL [("row" : Str)] v_row)) fun t8 => M.opt (gJoin t7 t8)) fun v_text =>
 (M.bind (M.pure ((eP2 D.str (eTL D.str)) (("row" : Str), v_row))) fun v_form =>
 (M.bind (f_l_cell_at v_script (2 : Int)) fun v_cell =>
 (M.bind (M.bind (M.bind (M.pure (" " : Str)) fun t13 => M.bind (M.bind (M.opt (gCatL [("row" : Str)] v_row)) fun t11 => M.bind (M.bind (M.opt (gR1 ((41 : Int) - ((List.length v_row : Nat) : Int)))) fun t10 => lcO (fun x9 => (M.pure true)) (fun x9 => (M.opt (gIx s5 (0 : Int)))) t10 []) fun t12 => M.opt (gCatL t11 t12)) fun t14 => M.opt (gJoin t13 t14)) fun t15 => M.pure (D.str t15)) fun v_wrong =>
 (bindO (σ := (Str × D × D)) (if (decide ((v_seed % (3 : Int)) = (1 : Int))) = true then
 (M.bind (M.pure ((1 : Int) + ((v_cell / (7 : Int)) % (3 : Int)))) fun v_wide =>
 (M.bind (M.bind (M.opt (gR3 (0 : Int) ((((List.length v_row : Nat) : Int) - v_wide) + (1 : Int)) v_wide)) fun t32 => lcO (fun x31 => (M.pure true)) (fun x31 => (M.pure (cutD v_row (some x31) (some (x31 + v_wide))))) t32 []) fun v_lines =>
 (bindO (σ := (List (List Str))) (if (decide (((List.length v_lines : Nat) : Int) = (0 : Int))) = true then
 (M.bind (M.pure [v_row]) fun v_lines =>
 (M.pure (.nx v_lines)))
 else (M.pure (.nx v_lines))) fun s34 =>
 (M.bind (f_l_lines_text s34) fun v_text =>
 (M.bind (M.bind (M.bind (M.bind (M.bind (M.opt (gIx s34 (0 : Int))) fun t35 => M.pure ((List.length t35 : Nat) : Int)) fun t38 => M.bind (M.bind (lcO (fun x36 => (M.pure true)) (fun x36 => (M.pure x36)) s34 []) fun t37 => M.pure t37) fun t39 => M.pure (t38, t39)) fun t40 => M.pure (("table" : Str), t40.1, t40.2)) fun t41 => M.pure ((eP3 D.str D.int (eTL (eTL D.str))) t41)) fun v_form =>
 (M.bind (M.bind (M.bind (M.opt (gIx s5 (0 : Int))) fun t42 => f_l_wrong_table s34 v_cell t42) fun t43 => M.pure (D.str t43)) fun v_wrong =>
 (M.pure (.nx (v_text, v_form, v_wrong)))))))))
 else (M.pure (.nx (v_text, v_form, v_wrong)))) fun s30 =>
 (bindO (σ := (Str × D × D)) (if (decide ((v_seed % (3 : Int)) = (2 : Int))) = true then
 (M.bind (f_l_nodes v_cells s5) fun v_nodes_here =>
 (M.bind (M.bind (f_l_forest_text v_nodes_here) fun t49 => M.opt (gCatS ("forest " : Str) t49)) fun v_text =>
 (M.bind (M.pure ((eP2 D.str (eTL (eP2 D.str D.int))) (("forest" : Str), v_nodes_here))) fun v_form =>
 (M.bind (M.bind (M.bind (M.opt (gIx s5 (0 : Int))) fun t50 => f_l_wrong_forest v_nodes_here v_cell t50) fun t51 => M.pure (D.str t51)) fun v_wrong =>
 (M.pure (.nx (v_text, v_form, v_wrong)))))))
 else (M.pure (.nx (s30.1, s30.2.1, s30.2.2)))) fun s48 =>
 (bindO (σ := D) (if (decide (((v_seed / (3 : Int)) % (2 : Int)) = (1 : Int))) = true then
 (M.bind (M.bind (M.opt (gIx s5 (0 : Int))) fun t55 => f_l_wrong_by_any s48.1 v_cell t55) fun v_wrong =>
 (M.pure (.nx v_wrong)))
 else (M.pure (.nx s48.2.2))) fun s54 =>
 (M.bind (M.bind (f_l_refused s54) fun t56 => M.pure (!t56)) fun t57 => if t57 = true then
 (M.bind (M.pure false) fun t58 => M.pure (.rt t58))
 else (M.bind (M.bind (M.bind (f_p_read_thing (D.str s48.1)) fun t59 => methM "form" mt_form resF t59 (M.pure [])) fun t60 => M.opt (D.eq? t60 s48.2.1)) fun t61 => M.pure (.rt t61))))))))))))))))
theorem ty_p_law (v_script : (List Int)) : FnT D.bl m_p_law [D.scr v_script] (f_p_law v_script) := by
  unfold f_p_law
  refine t_fn (Ef := fun _ => [.un, .un, .un, .un, .un, .un, .un, .un, .un, .un, .un, .un, .un, .un]) (Lf := fun _ => []) rfl (.t (.n (.s (.s (.s (.s (.s (.s (.s (.s (.s (.s (.s (.s (.s .z))))))))))))))) (fun _ h => nomatch h) ?_
  unfold c_p_law
  refine t_set (en := D.int) (x_callP (p_aCons (ea := D.scr) (p_Bb (e := D.scr) .z) (p_aCons (ea := D.int) (p_C (e := D.int)) p_aNil)) (ty_l_cell_at _ _)) trivial (fun _ => (.s .z)) (fun v_seed => ?_)
  refine t_set (en := (eL D.str)) (x_callX (xa_X (ea := D.int) (x_callP (p_aCons (ea := D.scr) (p_Bb (e := D.scr) .z) (p_aCons (ea := D.int) (p_C (e := D.int)) p_aNil)) (ty_l_cell_at _ _)) (xa_1 (ea := D.int) (x_callP (p_aCons (ea := D.int) (pp_bin (p_Bf (e := D.int) (.s .z)) (p_C (e := D.int)) ot_div) p_aNil) (ty_l_how_many _)) p_aNil)) (fun _ => ty_l_marks _ _)) trivial (fun _ => (.s (.s .z))) (fun v_marks_here => ?_)
  refine t_seq (E' := (fun s5 : (List Str) => ([.bo (D.scr v_script), .fr (D.int v_seed), .fr ((eL D.str) s5), .un, .un, .un, .un, .un, .un, .un, .un, .un, .un, .un] : Env))) (t_ifP1 (p_TrB (pp_bin (pp_bin (pp_bin (p_Bf (e := D.int) (.s .z)) (p_C (e := D.int)) ot_div) (p_C (e := D.int)) ot_mod) (p_C (e := D.int)) (ot_eq eqI))) ?_ ?_) (fun s5 => ?_)
  · refine t_set (en := (eL D.str)) (Pv.x (p_Cut (p_Lst (ez := (eL D.str)) (p_aCons (ea := D.str) (p_C (e := D.str)) (p_aCons (ea := D.str) (p_C (e := D.str)) (p_aCons (ea := D.str) (p_C (e := D.str)) (p_aCons (ea := D.str) (p_C (e := D.str)) (p_aCons (ea := D.str) (p_C (e := D.str)) (p_aCons (ea := D.str) (p_C (e := D.str)) p_aNil)))))) (Nat.le_of_ble_eq_true rfl) rfl) p_No (p_At (p_Fn (ez := D.int) (p_aCons (ea := (eL D.str)) (p_Bf (e := (eL D.str)) (.s (.s .z))) p_aNil) ot_lenL)) ot_cutL)) trivial (fun _ => (.s (.s .z))) (fun v_marks_here => ?_)
    refine t_wipe (is := [3, 4, 5, 6, 7, 8, 9, 10, 11, 12, 13]) (.cons (.cons (.cons (.cons (.cons (.cons (.cons (.cons (.cons (.cons (.cons .nil (.s (.s (.s (.s (.s (.s (.s (.s (.s (.s (.s (.s (.s .z)))))))))))))) (.s (.s (.s (.s (.s (.s (.s (.s (.s (.s (.s (.s .z))))))))))))) (.s (.s (.s (.s (.s (.s (.s (.s (.s (.s (.s .z)))))))))))) (.s (.s (.s (.s (.s (.s (.s (.s (.s (.s .z))))))))))) (.s (.s (.s (.s (.s (.s (.s (.s (.s .z)))))))))) (.s (.s (.s (.s (.s (.s (.s (.s .z))))))))) (.s (.s (.s (.s (.s (.s (.s .z)))))))) (.s (.s (.s (.s (.s (.s .z))))))) (.s (.s (.s (.s (.s .z)))))) (.s (.s (.s (.s .z))))) (.s (.s (.s .z)))) ?_
    exact t_nil rfl
  · refine t_wipe (is := [3, 4, 5, 6, 7, 8, 9, 10, 11, 12, 13]) (.cons (.cons (.cons (.cons (.cons (.cons (.cons (.cons (.cons (.cons (.cons .nil (.s (.s (.s (.s (.s (.s (.s (.s (.s (.s (.s (.s (.s .z)))))))))))))) (.s (.s (.s (.s (.s (.s (.s (.s (.s (.s (.s (.s .z))))))))))))) (.s (.s (.s (.s (.s (.s (.s (.s (.s (.s (.s .z)))))))))))) (.s (.s (.s (.s (.s (.s (.s (.s (.s (.s .z))))))))))) (.s (.s (.s (.s (.s (.s (.s (.s (.s .z)))))))))) (.s (.s (.s (.s (.s (.s (.s (.s .z))))))))) (.s (.s (.s (.s (.s (.s (.s .z)))))))) (.s (.s (.s (.s (.s (.s .z))))))) (.s (.s (.s (.s (.s .z)))))) (.s (.s (.s (.s .z))))) (.s (.s (.s .z)))) ?_
    exact t_nil rfl
  · refine t_set (en := (eL D.int)) (pp_binO (p_Cut (p_Bb (e := D.scr) .z) (p_At (p_C (e := D.int))) (p_At (p_C (e := D.int))) ot_cutScr) (p_Lst (ez := (eL D.int)) (p_aCons (ea := D.int) (p_V (e := D.int) (.s .z)) p_aNil) (Nat.le_of_ble_eq_true rfl) rfl) (fun _ => oo_addL)) trivial (fun _ => (.s (.s (.s .z)))) (fun v_cells => ?_)
    refine t_set (en := (eL D.str)) (p_Lc (ei := D.int) (eb := D.str) (p_iL (p_V (e := (eL D.int)) (.s (.s (.s .z))))) (.cons .nil (.s (.s (.s (.s (.s (.s (.s .z)))))))) (fun _ => (tgN (.s (.s (.s (.s (.s (.s (.s .z))))))))) (fun x6 => (Pv.x p_Yes)) (fun x6 => (x_callP (p_aCons (ea := D.int) (p_Bf (e := D.int) (.s (.s (.s (.s (.s (.s (.s .z)))))))) (p_aCons (ea := (eL D.str)) (p_Bf (e := (eL D.str)) (.s (.s .z))) p_aNil)) (ty_l_pick _ _)))) trivial (fun _ => (.s (.s (.s (.s .z))))) (fun v_row => ?_)
    refine t_set (en := D.str) (x_joinL (Pv.x (p_C (e := D.str))) (pp_binO (p_Lst (ez := (eL D.str)) (p_aCons (ea := D.str) (p_C (e := D.str)) p_aNil) (Nat.le_of_ble_eq_true rfl) rfl) (p_Bf (e := (eL D.str)) (.s (.s (.s (.s .z))))) (fun _ => oo_addL))) trivial (fun _ => (.s (.s (.s (.s (.s .z)))))) (fun v_text => ?_)
    refine t_set (en := iN) (Pv.x (p_up (ea := (eP2 D.str (eTL D.str))) (p_Tup (ez := (eP2 D.str (eTL D.str))) (p_aCons (ea := D.str) (p_C (e := D.str)) (p_aCons (ea := (eTL D.str)) (p_Fn (ez := (eTL D.str)) (p_aCons (ea := (eL D.str)) (p_Bf (e := (eL D.str)) (.s (.s (.s (.s .z))))) p_aNil) ot_tupL) p_aNil)) (Nat.le_of_ble_eq_true rfl) rfl))) trivial (fun _ => (.s (.s (.s (.s (.s (.s .z))))))) (fun v_form => ?_)
    refine t_set (en := D.int) (x_callP (p_aCons (ea := D.scr) (p_Bb (e := D.scr) .z) (p_aCons (ea := D.int) (p_C (e := D.int)) p_aNil)) (ty_l_cell_at _ _)) trivial (fun _ => (.s (.s (.s (.s (.s (.s (.s .z)))))))) (fun v_cell => ?_)
    generalize (13 : Int) = z13
    generalize (14 : Int) = z14
    generalize (41 : Int) = z41
    refine t_set (en := iN) (x_up (ea := D.str) (x_joinL (Pv.x (p_C (e := D.str))) (xx_binO (pp_binO (p_Lst (ez := (eL D.str)) (p_aCons (ea := D.str) (p_C (e := D.str)) p_aNil) (Nat.le_of_ble_eq_true rfl) rfl) (p_Bf (e := (eL D.str)) (.s (.s (.s (.s .z))))) (fun _ => oo_addL)) (x_Lc' (ei := D.int) (eb := D.str) (p_iFn (ez := D.int) (p_aCons (ea := D.int) (pp_bin (p_C (e := D.int)) (p_Fn (ez := D.int) (p_aCons (ea := (eL D.str)) (p_Bf (e := (eL D.str)) (.s (.s (.s (.s .z))))) p_aNil) ot_lenL) ot_sub) p_aNil) (fun _ => oo_R1)) (.cons .nil (.s (.s (.s (.s (.s (.s (.s (.s (.s (.s (.s (.s .z))))))))))))) (fun _ => (tgN (.s (.s (.s (.s (.s (.s (.s (.s (.s (.s (.s (.s .z)))))))))))))) (fun x9 => (Pv.x p_Yes)) (fun x9 => (pp_binO (p_Bf (e := (eL D.str)) (.s (.s .z))) (p_C (e := D.int)) (fun _ => oo_ixL)))) (fun _ _ _ => oo_addL)))) trivial (fun _ => (.s (.s (.s (.s (.s (.s (.s (.s .z))))))))) (fun v_wrong => ?_)
    refine t_seq (E' := (fun s30 : (Str × D × D) => ([.un, .fr (D.int v_seed), .fr ((eL D.str) s5), .fr ((eL D.int) v_cells), .un, .fr (D.str s30.1), .fr (iN s30.2.1), .fr (D.int v_cell), .fr (iN s30.2.2), .un, .un, .un, .un, .un] : Env))) (t_ifP1 (p_TrB (pp_bin (pp_bin (p_Bf (e := D.int) (.s .z)) (p_C (e := D.int)) ot_mod) (p_C (e := D.int)) (ot_eq eqI))) ?_ ?_) (fun s30 => ?_)
    · refine t_set (en := D.int) (Pv.x (pp_bin (p_C (e := D.int)) (pp_bin (pp_bin (p_Bf (e := D.int) (.s (.s (.s (.s (.s (.s (.s .z)))))))) (p_C (e := D.int)) ot_div) (p_C (e := D.int)) ot_mod) ot_addI)) trivial (fun _ => (.s (.s (.s (.s (.s (.s (.s (.s (.s .z)))))))))) (fun v_wide => ?_)
      generalize (13 : Int) = z13
      generalize (14 : Int) = z14
      generalize (41 : Int) = z41
      refine t_set (en := (eL (eL D.str))) (x_Lc' (ei := D.int) (eb := (eL D.str)) (p_iFn (ez := D.int) (p_aCons (ea := D.int) (p_C (e := D.int)) (p_aCons (ea := D.int) (pp_bin (pp_bin (p_Fn (ez := D.int) (p_aCons (ea := (eL D.str)) (p_Bf (e := (eL D.str)) (.s (.s (.s (.s .z))))) p_aNil) ot_lenL) (p_Bf (e := D.int) (.s (.s (.s (.s (.s (.s (.s (.s (.s .z)))))))))) ot_sub) (p_C (e := D.int)) ot_addI) (p_aCons (ea := D.int) (p_Bf (e := D.int) (.s (.s (.s (.s (.s (.s (.s (.s (.s .z)))))))))) p_aNil))) (fun _ => oo_R3)) (.cons .nil (.s (.s (.s (.s (.s (.s (.s (.s (.s (.s (.s (.s .z))))))))))))) (fun _ => (tgN (.s (.s (.s (.s (.s (.s (.s (.s (.s (.s (.s (.s .z)))))))))))))) (fun x31 => (Pv.x p_Yes)) (fun x31 => (Pv.x (p_Cut (p_Bf (e := (eL D.str)) (.s (.s (.s (.s .z))))) (p_At (p_Bf (e := D.int) (.s (.s (.s (.s (.s (.s (.s (.s (.s (.s (.s (.s .z)))))))))))))) (p_At (pp_bin (p_Bf (e := D.int) (.s (.s (.s (.s (.s (.s (.s (.s (.s (.s (.s (.s .z))))))))))))) (p_Bf (e := D.int) (.s (.s (.s (.s (.s (.s (.s (.s (.s .z)))))))))) ot_addI)) ot_cutL)))) trivial (fun _ => (.s (.s (.s (.s (.s (.s (.s (.s (.s (.s .z))))))))))) (fun v_lines => ?_)
      refine t_seq (E' := (fun s34 : (List (List Str)) => ([.un, .fr (D.int v_seed), .fr ((eL D.str) s5), .fr ((eL D.int) v_cells), .un, .un, .un, .fr (D.int v_cell), .un, .un, .fr ((eL (eL D.str)) s34), .un, .un, .un] : Env))) (t_ifP1 (p_TrB (pp_bin (p_Fn (ez := D.int) (p_aCons (ea := (eL (eL D.str))) (p_Bf (e := (eL (eL D.str))) (.s (.s (.s (.s (.s (.s (.s (.s (.s (.s .z))))))))))) p_aNil) ot_lenL) (p_C (e := D.int)) (ot_eq eqI))) ?_ ?_) (fun s34 => ?_)
      · refine t_set (en := (eL (eL D.str))) (Pv.x (p_Lst (ez := (eL (eL D.str))) (p_aCons (ea := (eL D.str)) (p_V (e := (eL D.str)) (.s (.s (.s (.s .z))))) p_aNil) (Nat.le_of_ble_eq_true rfl) rfl)) trivial (fun _ => (.s (.s (.s (.s (.s (.s (.s (.s (.s (.s .z))))))))))) (fun v_lines => ?_)
        refine t_wipe (is := [0, 4, 5, 6, 8, 9, 11, 12, 13]) (.cons (.cons (.cons (.cons (.cons (.cons (.cons (.cons (.cons .nil (.s (.s (.s (.s (.s (.s (.s (.s (.s (.s (.s (.s (.s .z)))))))))))))) (.s (.s (.s (.s (.s (.s (.s (.s (.s (.s (.s (.s .z))))))))))))) (.s (.s (.s (.s (.s (.s (.s (.s (.s (.s (.s .z)))))))))))) (.s (.s (.s (.s (.s (.s (.s (.s (.s .z)))))))))) (.s (.s (.s (.s (.s (.s (.s (.s .z))))))))) (.s (.s (.s (.s (.s (.s .z))))))) (.s (.s (.s (.s (.s .z)))))) (.s (.s (.s (.s .z))))) .z) ?_
        exact t_nil rfl
      · refine t_wipe (is := [0, 4, 5, 6, 8, 9, 11, 12, 13]) (.cons (.cons (.cons (.cons (.cons (.cons (.cons (.cons (.cons .nil (.s (.s (.s (.s (.s (.s (.s (.s (.s (.s (.s (.s (.s .z)))))))))))))) (.s (.s (.s (.s (.s (.s (.s (.s (.s (.s (.s (.s .z))))))))))))) (.s (.s (.s (.s (.s (.s (.s (.s (.s (.s (.s .z)))))))))))) (.s (.s (.s (.s (.s (.s (.s (.s (.s .z)))))))))) (.s (.s (.s (.s (.s (.s (.s (.s .z))))))))) (.s (.s (.s (.s (.s (.s .z))))))) (.s (.s (.s (.s (.s .z)))))) (.s (.s (.s (.s .z))))) .z) ?_
        exact t_nil rfl
      · refine t_set (en := D.str) (x_callP (p_aCons (ea := (eL (eL D.str))) (p_Bf (e := (eL (eL D.str))) (.s (.s (.s (.s (.s (.s (.s (.s (.s (.s .z))))))))))) p_aNil) (ty_l_lines_text _)) trivial (fun _ => (.s (.s (.s (.s (.s .z)))))) (fun v_text => ?_)
        refine t_set (en := iN) (x_up (ea := (eP3 D.str D.int (eTL (eTL D.str)))) (x_Tup' (ez := (eP3 D.str D.int (eTL (eTL D.str)))) (xa_P (ea := D.str) (p_C (e := D.str)) (xa_X (ea := D.int) (x_FnT (ez := D.int) (xa_1 (ea := (eL D.str)) (pp_binO (p_Bf (e := (eL (eL D.str))) (.s (.s (.s (.s (.s (.s (.s (.s (.s (.s .z))))))))))) (p_C (e := D.int)) (fun _ => oo_ixL)) p_aNil) (fun _ => ot_lenL)) (xa_1 (ea := (eTL (eTL D.str))) (x_FnT (ez := (eTL (eTL D.str))) (xa_1 (ea := (eL (eTL D.str))) (p_Lc (ei := (eL D.str)) (eb := (eTL D.str)) (p_iL (p_V (e := (eL (eL D.str))) (.s (.s (.s (.s (.s (.s (.s (.s (.s (.s .z)))))))))))) (.cons .nil (.s (.s (.s (.s (.s (.s (.s (.s (.s (.s (.s (.s (.s .z)))))))))))))) (fun _ => (tgN (.s (.s (.s (.s (.s (.s (.s (.s (.s (.s (.s (.s (.s .z))))))))))))))) (fun x36 => (Pv.x p_Yes)) (fun x36 => (Pv.x (p_Fn (ez := (eTL D.str)) (p_aCons (ea := (eL D.str)) (p_Bf (e := (eL D.str)) (.s (.s (.s (.s (.s (.s (.s (.s (.s (.s (.s (.s (.s .z)))))))))))))) p_aNil) ot_tupL)))) p_aNil) (fun _ => ot_tupL)) p_aNil))) (fun _ => Nat.le_of_ble_eq_true rfl) (fun _ => rfl))) trivial (fun _ => (.s (.s (.s (.s (.s (.s .z))))))) (fun v_form => ?_)
        refine t_set (en := iN) (x_up (ea := D.str) (x_callX (xa_P (ea := (eL (eL D.str))) (p_Bf (e := (eL (eL D.str))) (.s (.s (.s (.s (.s (.s (.s (.s (.s (.s .z))))))))))) (xa_P (ea := D.int) (p_Bf (e := D.int) (.s (.s (.s (.s (.s (.s (.s .z)))))))) (xa_1 (ea := D.str) (pp_binO (p_Bf (e := (eL D.str)) (.s (.s .z))) (p_C (e := D.int)) (fun _ => oo_ixL)) p_aNil))) (fun _ => ty_l_wrong_table _ _ _))) trivial (fun _ => (.s (.s (.s (.s (.s (.s (.s (.s .z))))))))) (fun v_wrong => ?_)
        refine t_wipe (is := [0, 4, 9, 10, 11, 12, 13]) (.cons (.cons (.cons (.cons (.cons (.cons (.cons .nil (.s (.s (.s (.s (.s (.s (.s (.s (.s (.s (.s (.s (.s .z)))))))))))))) (.s (.s (.s (.s (.s (.s (.s (.s (.s (.s (.s (.s .z))))))))))))) (.s (.s (.s (.s (.s (.s (.s (.s (.s (.s (.s .z)))))))))))) (.s (.s (.s (.s (.s (.s (.s (.s (.s (.s .z))))))))))) (.s (.s (.s (.s (.s (.s (.s (.s (.s .z)))))))))) (.s (.s (.s (.s .z))))) .z) ?_
        exact t_nil rfl
    · refine t_wipe (is := [0, 4, 9, 10, 11, 12, 13]) (.cons (.cons (.cons (.cons (.cons (.cons (.cons .nil (.s (.s (.s (.s (.s (.s (.s (.s (.s (.s (.s (.s (.s .z)))))))))))))) (.s (.s (.s (.s (.s (.s (.s (.s (.s (.s (.s (.s .z))))))))))))) (.s (.s (.s (.s (.s (.s (.s (.s (.s (.s (.s .z)))))))))))) (.s (.s (.s (.s (.s (.s (.s (.s (.s (.s .z))))))))))) (.s (.s (.s (.s (.s (.s (.s (.s (.s .z)))))))))) (.s (.s (.s (.s .z))))) .z) ?_
      exact t_nil rfl
    · refine t_seq (E' := (fun s48 : (Str × D × D) => ([.un, .fr (D.int v_seed), .fr ((eL D.str) s5), .un, .un, .fr (D.str s48.1), .fr (iN s48.2.1), .fr (D.int v_cell), .fr (iN s48.2.2), .un, .un, .un, .un, .un] : Env))) (t_ifP1 (p_TrB (pp_bin (pp_bin (p_Bf (e := D.int) (.s .z)) (p_C (e := D.int)) ot_mod) (p_C (e := D.int)) (ot_eq eqI))) ?_ ?_) (fun s48 => ?_)
      · refine t_set (en := (eL (eP2 D.str D.int))) (x_callP (p_aCons (ea := (eL D.int)) (p_Bf (e := (eL D.int)) (.s (.s (.s .z)))) (p_aCons (ea := (eL D.str)) (p_Bf (e := (eL D.str)) (.s (.s .z))) p_aNil)) (ty_l_nodes _ _)) trivial (fun _ => (.s (.s (.s (.s (.s (.s (.s (.s (.s (.s (.s .z)))))))))))) (fun v_nodes_here => ?_)
        refine t_set (en := D.str) (px_binO (p_C (e := D.str)) (x_callP (p_aCons (ea := (eL (eP2 D.str D.int))) (p_Bf (e := (eL (eP2 D.str D.int))) (.s (.s (.s (.s (.s (.s (.s (.s (.s (.s (.s .z)))))))))))) p_aNil) (ty_l_forest_text _)) (fun _ _ => oo_catS)) trivial (fun _ => (.s (.s (.s (.s (.s .z)))))) (fun v_text => ?_)
        refine t_set (en := iN) (Pv.x (p_up (ea := (eP2 D.str (eTL (eP2 D.str D.int)))) (p_Tup (ez := (eP2 D.str (eTL (eP2 D.str D.int)))) (p_aCons (ea := D.str) (p_C (e := D.str)) (p_aCons (ea := (eTL (eP2 D.str D.int))) (p_Fn (ez := (eTL (eP2 D.str D.int))) (p_aCons (ea := (eL (eP2 D.str D.int))) (p_Bf (e := (eL (eP2 D.str D.int))) (.s (.s (.s (.s (.s (.s (.s (.s (.s (.s (.s .z)))))))))))) p_aNil) ot_tupL) p_aNil)) (Nat.le_of_ble_eq_true rfl) rfl))) trivial (fun _ => (.s (.s (.s (.s (.s (.s .z))))))) (fun v_form => ?_)
        refine t_set (en := iN) (x_up (ea := D.str) (x_callX (xa_P (ea := (eL (eP2 D.str D.int))) (p_Bf (e := (eL (eP2 D.str D.int))) (.s (.s (.s (.s (.s (.s (.s (.s (.s (.s (.s .z)))))))))))) (xa_P (ea := D.int) (p_Bf (e := D.int) (.s (.s (.s (.s (.s (.s (.s .z)))))))) (xa_1 (ea := D.str) (pp_binO (p_Bf (e := (eL D.str)) (.s (.s .z))) (p_C (e := D.int)) (fun _ => oo_ixL)) p_aNil))) (fun _ => ty_l_wrong_forest _ _ _))) trivial (fun _ => (.s (.s (.s (.s (.s (.s (.s (.s .z))))))))) (fun v_wrong => ?_)
        refine t_wipe (is := [0, 3, 4, 9, 10, 11, 12, 13]) (.cons (.cons (.cons (.cons (.cons (.cons (.cons (.cons .nil (.s (.s (.s (.s (.s (.s (.s (.s (.s (.s (.s (.s (.s .z)))))))))))))) (.s (.s (.s (.s (.s (.s (.s (.s (.s (.s (.s (.s .z))))))))))))) (.s (.s (.s (.s (.s (.s (.s (.s (.s (.s (.s .z)))))))))))) (.s (.s (.s (.s (.s (.s (.s (.s (.s (.s .z))))))))))) (.s (.s (.s (.s (.s (.s (.s (.s (.s .z)))))))))) (.s (.s (.s (.s .z))))) (.s (.s (.s .z)))) .z) ?_
        exact t_nil rfl
      · refine t_wipe (is := [0, 3, 4, 9, 10, 11, 12, 13]) (.cons (.cons (.cons (.cons (.cons (.cons (.cons (.cons .nil (.s (.s (.s (.s (.s (.s (.s (.s (.s (.s (.s (.s (.s .z)))))))))))))) (.s (.s (.s (.s (.s (.s (.s (.s (.s (.s (.s (.s .z))))))))))))) (.s (.s (.s (.s (.s (.s (.s (.s (.s (.s (.s .z)))))))))))) (.s (.s (.s (.s (.s (.s (.s (.s (.s (.s .z))))))))))) (.s (.s (.s (.s (.s (.s (.s (.s (.s .z)))))))))) (.s (.s (.s (.s .z))))) (.s (.s (.s .z)))) .z) ?_
        exact t_nil rfl
      · refine t_seq (E' := (fun s54 : D => ([.un, .un, .un, .un, .un, .fr (D.str s48.1), .fr (iN s48.2.1), .un, .fr (iN s54), .un, .un, .un, .un, .un] : Env))) (t_ifP1 (p_TrB (pp_bin (pp_bin (pp_bin (p_Bf (e := D.int) (.s .z)) (p_C (e := D.int)) ot_div) (p_C (e := D.int)) ot_mod) (p_C (e := D.int)) (ot_eq eqI))) ?_ ?_) (fun s54 => ?_)
        · refine t_set (en := iN) (x_callX (xa_P (ea := D.str) (p_V (e := D.str) (.s (.s (.s (.s (.s .z)))))) (xa_P (ea := D.int) (p_Bf (e := D.int) (.s (.s (.s (.s (.s (.s (.s .z)))))))) (xa_1 (ea := D.str) (pp_binO (p_Bf (e := (eL D.str)) (.s (.s .z))) (p_C (e := D.int)) (fun _ => oo_ixL)) p_aNil))) (fun _ => ty_l_wrong_by_any _ _ _)) trivial (fun _ => (.s (.s (.s (.s (.s (.s (.s (.s .z))))))))) (fun v_wrong => ?_)
          refine t_wipe (is := [0, 1, 2, 3, 4, 7, 9, 10, 11, 12, 13]) (.cons (.cons (.cons (.cons (.cons (.cons (.cons (.cons (.cons (.cons (.cons .nil (.s (.s (.s (.s (.s (.s (.s (.s (.s (.s (.s (.s (.s .z)))))))))))))) (.s (.s (.s (.s (.s (.s (.s (.s (.s (.s (.s (.s .z))))))))))))) (.s (.s (.s (.s (.s (.s (.s (.s (.s (.s (.s .z)))))))))))) (.s (.s (.s (.s (.s (.s (.s (.s (.s (.s .z))))))))))) (.s (.s (.s (.s (.s (.s (.s (.s (.s .z)))))))))) (.s (.s (.s (.s (.s (.s (.s .z)))))))) (.s (.s (.s (.s .z))))) (.s (.s (.s .z)))) (.s (.s .z))) (.s .z)) .z) ?_
          exact t_nil rfl
        · refine t_wipe (is := [0, 1, 2, 3, 4, 7, 9, 10, 11, 12, 13]) (.cons (.cons (.cons (.cons (.cons (.cons (.cons (.cons (.cons (.cons (.cons .nil (.s (.s (.s (.s (.s (.s (.s (.s (.s (.s (.s (.s (.s .z)))))))))))))) (.s (.s (.s (.s (.s (.s (.s (.s (.s (.s (.s (.s .z))))))))))))) (.s (.s (.s (.s (.s (.s (.s (.s (.s (.s (.s .z)))))))))))) (.s (.s (.s (.s (.s (.s (.s (.s (.s (.s .z))))))))))) (.s (.s (.s (.s (.s (.s (.s (.s (.s .z)))))))))) (.s (.s (.s (.s (.s (.s (.s .z)))))))) (.s (.s (.s (.s .z))))) (.s (.s (.s .z)))) (.s (.s .z))) (.s .z)) .z) ?_
          exact t_nil rfl
        · refine t_if (x_tNot' (x_TrBm (x_callP (p_aCons (ea := iN) (p_Bf (e := iN) (.s (.s (.s (.s (.s (.s (.s (.s .z))))))))) p_aNil) (ty_l_refused _)))) trivial ?_ ?_
          · refine t_assoc ?_
            exact t_ret (eb := D.bl) (Pv.x (p_C (e := D.bl))) trivial (fun _ => rf_fr _)
          · refine t_nxl ?_
            exact t_ret (eb := D.bl) (xp_binO (x_methP (ea := iN) (x_callP (p_aCons (ea := iN) (p_up (ea := D.str) (p_Bf (e := D.str) (.s (.s (.s (.s (.s .z))))))) p_aNil) (ty_p_read_thing _)) p_aNil) (p_Bf (e := iN) (.s (.s (.s (.s (.s (.s .z))))))) (fun _ _ => oo_eqD)) trivial (fun _ => rf_fr _)
end
end PM
set_option maxHeartbeats 1000000
namespace PM
open PySem PySem.Spec PyProof.Rows L2
def lett : List Nat := Sl (Str.ofString "abcdefghijklmnopqrstuvwxyz")
def isMkS (x : Str) : Bool := decide (x ≠ Str.ofString "") && decide (x.length ≤ 8) && (Sl x).all (fun c => decide (c ∈ lett))
def isMk : D → Bool
  | .str x => isMkS x
  | _ => false
def okD (d : D) : Prop := (∀ x, d = .str x → x.length ≤ 1000000) ∧ d.isT "str" ≠ none
theorem okD_str {x : Str} (h : x.length ≤ 1000000) : okD (.str x) := ⟨by rintro y e; cases e; exact h, by simp [D.isT]⟩
theorem is_mark_ok {d : D} (h : okD d) : f_p_is_mark d = M.pure (isMk d) := by
  unfold f_p_is_mark
  cases d
  case str x =>
    have hx := h.1 x rfl
    have e1 : D.eq? (.str x) (.str ("" : Str)) = some (decide (x = ("" : Str))) := eq?_dec eqS (by decide) _ _
    have e2 : fLen [.str x] = some (.int x.length) := fn_lenS hx
    have e3 : ∀ c ∈ Sl x, f_b1_p_is_mark c = M.pure (if decide (c ∈ lett) = true then .nx () else .rt false) := by
      intro c hc
      unfold f_b1_p_is_mark
      by_cases hl : c ∈ Sl k_LETTERS
      · have hl' : c ∈ lett := hl
        simp [hl, hl']
      · have hl' : c ∉ lett := hl
        simp [hl, hl', M.pure_bind]
    have e4 := for_all (τ' := Unit) (xs := Sl x) (f := fun c _ => f_b1_p_is_mark c) (p := fun c => decide (c ∈ lett)) (b := false) e3
    simp only [D.isT, M.opt_some, M.pure_bind, beq_self_eq_true, Bool.not_true, Bool.false_eq_true, if_false, e1, e2, gI, uS, e4]
    by_cases h0 : x = ("" : Str)
    · subst h0
      simp [isMk, isMkS, runO_rt, M.pure_bind]
    · by_cases h1 : x.length ≤ 8
      · have h2 : ¬ ((x.length : Int) > k_MOST_LETTERS) := by show ¬ ((x.length : Int) > 8); omega
        have h0' : ¬ x = Str.ofString "" := h0
        cases q : (Sl x).all fun c => decide (c ∈ lett) <;> simp [isMk, isMkS, h0, h0', h1, h2, q, runO_rt, M.pure_bind, bindO_nx, bindO_rt]
      · have h2 : (x.length : Int) > k_MOST_LETTERS := by show (x.length : Int) > 8; omega
        simp [isMk, isMkS, h0, h1, h2, runO_rt, M.pure_bind]
  case obj => exact absurd rfl h.2
  case rf => exact absurd rfl h.2
  case exn => exact absurd rfl h.2
  case dit => exact absurd rfl h.2
  case nst => exact absurd rfl h.2
  all_goals rfl
theorem is_whole_ok {d : D} {p q : Bool} (hp : d.isT "int" = some p) (hq : d.isT "bool" = some q) : f_p_is_whole d = M.pure (p && !q) := by
  unfold f_p_is_whole
  rw [hp, hq]
  cases p <;> cases q <;> rfl
theorem isMk_len {x : Str} (h : isMkS x = true) : x.length ≤ 8 := by
  unfold isMkS at h
  simp only [Bool.and_eq_true, decide_eq_true_eq] at h
  exact h.1.2
theorem is_mark_T {x : Str} (h : isMkS x = true) : f_p_is_mark (.str x) = M.pure true := by
  have := isMk_len h
  rw [is_mark_ok (okD_str (by omega)), isMk, h]
theorem is_whole_I (i : Int) : f_p_is_whole (.int i) = M.pure true := is_whole_ok (p := true) (q := false) rfl rfl

end PM
set_option maxHeartbeats 1000000
namespace PM
open PySem PySem.Spec PyProof.Rows L2
theorem meth_F {ζ : Type} {mn : Str} {mt : MTab} {c : Nat} {fs : List (Str × D)} {fn : Fn} {ds : List D} {e : ζ → D} {g : M ζ} {v : ζ} (hl : fs.lookup mn = none) (hm : mt c = some fn) (hf : FnT e fn (.obj c fs :: ds) g) (hg : g = M.pure v) : methM mn mt resF (.obj c fs) (M.pure ds) = M.pure (e v) := by
  funext S
  have h := hf S
  rw [hg] at h
  simp only [methM, hl, hm, M.pure_bind]
  exact h
theorem are_marks_ok {ds : List D} {most : Int} (h : ∀ d ∈ ds, okD d) : f_p_are_marks (.lst ds) most = M.pure (decide ((ds.length : Int) ≤ most) && ds.all isMk) := by
  unfold f_p_are_marks
  have e3 : ∀ x ∈ ds, f_b1_p_are_marks x = M.pure (if isMk x = true then .nx () else .rt false) := by
    intro x hx
    unfold f_b1_p_are_marks
    rw [is_mark_ok (h x hx)]
    cases isMk x <;> rfl
  have e4 := for_all (τ' := Unit) (xs := ds) (f := fun c _ => f_b1_p_are_marks c) (p := isMk) (b := false) e3
  have e5 : gI (fLen [.lst ds]) = some (ds.length : Int) := rfl
  simp only [NFL, D.isT, beq_self_eq_true, Bool.not_true, Bool.false_eq_true, if_false, e5, uAny_told, e4]
  by_cases hl : (ds.length : Int) ≤ most
  · have hl' : ¬ ((ds.length : Int) > most) := by omega
    cases q : ds.all isMk <;> simp [hl, hl', q, bindO_nx, bindO_rt, runO_rt, M.pure_bind]
  · have hl' : (ds.length : Int) > most := by omega
    simp [hl, hl', runO_rt, M.pure_bind]
def MksOk (ms : List Str) : Prop := ∀ m ∈ ms, isMkS m = true
theorem all_mk' {ms : List Str} (h : MksOk ms) : (ms.map D.str).all isMk = true := by
  rw [List.all_map, List.all_eq_true]
  intro m hm
  exact h m hm
theorem okD_mks {ms : List Str} (h : MksOk ms) : ∀ d ∈ ms.map D.str, okD d := by
  intro d hd
  obtain ⟨m, hm, rfl⟩ := List.mem_map.mp hd
  have := isMk_len (h m hm)
  exact okD_str (by omega)
theorem are_marks_T {ms : List Str} {most : Int} (h : MksOk ms) (hl : (ms.length : Int) ≤ most) : f_p_are_marks (.lst (ms.map .str)) most = M.pure true := by
  rw [are_marks_ok (okD_mks h), all_mk' h]
  simp [hl]
abbrev dRow (ms : List Str) : D := .obj 10 [("row", eL .str ms)]
theorem fld_row {ms : List Str} : fldM fl "row" (dRow ms) = M.pure (eL .str ms) := by
  funext S
  simp only [fldM, fl_10_row, if_true, lk0]
  rfl
theorem Row_init_T {ms : List Str} (h : MksOk ms) (hl : ms.length ≤ 40) : f_p_Row_init 10 (.lst (ms.map .str)) = M.pure (dRow ms) := by
  unfold f_p_Row_init
  have e1 : gFld fl "row" (.obj 10 []) (eL iN (ms.map D.str)) = some (dRow ms) := by
    simp only [gFld, fl_10_row, List.length_nil, true_and, show 0 < 1000 by omega, if_true, pD, ← up_L]
  simp only [NFL, are_marks_T h (show ((ms.length : Int) ≤ k_MOST_PLACES) by show (ms.length : Int) ≤ 40; omega), Bool.not_true, Bool.false_eq_true, if_false, fList, gLs, e1]
  rfl
def rowLeft (ms : List Str) (ps : List Nat) : List Str := ps.map fun p => ms.getD p E0
abbrev dvRowForm (ms : List Str) : D := .tup [.str "row", .tup (ms.map .str)]
theorem m_form_R (ms : List Str) : methM "form" mt_form resF (dRow ms) (M.pure []) = M.pure (dvRowForm ms) := by
  refine meth_F (e := eP2 D.str (eTL D.str)) (v := (("row" : Str), ms)) (lkn (by decide +kernel) lkn0) rfl (ty_p_Row_form (dRow ms)) ?_
  unfold f_p_Row_form
  simp only [NFL, fld_row, eL, uLS_told]

end PM
set_option maxHeartbeats 1000000
namespace PM
open PySem PySem.Spec PyProof.Rows L2
abbrev iNd (n : Str × Nat) : Str × Int := (n.1, (n.2 : Int))
abbrev dNode (n : Str × Nat) : D := .tup [.str n.1, .int (n.2 : Int)]
abbrev dForest (ns : List (Str × Nat)) : D := .obj 11 [("nodes", .lst (ns.map dNode))]
theorem nodes_enc (ns : List (Str × Nat)) : (ns.map iNd).map (eP2 D.str D.int) = ns.map dNode := by simp [iNd, dNode]
theorem uNodes (ns : List (Str × Nat)) : uL (uP2 uS uI) (.lst (ns.map dNode)) = some (ns.map iNd) := by rw [← nodes_enc]; exact uLSI_told
def NdOk : Nat → List (Str × Nat) → Prop
  | _, [] => True
  | b, n :: r => isMkS n.1 = true ∧ n.2 ≤ b ∧ NdOk (min (n.2 + 1) 12) r
theorem NdOk.le : ∀ {ns : List (Str × Nat)} {b : Nat}, b ≤ 12 → NdOk b ns → ∀ n ∈ ns, isMkS n.1 = true ∧ n.2 ≤ 12
  | [], _, _, _, n, hn => by cases hn
  | x :: r, b, hb, h, n, hn => by
    obtain ⟨h1, h2, h3⟩ := h
    cases hn with
    | head => exact ⟨h1, by omega⟩
    | tail _ hn => exact NdOk.le (by omega) h3 n hn
def goF : List Nat → List ((Str × Nat) × Bool) → List (Str × Nat)
  | _, [] => []
  | A, (n, k) :: r => (if k = true then [(n.1, A.getD n.2 0)] else []) ++ goF (A.set (n.2 + 1) (A.getD n.2 0 + if k = true then 1 else 0)) r
def flg (ps : List Nat) (ns : List (Str × Nat)) : List ((Str × Nat) × Bool) := ns.zipIdx.map fun x => (x.1, decide (x.2 ∈ ps))
def leftF (ns : List (Str × Nat)) (ps : List Nat) : List (Str × Nat) := goF (List.replicate 14 0) (flg ps ns)
theorem are_nodes_T {ns : List (Str × Nat)} (h : NdOk 0 ns) (hl : ns.length ≤ 40) : f_p_are_nodes (.lst (ns.map dNode)) = M.pure true := by
  unfold f_p_are_nodes
  have e5 : gI (fLen [.lst (ns.map dNode)]) = some (ns.length : Int) := by simp [fLen, gI]
  have c0 : ¬ ((ns.length : Int) > k_MOST_PLACES) := by show ¬ ((ns.length : Int) > 40); omega
  simp only [NFL, D.isT, beq_self_eq_true, Bool.not_true, Bool.false_eq_true, if_false, e5, uAny_told, decide_eq_true_eq, c0]
  have key : Ret (forO (τ' := Unit) (fun x s => f_b1_p_are_nodes x s) (ns.map dNode) 0) fun o => ∃ s, o = (.nx s : O Int Unit Bool) ∧ True := by
    refine Ret.forN (fun k l => ∃ b : Nat, l = (b : Int) ∧ b ≤ 12 ∧ NdOk b (ns.drop k)) ⟨0, rfl, by omega, h⟩ ?_ (fun _ _ => trivial)
    rintro k d l hk ⟨b, rfl, hb, hr⟩
    rw [List.getElem?_map] at hk
    cases hx : ns[k]? with
    | none => rw [hx] at hk; cases hk
    | some x =>
      rw [hx] at hk
      cases hk
      have hk2 := (List.getElem?_eq_some_iff.mp hx).1
      rw [List.drop_eq_getElem_cons hk2, (List.getElem?_eq_some_iff.mp hx).2] at hr
      obtain ⟨h1, h2, h3⟩ := hr
      have i0 : oIx (dNode x) (.int 0) = some (.str x.1) := rfl
      have i1 : oIx (dNode x) (.int 1) = some (.int (x.2 : Int)) := rfl
      have i2 : gI (fLen [dNode x]) = some 2 := rfl
      have c1 : (0 : Int) ≤ (x.2 : Int) := by omega
      have c2 : (x.2 : Int) ≤ (b : Int) := by omega
      unfold f_b1_p_are_nodes
      simp only [NFL, D.isT, beq_self_eq_true, Bool.not_true, Bool.false_eq_true, if_false, i0, i1, i2, is_mark_T h1, is_whole_I, uI_told, decide_true, c1, c2, Bool.and_true, min2, k_MOST_DEEP]
      refine ⟨_, rfl, _, rfl, min (x.2 + 1) 12, ?_, by omega, h3⟩
      split <;> omega
  obtain ⟨o, e, s, rfl, _⟩ := key
  rw [e]
  rfl
theorem fld_nodes {ns : List (Str × Nat)} : fldM fl "nodes" (dForest ns) = M.pure (.lst (ns.map dNode)) := by
  funext S
  simp only [fldM, fl_11_nodes, if_true, lk0]
  rfl
theorem Forest_init_T {ns : List (Str × Nat)} (h : NdOk 0 ns) (hl : ns.length ≤ 40) : f_p_Forest_init 11 (.lst (ns.map dNode)) = M.pure (dForest ns) := by
  unfold f_p_Forest_init
  have e1 : gFld fl "nodes" (.obj 11 []) (eL iN (ns.map dNode)) = some (dForest ns) := by
    simp only [gFld, fl_11_nodes, List.length_nil, true_and, show 0 < 1000 by omega, if_true, pD, eL, iN, List.map_id_fun, id]
  simp only [NFL, are_nodes_T h hl, Bool.not_true, Bool.false_eq_true, if_false, fList, gLs, e1]
  rfl
abbrev dvForestForm (ns : List (Str × Nat)) : D := .tup [.str "forest", .tup (ns.map dNode)]
theorem m_form_F (ns : List (Str × Nat)) : methM "form" mt_form resF (dForest ns) (M.pure []) = M.pure (dvForestForm ns) := by
  have e : dvForestForm ns = eP2 D.str (eTL (eP2 D.str D.int)) (("forest" : Str), ns.map iNd) := by simp only [eP2, eTL, nodes_enc]
  rw [e]
  refine meth_F (e := eP2 D.str (eTL (eP2 D.str D.int))) (v := (("forest" : Str), ns.map iNd)) (lkn (by decide +kernel) lkn0) rfl (ty_p_Forest_form (dForest ns)) ?_
  unfold f_p_Forest_form
  simp only [NFL, fld_nodes, uNodes]

end PM
set_option maxHeartbeats 1000000
namespace PM
open PySem PySem.Spec PyProof.Rows L2
abbrev dLine (l : List Str) : D := .lst (l.map .str)
abbrev dTable (ls : List (List Str)) (w : Nat) : D := .obj 12 [("lines", .lst (ls.map dLine)), ("wide", .int (w : Int))]
structure TbOk (ls : List (List Str)) (w : Nat) : Prop where
  len : ls.length ≤ 12
  wd : w ≤ 12
  li : ∀ l ∈ ls, l.length = w ∧ MksOk l
def tbCols (n : Nat) (ps : List Nat) : List Nat := (ps.filter fun p => decide (n ≤ p)).map (· - n)
def tbLn (ls : List (List Str)) (cs : List Nat) (ps : List Nat) : List (List Str) := (ps.filter fun p => decide (p < ls.length)).map fun p => cs.map fun c => (ls.getD p []).getD c E0
abbrev tbLeft (ls : List (List Str)) (ps : List Nat) : List (List Str) := tbLn ls (tbCols ls.length ps) ps
theorem getD_mem {α : Type} {l : List α} {i : Nat} {d : α} (h : i < l.length) : l.getD i d ∈ l := by
  rw [List.getD_eq_getElem?_getD, List.getElem?_eq_getElem h]; exact List.getElem_mem h
theorem uLines (ls : List (List Str)) : uL (uL uS) (.lst (ls.map dLine)) = some ls := uLL_told
theorem ix_line {ls : List (List Str)} (h : 0 < ls.length) : oIx (.lst (ls.map dLine)) (.int 0) = some (dLine (ls.getD 0 [])) := dv_ixN dLine [] h rfl
theorem line0_len {ls : List (List Str)} {w : Nat} (h : TbOk ls w) (h0 : 0 < ls.length) : (ls.getD 0 []).length = w := (h.li _ (getD_mem h0)).1
theorem are_lines_T {ls : List (List Str)} {w : Nat} (h : TbOk ls w) : f_p_are_lines (.lst (ls.map dLine)) = M.pure true := by
  have hlen := h.len
  have hwd := h.wd
  unfold f_p_are_lines
  have e5 : gI (fLen [.lst (ls.map dLine)]) = some (ls.length : Int) := by simp [fLen, gI]
  have c0 : ¬ ((ls.length : Int) > k_MOST_LINES) := by show ¬ ((ls.length : Int) > 12); omega
  have e3 : ∀ x ∈ ls.map dLine, f_b1_p_are_lines (.lst (ls.map dLine)) x = M.pure (if true = true then .nx () else .rt false) := by
    intro x hx
    obtain ⟨l, hl, rfl⟩ := List.mem_map.mp hx
    obtain ⟨h1, h2⟩ := h.li l hl
    have h0 : 0 < ls.length := List.length_pos_of_mem hl
    have e1 : gI (fLen [dLine l]) = some (w : Int) := by simp [fLen, gI, h1]
    have e2 : gI (fLen [dLine (ls.getD 0 [])]) = some (w : Int) := by simp only [fLen, gI, List.length_map, line0_len h h0]
    unfold f_b1_p_are_lines
    simp only [NFL, are_marks_T h2 (show (l.length : Int) ≤ k_MOST_LINES by show (l.length : Int) ≤ 12; omega), Bool.not_true, Bool.false_eq_true, if_false, e1, ix_line h0, e2, decide_true, if_true]
  have e4 := for_all (τ' := Unit) (xs := ls.map dLine) (f := fun c _ => f_b1_p_are_lines (.lst (ls.map dLine)) c) (p := fun _ => true) (b := false) e3
  have e6 : ((ls.map dLine).all fun _ => true) = true := by simp
  simp only [NFL, D.isT, beq_self_eq_true, Bool.not_true, Bool.false_eq_true, if_false, e5, uAny_told, decide_eq_true_eq, c0, e4, e6, if_true]
theorem fld_lines {ls : List (List Str)} {w : Nat} : fldM fl "lines" (dTable ls w) = M.pure (.lst (ls.map dLine)) := by
  funext S
  simp only [fldM, fl_12_lines, if_true, lk0]
  rfl
theorem fld_wide {ls : List (List Str)} {w : Nat} : fldM fl "wide" (dTable ls w) = M.pure (.int (w : Int)) := by
  funext S
  simp only [fldM, fl_12_wide, if_true, lk1 (show ((("wide" : Str)) == ("lines" : Str)) = false by decide +kernel) lk0]
  rfl
theorem Table_init_T {ls : List (List Str)} {w : Nat} (h : TbOk ls w) : f_p_Table_init 12 (.lst (ls.map dLine)) = M.pure (dTable ls (if ls = [] then 0 else w)) := by
  have hlen := h.len
  unfold f_p_Table_init
  have e5 : gI (fLen [.lst (ls.map dLine)]) = some (ls.length : Int) := by simp [fLen, gI]
  simp only [NFL, dFlat, are_lines_T h, Bool.not_true, Bool.false_eq_true, if_false, uAny_told]
  rw [lc_map' (fun d => match d with | .lst xs => xs | _ => []) (by
    intro x hx
    obtain ⟨l, hl, rfl⟩ := List.mem_map.mp hx
    rfl) (by simp; omega)]
  have e0 : eL (eL iN) ((ls.map dLine).map (fun d => match d with | .lst xs => xs | _ => [])) = .lst (ls.map dLine) := by
    simp [eL, iN, dLine]
  have e1 : gFld fl "lines" (.obj 12 []) (.lst (ls.map dLine)) = some (.obj 12 [("lines", .lst (ls.map dLine))]) := by
    simp only [gFld, fl_12_lines, List.length_nil, true_and, show 0 < 1000 by omega, if_true, pD]
  have e2 : ∀ n : Int, gFld fl "wide" (.obj 12 [("lines", .lst (ls.map dLine))]) (.int n) = some (.obj 12 [("lines", .lst (ls.map dLine)), ("wide", .int n)]) := by
    intro n
    simp only [gFld, fl_12_wide, List.length_cons, List.length_nil, true_and, show 0 + 1 < 1000 by omega, if_true, pDt (show ((("lines" : Str)) == ("wide" : Str)) = false by decide +kernel) pD0]
  have e3 : ∀ n m : Int, gFld fl "wide" (.obj 12 [("lines", .lst (ls.map dLine)), ("wide", .int m)]) (.int n) = some (.obj 12 [("lines", .lst (ls.map dLine)), ("wide", .int n)]) := by
    intro n m
    simp only [gFld, fl_12_wide, List.length_cons, List.length_nil, true_and, show 0 + 1 + 1 < 1000 by omega, if_true, pDt (show ((("lines" : Str)) == ("wide" : Str)) = false by decide +kernel) pDh]
  simp only [NFL, e0, e1, e2, e5, decide_eq_true_eq]
  by_cases h0 : ls = []
  · subst h0
    rfl
  · have h1 : 0 < ls.length := List.length_pos_iff.mpr h0
    have e6 : gI (fLen [dLine (ls.getD 0 [])]) = some (w : Int) := by simp only [fLen, gI, List.length_map, line0_len h h1]
    rw [if_pos (show (ls.length : Int) > 0 by omega), if_neg h0]
    simp only [NFL, ix_line h1, e6, e3]
    rfl
abbrev dvTableForm (ls : List (List Str)) (w : Nat) : D := .tup [.str "table", .int (w : Int), .tup (ls.map fun l => .tup (l.map .str))]
theorem m_form_T {ls : List (List Str)} {w : Nat} (h : ls.length ≤ 12) : methM "form" mt_form resF (dTable ls w) (M.pure []) = M.pure (dvTableForm ls w) := by
  refine meth_F (v := (("table" : Str), (w : Int), ls)) (e := eP3 D.str D.int (eTL (eTL D.str))) (lkn (by decide +kernel) (lkn (by decide +kernel) lkn0)) rfl (ty_p_Table_form (dTable ls w)) ?_
  unfold f_p_Table_form
  simp only [NFL, fld_wide, uI_told, fld_lines, uLines]
  rw [lc_map' (fun x => x) (fun _ _ => rfl) (by omega)]
  simp only [List.map_id']
  simp only [NFL]

end PM
set_option maxHeartbeats 1000000
namespace PM
open PySem PySem.Spec PyProof.Rows L2
inductive Th where
  | row (ms : List Str) | forest (ns : List (Str × Nat)) | table (ls : List (List Str)) (w : Nat)
def Th.d : Th → D
  | .row ms => dRow ms
  | .forest ns => dForest ns
  | .table ls w => dTable ls w
def Th.Ok : Th → Prop
  | .row ms => MksOk ms ∧ ms.length ≤ 40
  | .forest ns => NdOk 0 ns ∧ ns.length ≤ 40
  | .table ls w => TbOk ls w
def Th.n : Th → Nat
  | .row ms => ms.length
  | .forest ns => ns.length
  | .table ls w => ls.length + w
def Th.left (t : Th) (ps : List Nat) : Th := match t with
  | .row ms => .row (rowLeft ms ps)
  | .forest ns => .forest (leftF ns ps)
  | .table ls w => .table (tbLeft ls ps) (tbCols ls.length ps).length
def Th.form : Th → D
  | .row ms => dvRowForm ms
  | .forest ns => dvForestForm ns
  | .table ls w => dvTableForm ls w
theorem pl_strs (n : Nat) (l : List Str) : ∀ x ∈ l.map D.str, Pl n x := by
  intro x hx
  obtain ⟨y, _, rfl⟩ := List.mem_map.mp hx
  exact .str n y
theorem Th.form_pl (t : Th) : Pl 60 t.form := by
  cases t with
  | row ms =>
    refine .tup (n := 59) ?_
    intro x hx
    simp only [List.mem_cons, List.not_mem_nil, or_false] at hx
    rcases hx with rfl | rfl
    · exact .str _ _
    · exact .tup (pl_strs _ ms)
  | forest ns =>
    refine .tup (n := 59) ?_
    intro x hx
    simp only [List.mem_cons, List.not_mem_nil, or_false] at hx
    rcases hx with rfl | rfl
    · exact .str _ _
    · refine .tup ?_
      intro x hx
      obtain ⟨y, _, rfl⟩ := List.mem_map.mp hx
      refine .tup ?_
      intro x hx
      simp only [List.mem_cons, List.not_mem_nil, or_false] at hx
      rcases hx with rfl | rfl
      · exact .str _ _
      · exact .int _ _
  | table ls w =>
    refine .tup (n := 59) ?_
    intro x hx
    simp only [List.mem_cons, List.not_mem_nil, or_false] at hx
    rcases hx with rfl | rfl | rfl
    · exact .str _ _
    · exact .int _ _
    · refine .tup ?_
      intro x hx
      obtain ⟨y, _, rfl⟩ := List.mem_map.mp hx
      exact .tup (pl_strs _ y)
theorem eq_same {d : D} (h : Pl 60 d) : D.eq? d d = some true := by
  obtain ⟨p, h1, h2⟩ := h.py
  exact D.eq_self h1 h2
def Sub : List Bool → List Bool → Prop
  | p :: P, r :: R => (r = true → p = true) ∧ Sub P R
  | [], [] => True
  | _, _ => False
theorem Sub.len : ∀ {P R : List Bool}, Sub P R → P.length = R.length
  | [], [], _ => rfl
  | _ :: _, _ :: _, h => congrArg (· + 1) (Sub.len h.2)
theorem Sub.take : ∀ {P R : List Bool} (d : Nat), Sub P R → Sub (P.take d) (R.take d)
  | _, _, 0, _ => trivial
  | [], [], _ + 1, _ => trivial
  | _ :: _, _ :: _, d + 1, h => ⟨h.1, Sub.take d h.2⟩
theorem Sub.snoc {k k' : Bool} (hk : k' = true → k = true) : ∀ {P R : List Bool}, Sub P R → Sub (P ++ [k]) (R ++ [k'])
  | [], [], _ => ⟨hk, trivial⟩
  | _ :: _, _ :: _, h => ⟨h.1, Sub.snoc hk h.2⟩
end PM
set_option maxHeartbeats 1000000
namespace PM
open PySem PySem.Spec PyProof.Rows L2
theorem sIx_in {n : Nat} {d : Nat} {i : Int} (h : 0 ≤ i ∧ i ≤ n) : HT.sIx n d (some i) = i.toNat := by
  unfold HT.sIx; simp only []; rw [if_neg (by omega)]; omega
theorem cutD_len {α : Type} (xs : List α) {lo hi : Int} (h : 0 ≤ lo ∧ lo ≤ hi ∧ hi ≤ xs.length) : (cutD xs (some lo) (some hi)).length = (hi - lo).toNat := by
  unfold cutD
  rw [sIx_in ⟨h.1, by omega⟩, sIx_in ⟨by omega, h.2.2⟩, List.length_take, List.length_drop]
  omega
theorem cutD_mem {α : Type} {xs : List α} {lo hi : Option Int} {x : α} (h : x ∈ cutD xs lo hi) : x ∈ xs := List.mem_of_mem_drop (List.mem_of_mem_take h)
theorem cutS_Sl (x : Str) (lo hi : Option Int) : Sl (cutS x lo hi) = cutD (Sl x) lo hi := by
  unfold cutS cutD Sl Str.length
  simp
theorem cutS_halves (x : Str) (i : Int) (h : 0 ≤ i ∧ i ≤ x.length) : (cutS x none (some i)).length + (cutS x (some i) none).length = x.length := by
  rw [← Sl_len (cutS x none (some i)), ← Sl_len (cutS x (some i) none), cutS_Sl, cutS_Sl]
  have hl := Sl_len x
  unfold cutD
  rw [sIx_in (by rw [hl]; exact h), sIx_in (by rw [hl]; exact h)]
  simp only [HT.sIx, List.length_take, List.length_drop]
  omega
theorem cutS_len (x : Str) (lo hi : Option Int) : (cutS x lo hi).length ≤ x.length := by
  unfold cutS Str.length; simp; omega
theorem isMkS_of {x : Str} (h1 : 0 < x.length) (h2 : x.length ≤ 8) (h3 : ∀ c ∈ Sl x, c ∈ lett) : isMkS x = true := by
  have h0 : x ≠ Str.ofString "" := by rintro rfl; simp [lit_len] at h1
  simp only [isMkS, h0, h2, decide_true, Bool.and_true, Bool.true_and, List.all_eq_true, decide_eq_true_eq, not_false_eq_true, ne_eq]
  exact h3
theorem emod_in (a : Int) {n : Nat} (h : 0 < n) : 0 ≤ a % (n : Int) ∧ a % (n : Int) < n := ⟨Int.emod_nonneg _ (by omega), Int.emod_lt_of_pos _ (by omega)⟩
theorem rngI_len (lo : Int) (n : Nat) : (rngI lo n).length = n := by simp [rngI]
theorem rngI_mem {lo : Int} {n : Nat} {x : Int} (h : x ∈ rngI lo n) : lo ≤ x ∧ x < lo + n := by
  obtain ⟨k, hk, rfl⟩ := List.mem_map.mp h
  have := List.mem_range.mp hk
  omega
theorem NdOk.snoc : ∀ {ns : List (Str × Nat)} {b : Nat} {m : Str} {d : Nat}, NdOk b ns → isMkS m = true → d ≤ (match ns.getLast? with | some n => min (n.2 + 1) 12 | none => b) → NdOk b (ns ++ [(m, d)])
  | [], b, m, d, _, h2, h3 => ⟨h2, h3, trivial⟩
  | n :: ns, b, m, d, h1, h2, h3 => by
    refine ⟨h1.1, h1.2.1, NdOk.snoc h1.2.2 h2 ?_⟩
    cases ns with
    | nil => simpa using h3
    | cons x xs =>
      simp only [List.getLast?_cons_cons] at h3
      simp only [List.getLast?_cons] at h3 ⊢
      exact h3
theorem rngIC_mem {i j c x : Int} (hc : 0 < c) (h : x ∈ rngIC i c (stepN i j c)) : i ≤ x ∧ x < j := by
  obtain ⟨k, hk, rfl⟩ := List.mem_map.mp h
  have hk := List.mem_range.mp hk
  unfold stepN at hk
  split at hk
  · rename_i hij
    have h1 : (k : Int) ≤ (j - i - 1) / c := by omega
    have h2 : (k : Int) * c ≤ (j - i - 1) / c * c := Int.mul_le_mul_of_nonneg_right h1 (by omega)
    have h3 : (j - i - 1) / c * c ≤ j - i - 1 := Int.ediv_mul_le _ (by omega)
    have h4 : 0 ≤ (k : Int) * c := Int.mul_nonneg (by omega) (by omega)
    omega
  · omega

end PM
set_option maxHeartbeats 1000000
namespace PM
open PySem PySem.Spec PyProof.Rows L2
def howMany (n : Int) : Int := if n / 6 % 8 = 5 then 7 + n / 48 % 19 else 1 + n % 6
theorem howMany_in (n : Int) : 1 ≤ howMany n ∧ howMany n ≤ 25 := by unfold howMany; split <;> omega
theorem mof_lett : ∀ c ∈ Sl (Str.ofString "marksof"), c ∈ lett := by
  have : (Sl (Str.ofString "marksof")).all (fun c => decide (c ∈ lett)) = true := by decide +kernel
  intro c hc
  simpa using List.all_eq_true.mp this c hc
def cell (ns : List Int) (k : Int) : Int := if k < ns.length then ns.getD k.toNat 0 else 0
theorem cell_at_ok {ns : List Int} {k : Int} (hk : 0 ≤ k) : f_l_cell_at ns k = M.pure (cell ns k) := by
  unfold f_l_cell_at cell
  by_cases h : k < ns.length
  · simp only [NFL, h, decide_true, if_true, gIx_getD 0 (show 0 ≤ k ∧ k < ns.length from ⟨hk, h⟩)]
  · simp only [NFL, h, decide_false, Bool.false_eq_true, if_false]
theorem how_many_ok (n : Int) : f_l_how_many n = M.pure (howMany n) := by
  unfold f_l_how_many howMany
  by_cases h : n / 6 % 8 = 5 <;> simp only [NFL, h, decide_true, decide_false, if_true, Bool.false_eq_true, if_false]
theorem marks_ok {c many : Int} (hm : 0 ≤ many ∧ many ≤ 26) : Ret (f_l_marks c many) fun ms => MksOk ms ∧ ms.length = many.toNat := by
  have hb := cutS_len ("marksof" : Str) none (some (c % 8))
  have hb7 : ("marksof" : Str).length = 7 := by simp [lit_len]
  have hlt : ("abcdefghijklmnopqrstuvwxyz" : Str).length = 26 := by simp [lit_len]
  have hcb : ∀ z ∈ Sl (cutS ("marksof" : Str) none (some (c % 8))), z ∈ lett := by
    intro z hz
    rw [cutS_Sl] at hz
    exact mof_lett z (cutD_mem hz)
  rw [hb7] at hb
  unfold f_l_marks
  simp only [NFL, gCutS_ok (x := ("marksof" : Str)) (show ("marksof" : Str).length ≤ 1000000 by rw [hb7]; omega)]
  generalize cutS ("marksof" : Str) none (some (c % 8)) = b at hb hcb ⊢
  simp only [NFL, gLenS_ok (show b.length ≤ 1000000 by omega), gMod_ok (show (0 : Int) < (b.length : Int) + 1 by omega), gR1_ok (show -1000000000 ≤ many ∧ many ≤ 1000000000 by omega)]
  have hi : 0 ≤ c / 8 % ((b.length : Int) + 1) ∧ c / 8 % ((b.length : Int) + 1) ≤ b.length := by
    have := emod_in (c / 8) (show 0 < b.length + 1 by omega)
    push_cast at this
    omega
  generalize c / 8 % ((b.length : Int) + 1) = i at hi
  have h3 := cutS_len b none (some i)
  have h4 := cutS_len b (some i) none
  have h5 := cutS_halves b i hi
  refine Ret.runO (Ret.bindO (P := fun s => 0 ≤ s ∧ s ≤ 8) ?_ ?_)
  · refine Ret.ite (fun _ => ⟨_, rfl, _, rfl, by omega⟩) (fun _ => ⟨_, rfl, _, rfl, by omega⟩)
  · intro step hstep
    have hlc : Ret (lcO (fun _ => M.pure true) (fun x5 => M.bind (M.bind (M.opt (gCutS b none (some i))) fun t10 => M.bind (M.bind (M.bind (M.bind (M.bind (M.opt (gMul x5 step)) fun t6 => M.pure (c / 64 % 26 + t6)) fun t7 => M.pure (t7 % 26)) fun t8 => M.opt (gIxS ("abcdefghijklmnopqrstuvwxyz" : Str) t8)) fun t9 => M.pure (S1 t9)) fun t11 => M.opt (gCatS t10 t11)) fun t12 => M.bind (M.opt (gCutS b (some i) none)) fun t13 => M.opt (gCatS t12 t13)) (rngI 0 many.toNat) []) fun ys => ys.length = (rngI 0 many.toNat).length ∧ ∀ y ∈ ys, isMkS y = true := by
      refine Ret.lc (fun x hx => ?_) (by rw [rngI_len]; omega)
      have := rngI_mem hx
      have hidx : 0 ≤ (c / 64 % 26 + x * step) % 26 ∧ (c / 64 % 26 + x * step) % 26 < ("abcdefghijklmnopqrstuvwxyz" : Str).length ∧ ("abcdefghijklmnopqrstuvwxyz" : Str).length ≤ 1000000 := by rw [hlt]; omega
      simp only [NFL, gCutS_ok (x := b) (show b.length ≤ 1000000 by omega), gMul_okR (i := x) (show -(2 ^ 64) < step ∧ step < 2 ^ 64 by omega), gIxS_ok hidx]
      generalize hg : (Sl ("abcdefghijklmnopqrstuvwxyz" : Str)).getD ((c / 64 % 26 + x * step) % 26).toNat 0 = z
      have hz : z ∈ lett := by
        rw [← hg]
        have h26 : (Sl ("abcdefghijklmnopqrstuvwxyz" : Str)).length = 26 := by rw [Sl_len, hlt]
        exact getD_mem (l := lett) (by have h27 : lett.length = 26 := h26; rw [h27]; omega)
      simp only [NFL, gCatS_ok (x := cutS b none (some i)) (y := S1 z) (by simp; omega), gCatS_ok (x := cutS b none (some i) ++ S1 z) (y := cutS b (some i) none) (by simp; omega)]
      refine ⟨_, rfl, isMkS_of (by simp; omega) (by simp; omega) ?_⟩
      intro q hq
      simp only [Sl_add, Sl_one, cutS_Sl, List.mem_append, List.mem_singleton] at hq
      rcases hq with (hq | rfl) | hq
      · exact hcb q (cutD_mem hq)
      · exact hz
      · exact hcb q (cutD_mem hq)
    simp only [M.bind_assoc, M.pure_bind] at hlc
    refine Ret.bind hlc fun ys hys => ⟨_, rfl, _, rfl, hys.2, by rw [hys.1, rngI_len]⟩
def pickM (c : Int) (ms : List Str) : Str := ms.getD ((if 7 < ms.length then (5 * c + c / 7) % ms.length else c % 7 % ms.length).toNat) E0
theorem pick_ok {c : Int} {ms : List Str} (h : 0 < ms.length) : f_l_pick c ms = M.pure (pickM c ms) := by
  have h1 := emod_in (5 * c + c / 7) h
  have h2 := emod_in (c % 7) h
  unfold f_l_pick pickM
  by_cases h7 : 7 < ms.length
  · have h8 : (ms.length : Int) > 7 := by omega
    simp only [NFL, h8, h7, decide_true, if_true, gMod_ok (show (0 : Int) < (ms.length : Int) by omega), gIx_getD E0 h1]
  · have h8 : ¬ (ms.length : Int) > 7 := by omega
    simp only [NFL, h8, h7, decide_false, Bool.false_eq_true, if_false, gMod_ok (show (0 : Int) < (ms.length : Int) by omega), gIx_getD E0 h2]
theorem pickM_ok (c : Int) {ms : List Str} (h : 0 < ms.length) (hm : MksOk ms) : isMkS (pickM c ms) = true := by
  have h1 := emod_in (5 * c + c / 7) h
  have h2 := emod_in (c % 7) h
  exact hm _ (getD_mem (by split <;> omega))
end PM
set_option maxHeartbeats 1000000
namespace PM
open PySem PySem.Spec PyProof.Rows L2
def n0 : Str × Nat := (E0, 0)
def Th.spots : Th → List Str
  | .row ms => ms
  | .forest ns => ns.map (·.1)
  | .table ls _ => ls.flatten
def Th.count (t : Th) (m : Str) : Nat := (t.spots.filter fun x => decide (x = m)).length
end PM
set_option maxHeartbeats 1000000
namespace PM
open PySem PySem.Spec PyProof.Rows L2
end PM
set_option maxHeartbeats 1000000
namespace PM
open PySem PySem.Spec PyProof.Rows L2
end PM
set_option maxHeartbeats 1000000
namespace PM
open PySem PySem.Spec PyProof.Rows L2
def Th.Rt : Th → Prop
  | .forest _ => False
  | _ => True
theorem TbOk.le12 {ls : List (List Str)} {w : Nat} (h : TbOk ls w) : ∀ l ∈ ls, l.length ≤ 12 := fun l hl => by
  have := (h.li l hl).1
  have := h.wd
  omega
def Fw (a w : Str) : Str := a ++ (" " : Str) ++ w
theorem foldF_app (x : Str) : ∀ (r : List Str) (y : Str), r.foldl Fw (x ++ y) = x ++ r.foldl Fw y
  | [], _ => rfl
  | b :: r, y => by
    rw [List.foldl_cons, List.foldl_cons, show Fw (x ++ y) b = x ++ Fw y b by simp only [Fw, Str.append_assoc], foldF_app x r]
theorem join_F : ∀ (ws : List Str) (a : Str), Txt.join (" " : Str) (a :: ws) = ws.foldl Fw a
  | [], a => by rw [TL.join_eq]; rfl
  | b :: r, a => by
    have ih := join_F r b
    rw [TL.join_eq] at ih ⊢
    rw [List.foldl_cons, show Fw a b = (a ++ (" " : Str)) ++ b from rfl, foldF_app, ← ih]
    rfl
theorem foldF_len {B : Nat} : ∀ (ws : List Str) (a : Str), (∀ w ∈ ws, w.length ≤ B) → (ws.foldl Fw a).length ≤ a.length + (B + 1) * ws.length
  | [], a, _ => by simp
  | b :: r, a, h => by
    have h1 := foldF_len r (Fw a b) fun w hw => h w (List.mem_cons_of_mem _ hw)
    have h2 := h b (by simp)
    have h3 : (Fw a b).length = a.length + 1 + b.length := by simp [Fw, lit_len]
    rw [List.foldl_cons, List.length_cons, Nat.mul_succ]
    omega
theorem join_len {B : Nat} {ws : List Str} (h : ∀ w ∈ ws, w.length ≤ B) : (Txt.join (" " : Str) ws).length ≤ (B + 1) * ws.length := by
  cases ws with
  | nil => rw [TL.join_eq]; simp [Str.join, Str.empty, Str.length]
  | cons a r =>
    rw [join_F]
    have h1 := foldF_len r a fun w hw => h w (List.mem_cons_of_mem _ hw)
    have h2 := h a (by simp)
    rw [List.length_cons, Nat.mul_succ]
    omega
theorem sum_le {B : Nat} : ∀ {ws : List Str}, (∀ w ∈ ws, w.length ≤ B) → (ws.map (·.length)).sum ≤ B * ws.length
  | [], _ => by simp
  | b :: r, h => by
    have h1 := sum_le (ws := r) fun w hw => h w (List.mem_cons_of_mem _ hw)
    have h2 := h b (by simp)
    rw [List.map_cons, List.sum_cons, List.length_cons, Nat.mul_succ]
    omega
theorem gJoin_ok {a : Str} {B : Nat} {ws : List Str} (h : ∀ w ∈ ws, w.length ≤ B) (hb : B * ws.length + ws.length * a.length ≤ 16777216) : gJoin a ws = some (Txt.join a ws) := by
  have := sum_le h
  unfold gJoin
  rw [if_pos (by omega)]
def lw (l : List Str) : List Str := if l = [] then [("-" : Str)] else l
def wl : List (List Str) → List Str
  | [] => []
  | [l] => lw l
  | l :: l2 :: r => lw l ++ ("/" : Str) :: wl (l2 :: r)
theorem wl_snoc : ∀ (ls : List (List Str)) (l : List Str), ls ≠ [] → wl (ls ++ [l]) = wl ls ++ ("/" : Str) :: lw l
  | [], _, h => absurd rfl h
  | [a], l, _ => rfl
  | a :: b :: r, l, _ => by
    have ih := wl_snoc (b :: r) l (by simp)
    simp only [List.cons_append] at ih
    simp only [List.cons_append, wl, ih, List.append_assoc, List.cons_append]
theorem lw_len (l : List Str) : (lw l).length ≤ l.length + 1 := by unfold lw; split <;> simp
theorem wl_len : ∀ {ls : List (List Str)}, (∀ l ∈ ls, l.length ≤ 12) → (wl ls).length ≤ 14 * ls.length
  | [], _ => by simp [wl]
  | [l], h => by have := lw_len l; have := h l (by simp); simp only [wl, List.length_cons, List.length_nil]; omega
  | l :: l2 :: r, h => by
    have ih := wl_len (ls := l2 :: r) fun x hx => h x (List.mem_cons_of_mem _ hx)
    have := lw_len l
    have := h l (by simp)
    simp only [wl, List.length_append, List.length_cons] at ih ⊢
    omega
def Wd (x : Str) : Prop := x.length ≤ 8 ∧ 32 ∉ Sl x
theorem wd_mk {x : Str} (h : isMkS x = true) : Wd x ∧ x ≠ ("/" : Str) ∧ x ≠ ("-" : Str) := by
  have hl := isMk_len h
  unfold isMkS at h
  simp only [Bool.and_eq_true, List.all_eq_true, decide_eq_true_eq] at h
  have h0 : (32 : Nat) ∉ lett := by decide +kernel
  have h1 : (47 : Nat) ∉ lett := by decide +kernel
  have h2 : (45 : Nat) ∉ lett := by decide +kernel
  refine ⟨⟨hl, fun hx => h0 (h.2 _ hx)⟩, ?_, ?_⟩
  · rintro rfl; exact h1 (h.2 47 (by decide +kernel))
  · rintro rfl; exact h2 (h.2 45 (by decide +kernel))
theorem wd_dash : Wd ("-" : Str) := ⟨by simp [lit_len], by decide +kernel⟩
theorem wd_slash : Wd ("/" : Str) := ⟨by simp [lit_len], by decide +kernel⟩
theorem wd_lw {l : List Str} (h : MksOk l) : ∀ w ∈ lw l, Wd w ∧ w ≠ ("/" : Str) := by
  unfold lw
  split
  · intro w hw
    simp only [List.mem_singleton] at hw
    subst hw
    exact ⟨wd_dash, by decide +kernel⟩
  · intro w hw
    exact ⟨(wd_mk (h w hw)).1, (wd_mk (h w hw)).2.1⟩
theorem wd_wl : ∀ {ls : List (List Str)}, (∀ l ∈ ls, MksOk l) → ∀ w ∈ wl ls, Wd w
  | [], _, w, hw => by simp [wl] at hw
  | [l], h, w, hw => (wd_lw (h l (by simp)) w hw).1
  | l :: l2 :: r, h, w, hw => by
    simp only [wl, List.mem_append, List.mem_cons] at hw
    rcases hw with hw | rfl | hw
    · exact (wd_lw (h l (by simp)) w hw).1
    · exact wd_slash
    · exact wd_wl (ls := l2 :: r) (fun x hx => h x (List.mem_cons_of_mem _ hx)) w hw
def Th.words : Th → List Str
  | .row ms => ("row" : Str) :: ms
  | .table ls _ => ("table" : Str) :: wl ls
  | _ => []
def Th.text (t : Th) : Str := Txt.join (" " : Str) t.words
theorem words_wd {t : Th} (r : t.Rt) (h : t.Ok) : t.words ≠ [] ∧ (∀ w ∈ t.words, Wd w) ∧ t.words.length ≤ 200 := by
  cases t with
  | forest ns => exact r.elim
  | row ms =>
    have h2 := h.2
    refine ⟨by simp [Th.words], fun w hw => ?_, by simp only [Th.words, List.length_cons]; omega⟩
    simp only [Th.words, List.mem_cons] at hw
    rcases hw with rfl | hw
    · exact ⟨by simp [lit_len], by decide +kernel⟩
    · exact (wd_mk (h.1 w hw)).1
  | table ls w =>
    have h2 := TbOk.len h
    have h3 := wl_len (TbOk.le12 h)
    refine ⟨by simp [Th.words], fun w hw => ?_, by simp only [Th.words, List.length_cons]; omega⟩
    simp only [Th.words, List.mem_cons] at hw
    rcases hw with rfl | hw
    · exact ⟨by simp [lit_len], by decide +kernel⟩
    · exact wd_wl (fun l hl => (TbOk.li h l hl).2) w hw
theorem split_text {t : Th} (r : t.Rt) (h : t.Ok) : splitD t.text (" " : Str) = some t.words := by
  obtain ⟨h1, h2, h3⟩ := words_wd r h
  have hl := join_len (B := 8) fun w hw => (h2 w hw).1
  unfold splitD
  rw [if_pos ⟨by decide +kernel, by unfold Th.text; omega⟩]
  exact congrArg some (TL.split_join (y := (" " : Str)) (s := 32) (S := []) (by decide +kernel) (by decide +kernel) h1 fun p hp => (h2 p hp).2)
def lineT (l : List Str) : Str := Txt.join (" " : Str) (lw l)
theorem foldF_line (x : Str) (l : List Str) : (lw l).foldl Fw x = x ++ (" " : Str) ++ lineT l := by
  have key : ∀ (a : Str) (r : List Str), (a :: r).foldl Fw x = x ++ (" " : Str) ++ Txt.join (" " : Str) (a :: r) := by
    intro a r
    rw [List.foldl_cons, show Fw x a = (x ++ (" " : Str)) ++ a from rfl, foldF_app, join_F]
  unfold lineT lw
  split
  · exact key _ []
  · cases l with
    | nil => contradiction
    | cons a r => exact key a r
theorem foldF_lines : ∀ (ls : List (List Str)) (x : Str), ls ≠ [] → (wl ls).foldl Fw x = x ++ (" " : Str) ++ Str.join (" / " : Str) (ls.map lineT)
  | [], _, h => absurd rfl h
  | [l], x, _ => foldF_line x l
  | l :: l2 :: r, x, _ => by
    have ih := foldF_lines (l2 :: r) (Fw ((lw l).foldl Fw x) ("/" : Str)) (by simp)
    simp only [wl, List.foldl_append, List.foldl_cons] at ih ⊢
    rw [ih, foldF_line]
    show Fw _ _ ++ _ ++ _ = x ++ (" " : Str) ++ (lineT l ++ (" / " : Str) ++ Str.join (" / " : Str) ((l2 :: r).map lineT))
    apply Sl_inj
    simp only [Fw, Sl_add]
    rw [show Sl (" / " : Str) = [32, 47, 32] by decide +kernel, show Sl (" " : Str) = [32] by decide +kernel, show Sl ("/" : Str) = [47] by decide +kernel]
    simp
theorem text_table (ls : List (List Str)) (w : Nat) : (Th.table ls w).text = (wl ls).foldl Fw ("table" : Str) := join_F (wl ls) _
theorem text_table' {ls : List (List Str)} (w : Nat) (h : ls ≠ []) : (Th.table ls w).text = ("table " : Str) ++ Txt.join (" / " : Str) (ls.map lineT) := by
  rw [text_table, foldF_lines ls _ h, TL.join_eq]
  apply Sl_inj
  simp only [Sl_add]
  rw [show Sl ("table " : Str) = Sl ("table" : Str) ++ Sl (" " : Str) by decide +kernel]
abbrev PS := List (List Str) × List Str
def rl (l : List Str) : List Str := if l = [("-" : Str)] then [] else l
def Pw (s : PS) (w : Str) : PS := if w = ("/" : Str) then (s.1 ++ [rl s.2], []) else (s.1, s.2 ++ [w])
def okRun : PS → List Str → Prop
  | _, [] => True
  | s, w :: r => (w = ("/" : Str) → s.2 ≠ []) ∧ okRun (Pw s w) r
theorem okRun_app : ∀ (a b : List Str) (s : PS), okRun s a → okRun (a.foldl Pw s) b → okRun s (a ++ b)
  | [], _, _, _, h => h
  | x :: a, b, s, h1, h2 => ⟨h1.1, okRun_app a b _ h1.2 h2⟩
theorem read_line_ok {l : List Str} (h : l ≠ []) : f_p_read_line l = M.pure (rl l) := by
  have h1 : ¬ ((l.length : Int) = 0) := by
    have := List.length_pos_iff.mpr h
    omega
  unfold f_p_read_line rl
  by_cases h2 : l = [("-" : Str)]
  · simp only [NFL, decide_eq_false h1, h2, decide_true, Bool.false_eq_true, if_false, if_true]
    subst h2
    rfl
  · simp only [NFL, decide_eq_false h1, decide_eq_false h2, Bool.false_eq_true, if_false, if_neg h2]
theorem run_len : ∀ (ws : List Str) (s : PS), (ws.foldl Pw s).1.length ≤ s.1.length + ws.length ∧ (ws.foldl Pw s).2.length ≤ s.2.length + ws.length
  | [], s => by simp
  | w :: r, s => by
    have h := run_len r (Pw s w)
    rw [List.foldl_cons, List.length_cons]
    unfold Pw at h ⊢
    split at h <;> rename_i hw
    · rw [if_pos hw]; simp only [List.length_append, List.length_cons, List.length_nil] at h; omega
    · rw [if_neg hw]; simp only [List.length_append, List.length_cons, List.length_nil] at h; omega
theorem run_ok {τ' : Type} : ∀ (ws : List Str) (s : PS), okRun s ws → s.1.length + s.2.length + ws.length ≤ 1000 → forO (τ' := τ') (fun x (s : PS) => f_b1_p_read_lines x s.1 s.2) ws s = (M.pure (.nx (ws.foldl Pw s)) : M (O PS τ' (List (List Str))))
  | [], _, _, _ => rfl
  | w :: r, s, h, hl => by
    rw [List.length_cons] at hl
    have e : f_b1_p_read_lines w s.1 s.2 = (M.pure (.nx (Pw s w)) : M (O PS PS (List (List Str)))) := by
      unfold f_b1_p_read_lines Pw
      by_cases hw : w = ("/" : Str)
      · simp only [NFL, decide_eq_true hw, if_true, read_line_ok (h.1 hw), if_pos hw]
        rw [gApp_ok (by omega)]
        simp only [NFL]
      · simp only [NFL, decide_eq_false hw, Bool.false_eq_true, if_false, if_neg hw]
        rw [gApp_ok (by omega)]
        simp only [NFL]
    have hl2 : (Pw s w).1.length + (Pw s w).2.length + r.length ≤ 1000 := by
      unfold Pw
      split <;> simp only [List.length_append, List.length_cons, List.length_nil] <;> omega
    unfold forO
    rw [e, M.pure_bind]
    exact run_ok r _ h.2 hl2
theorem run_words : ∀ (ws : List Str) (L : List (List Str)) (l : List Str), (∀ w ∈ ws, w ≠ ("/" : Str)) → okRun (L, l) ws ∧ ws.foldl Pw (L, l) = (L, l ++ ws)
  | [], L, l, _ => ⟨trivial, by simp⟩
  | w :: r, L, l, h => by
    have hw := h w (by simp)
    have e : Pw (L, l) w = (L, l ++ [w]) := by unfold Pw; rw [if_neg hw]
    have ih := run_words r L (l ++ [w]) fun x hx => h x (List.mem_cons_of_mem _ hx)
    rw [List.foldl_cons, e]
    exact ⟨⟨fun q => absurd q hw, by rw [e]; exact ih.1⟩, by rw [ih.2]; simp⟩
theorem rl_lw {l : List Str} (h : MksOk l) : rl (lw l) = l ∧ lw l ≠ [] := by
  unfold rl lw
  by_cases h0 : l = []
  · subst h0; simp
  · rw [if_neg h0]
    refine ⟨?_, h0⟩
    rw [if_neg]
    rintro rfl
    exact (wd_mk (h _ (by simp))).2.2 rfl
theorem run_lines : ∀ (r : List (List Str)) (l : List Str) (L : List (List Str)), (∀ x ∈ l :: r, MksOk x) → okRun (L, []) (wl (l :: r)) ∧ ((wl (l :: r)).foldl Pw (L, [])).2 ≠ [] ∧ ((wl (l :: r)).foldl Pw (L, [])).1 ++ [rl ((wl (l :: r)).foldl Pw (L, [])).2] = L ++ l :: r
  | [], l, L, h => by
    have hm := h l (by simp)
    have hr := run_words (lw l) L [] fun w hw => (wd_lw hm w hw).2
    have hl := rl_lw hm
    simp only [wl, hr.2, List.nil_append]
    exact ⟨hr.1, hl.2, by rw [hl.1]⟩
  | l2 :: r, l, L, h => by
    have hm := h l (by simp)
    have hr := run_words (lw l) L [] fun w hw => (wd_lw hm w hw).2
    have hl := rl_lw hm
    have ih := run_lines r l2 (L ++ [l]) fun x hx => h x (List.mem_cons_of_mem _ hx)
    have e : Pw (L, lw l) ("/" : Str) = (L ++ [l], []) := by unfold Pw; rw [if_pos rfl]; simp only [hl.1]
    have hr2 : (lw l).foldl Pw (L, []) = (L, lw l) := by rw [hr.2]; rfl
    simp only [wl, List.foldl_append, List.foldl_cons, hr2, e]
    refine ⟨okRun_app _ _ _ hr.1 ?_, ih.2.1, by rw [ih.2.2]; simp⟩
    rw [hr2]
    exact ⟨fun _ => hl.2, by rw [e]; exact ih.1⟩
theorem read_lines_ok {ls : List (List Str)} (h : ∀ l ∈ ls, MksOk l ∧ l.length ≤ 12) (hl : ls.length ≤ 12) : f_p_read_lines (wl ls) = M.pure ls := by
  have hwl := wl_len fun l hl => (h l hl).2
  unfold f_p_read_lines
  cases ls with
  | nil => rfl
  | cons l r =>
    obtain ⟨h1, h2, h3⟩ := run_lines r l [] fun x hx => (h x hx).1
    have hlen := run_len (wl (l :: r)) ([], [])
    have hpos : ¬ (wl (l :: r)) = [] := by
      intro q
      rw [q] at h2
      exact h2 rfl
    have hp : ((wl (l :: r)).length : Int) > 0 := by
      have := List.length_pos_iff.mpr hpos
      omega
    simp only [List.nil_append] at h3
    simp only [NFL, run_ok (wl (l :: r)) ([], []) h1 (by simp only [List.length_nil]; omega), decide_eq_true hp, if_true, read_line_ok h2]
    rw [gApp_ok (by simp only [List.length_nil] at hlen; omega), h3]
    simp only [NFL]
def Th.back : Th → Th
  | .table ls w => .table ls (if ls = [] then 0 else w)
  | t => t
theorem cut_tail (a : Str) (r : List Str) : cutD (a :: r) (some (1 : Int)) none = r := by
  unfold cutD
  rw [sIx_in (by simp only [List.length_cons]; omega)]
  simp [HT.sIx]
theorem read_ok {t : Th} (r : t.Rt) (h : t.Ok) : f_p_read_thing (.str (t.text)) = M.pure t.back.d := by
  unfold f_p_read_thing
  have eS : ∀ y : Str, D.isT "str" (.str y) = some true := fun _ => rfl
  simp only [NFL, eS, uS_told]
  have e0 : ∀ (a : Str) (x : List Str), gIx (a :: x) (0 : Int) = some a := fun a x => gIx_some (n := 0) rfl rfl
  simp only [NFL, Bool.not_true, Bool.false_eq_true, if_false, split_text r h]
  have key : f_p_thing_of t.words = M.pure t.back.d := by
    unfold f_p_thing_of
    cases t with
    | forest ns => exact r.elim
    | row ms =>
      simp only [NFL, Th.words, e0, decide_true, if_true, cut_tail, eL, Row_init_T h.1 h.2]
      rfl
    | table ls w =>
      have d1 : decide (("table" : Str) = ("row" : Str)) = false := by decide +kernel
      simp only [NFL, Th.words, e0, d1, Bool.false_eq_true, if_false, decide_true, if_true, cut_tail, read_lines_ok (fun l hl => ⟨(TbOk.li h l hl).2, TbOk.le12 h l hl⟩) (TbOk.len h), eL, Table_init_T h]
      rfl
  first | (simp only [NFL, key, tryOs_pure]; done) | (simp only [NFL, key, tryR_pure]; done)

end PM
set_option maxHeartbeats 1000000
namespace PM
open PySem PySem.Spec PyProof.Rows L2
def sepF (p d : Nat) : List Nat := if p < d then [40] else List.replicate (p - d) 41 ++ [44]
def nb : Nat → List (Str × Nat) → List Nat
  | _, [] => []
  | p, n :: r => sepF p n.2 ++ Sl n.1 ++ nb n.2 r
def ld : Nat → List (Str × Nat) → Nat
  | p, [] => p
  | _, n :: r => ld n.2 r
def pt : List (Str × Nat) → List Nat
  | [] => []
  | n :: r => Sl n.1 ++ nb n.2 r
def lastD : List (Str × Nat) → Nat
  | [] => 0
  | n :: r => ld n.2 r
def ft (ns : List (Str × Nat)) : Str := mkS (pt ns ++ List.replicate (lastD ns) 41)
theorem nb_snoc (n : Str × Nat) : ∀ (r : List (Str × Nat)) (p : Nat), nb p (r ++ [n]) = nb p r ++ (sepF (ld p r) n.2 ++ Sl n.1) ∧ ld p (r ++ [n]) = n.2
  | [], p => by simp [nb, ld]
  | x :: r, p => by
    have ih := nb_snoc n r x.2
    simp only [List.cons_append, nb, ld, ih.1, ih.2, List.append_assoc, and_self]
theorem pt_snoc (n : Str × Nat) {q : List (Str × Nat)} (h : q ≠ []) : pt (q ++ [n]) = pt q ++ (sepF (lastD q) n.2 ++ Sl n.1) := by
  cases q with
  | nil => exact absurd rfl h
  | cons x r => simp only [List.cons_append, pt, lastD, (nb_snoc n r x.2).1, List.append_assoc]
theorem lastD_snoc (n : Str × Nat) (q : List (Str × Nat)) : lastD (q ++ [n]) = n.2 := by
  cases q with
  | nil => rfl
  | cons x r => simp only [List.cons_append, lastD, (nb_snoc n r x.2).2]
theorem sepF_len {p d : Nat} (h : p ≤ 12) : (sepF p d).length ≤ 13 := by
  unfold sepF
  split <;> simp; omega
structure Tq (q : List (Str × Nat)) (s : Str) : Prop where
  e : Sl s = pt q
  d : lastD q ≤ 12
  l : (Sl s).length ≤ 22 * q.length
theorem Tq.nil : Tq [] ("" : Str) := ⟨by decide +kernel, Nat.zero_le _, by rw [show Sl ("" : Str) = [] by decide +kernel]; simp⟩
theorem Tq.one {n : Str × Nat} {s : Str} (hn : isMkS n.1 = true ∧ n.2 ≤ 12) (h : Sl s = Sl n.1) : Tq [n] s := ⟨by rw [h]; simp [pt, nb], hn.2, by rw [h, Sl_len]; have := isMk_len hn.1; simp; omega⟩
theorem Tq.snoc {n : Str × Nat} {q : List (Str × Nat)} {s s' : Str} (t : Tq q s) (hq : q ≠ []) (hn : isMkS n.1 = true ∧ n.2 ≤ 12) (h : Sl s' = Sl s ++ (sepF (lastD q) n.2 ++ Sl n.1)) : Tq (q ++ [n]) s' := by
  refine ⟨by rw [h, t.e, pt_snoc n hq], by rw [lastD_snoc]; exact hn.2, ?_⟩
  have h1 := t.l
  have h2 := sepF_len (d := n.2) t.d
  have h3 := isMk_len hn.1
  rw [h]
  simp only [List.length_append, Sl_len, List.length_cons, List.length_nil] at h1 ⊢
  omega
theorem s_open : Sl ("(" : Str) = [40] := by decide +kernel
theorem s_close : Sl (")" : Str) = [41] := by decide +kernel
theorem s_comma : Sl ("," : Str) = [44] := by decide +kernel
abbrev R4 := List (Str × Int) × Int × Str × Bool
abbrev F4 (τ' : Type) : List Nat → R4 → M (O R4 τ' (List (Str × Int))) := fun cs s => forO (τ' := τ') (fun x (s : R4) => f_b1_p_read_nodes x s.1 s.2.1 s.2.2.1 s.2.2.2) cs s
theorem forO_nx {α τ τ' β : Type} {f : α → τ → M (O τ τ β)} {x : α} {xs : List α} {s s' : τ} (h : f x s = M.pure (.nx s') ∨ f x s = M.pure (.ct s')) : forO (τ' := τ') f (x :: xs) s = forO f xs s' := by
  rcases h with h | h <;> (conv => lhs; unfold forO) <;> rw [h] <;> rfl
theorem mk_ne {l : List Nat} (h : l ≠ []) : decide (mkS l = ("" : Str)) = false := by
  refine decide_eq_false fun e => h ?_
  have := congrArg Sl e
  rw [Sl_mk, show Sl ("" : Str) = [] by decide +kernel] at this
  exact this
theorem mk_nil : ("" : Str) = mkS [] := Sl_inj (by rw [Sl_mk]; decide +kernel)
theorem st_let {c : Nat} (hc : c ∈ lett) (N : List (Str × Int)) (d : Int) {l : List Nat} (hl : l.length ≤ 1000) : f_b1_p_read_nodes c N d (mkS l) false = M.pure (.ct (N, d, mkS (l ++ [c]), false)) := by
  have d1 : decide (c ∈ Sl k_LETTERS) = true := decide_eq_true hc
  unfold f_b1_p_read_nodes
  simp only [NFL, d1, Bool.not_false, Bool.and_self, if_true]
  rw [gCatS_ok (by simp; omega)]
  simp only [NFL]
  rw [show mkS l ++ S1 c = mkS (l ++ [c]) from Sl_inj (by rw [Sl_add, Sl_mk, Sl_mk]; rfl)]
section
variable {N : List (Str × Int)} {l : List Nat}
theorem nl40 : decide ((40 : Nat) ∈ Sl k_LETTERS) = false := by decide +kernel
theorem nl41 : decide ((41 : Nat) ∈ Sl k_LETTERS) = false := by decide +kernel
theorem nl44 : decide ((44 : Nat) ∈ Sl k_LETTERS) = false := by decide +kernel
theorem br40 : decide ((40 : Nat) ∈ Sl ("(,)" : Str)) = true := by decide +kernel
theorem br41 : decide ((41 : Nat) ∈ Sl ("(,)" : Str)) = true := by decide +kernel
theorem br44 : decide ((44 : Nat) ∈ Sl ("(,)" : Str)) = true := by decide +kernel
theorem o40 : decide (S1 40 = ("(" : Str)) = true := by decide +kernel
theorem o41 : decide (S1 41 = ("(" : Str)) = false := by decide +kernel
theorem o44 : decide (S1 44 = ("(" : Str)) = false := by decide +kernel
theorem c40 : decide (S1 40 = (")" : Str)) = false := by decide +kernel
theorem c41 : decide (S1 41 = (")" : Str)) = true := by decide +kernel
theorem c44 : decide (S1 44 = (")" : Str)) = false := by decide +kernel
theorem st_open (hl : l ≠ []) (hN : N.length ≤ 1000) (d : Nat) : f_b1_p_read_nodes 40 N (d : Int) (mkS l) false = M.pure (.nx (N ++ [(mkS l, (d : Int))], ((d + 1 : Nat) : Int), ("" : Str), false)) := by
  have d5 : decide ((d : Int) + 1 < 0) = false := decide_eq_false (by omega)
  unfold f_b1_p_read_nodes
  simp only [NFL, nl40, br40, o40, c40, mk_ne hl, d5, Bool.false_and, Bool.not_false, Bool.not_true, Bool.false_eq_true, if_false, if_true]
  rw [gApp_ok (by omega)]
  simp only [NFL, d5, Bool.false_eq_true, if_false]
  push_cast
  rfl
theorem st_close (hl : l ≠ []) (hN : N.length ≤ 1000) (d : Nat) : f_b1_p_read_nodes 41 N ((d + 1 : Nat) : Int) (mkS l) false = M.pure (.nx (N ++ [(mkS l, ((d + 1 : Nat) : Int))], (d : Int), ("" : Str), true)) := by
  have e : ((d + 1 : Nat) : Int) - 1 = (d : Int) := by omega
  have d5 : decide ((d : Int) < 0) = false := decide_eq_false (by omega)
  unfold f_b1_p_read_nodes
  simp only [NFL, nl41, br41, o41, c41, mk_ne hl, Bool.false_and, Bool.not_false, Bool.not_true, Bool.false_eq_true, if_false, if_true]
  rw [gApp_ok (by omega)]
  simp only [NFL, e, d5, Bool.false_eq_true, if_false]
theorem st_close2 (d : Nat) : f_b1_p_read_nodes 41 N ((d + 1 : Nat) : Int) ("" : Str) true = M.pure (.nx (N, (d : Int), ("" : Str), true)) := by
  have e : ((d + 1 : Nat) : Int) - 1 = (d : Int) := by omega
  have d5 : decide ((d : Int) < 0) = false := decide_eq_false (by omega)
  unfold f_b1_p_read_nodes
  simp only [NFL, nl41, br41, o41, c41, decide_true, Bool.false_and, Bool.not_false, Bool.not_true, Bool.or_self, Bool.false_or, Bool.false_eq_true, if_false, if_true, e, d5]
theorem st_comma (hl : l ≠ []) (hN : N.length ≤ 1000) (d : Nat) : f_b1_p_read_nodes 44 N (d : Int) (mkS l) false = M.pure (.nx (N ++ [(mkS l, (d : Int))], (d : Int), ("" : Str), false)) := by
  have d5 : decide ((d : Int) < 0) = false := decide_eq_false (by omega)
  unfold f_b1_p_read_nodes
  simp only [NFL, nl44, br44, o44, c44, mk_ne hl, Bool.false_and, Bool.not_false, Bool.not_true, Bool.false_eq_true, if_false, if_true]
  rw [gApp_ok (by omega)]
  simp only [NFL, d5, Bool.false_eq_true, if_false]
theorem st_comma2 (d : Nat) : f_b1_p_read_nodes 44 N (d : Int) ("" : Str) true = M.pure (.nx (N, (d : Int), ("" : Str), false)) := by
  have d5 : decide ((d : Int) < 0) = false := decide_eq_false (by omega)
  unfold f_b1_p_read_nodes
  simp only [NFL, nl44, br44, o44, c44, decide_true, Bool.false_and, Bool.not_false, Bool.not_true, Bool.or_self, Bool.false_or, Bool.false_eq_true, if_false, if_true, d5]
end
section
variable {τ' : Type}
theorem run_let : ∀ (cs rest : List Nat) (N : List (Str × Int)) (d : Int) (l : List Nat), (∀ c ∈ cs, c ∈ lett) → l.length + cs.length ≤ 1000 → F4 τ' (cs ++ rest) (N, d, mkS l, false) = F4 τ' rest (N, d, mkS (l ++ cs), false)
  | [], rest, N, d, l, _, _ => by simp
  | c :: cs, rest, N, d, l, h, hl => by
    rw [List.length_cons] at hl
    have ih := run_let cs rest N d (l ++ [c]) (fun x hx => h x (List.mem_cons_of_mem _ hx)) (by simp; omega)
    rw [List.append_assoc] at ih
    rw [List.cons_append]
    exact (forO_nx (.inr (st_let (h c (by simp)) N d (by omega)))).trans ih
theorem run_close (rest : List Nat) (N : List (Str × Int)) (d : Nat) : ∀ (k : Nat), F4 τ' (List.replicate k 41 ++ 44 :: rest) (N, ((d + k : Nat) : Int), ("" : Str), true) = F4 τ' rest (N, (d : Int), ("" : Str), false)
  | 0 => forO_nx (.inl (st_comma2 d))
  | k + 1 => by
    rw [List.replicate_succ, List.cons_append]
    exact (forO_nx (.inl (st_close2 (d + k)))).trans (run_close rest N d k)
theorem run_sep {l : List Nat} (hl : l ≠ []) {N : List (Str × Int)} (hN : N.length ≤ 1000) (rest : List Nat) {p d : Nat} (h : d ≤ p + 1) : F4 τ' (sepF p d ++ rest) (N, (p : Int), mkS l, false) = F4 τ' rest (N ++ [(mkS l, (p : Int))], (d : Int), ("" : Str), false) := by
  unfold sepF
  by_cases h1 : p < d
  · have : d = p + 1 := by omega
    subst this
    rw [if_pos h1]
    exact forO_nx (.inl (st_open hl hN p))
  · rw [if_neg h1]
    by_cases h2 : p = d
    · subst h2
      rw [Nat.sub_self]
      exact forO_nx (.inl (st_comma hl hN p))
    · obtain ⟨k, hk⟩ : ∃ k, p = d + k + 1 := ⟨p - d - 1, by omega⟩
      subst hk
      rw [show d + k + 1 - d = k + 1 by omega, List.replicate_succ, List.append_assoc, List.cons_append]
      exact (forO_nx (.inl (st_close hl hN (d + k)))).trans (run_close rest _ d k)
theorem mk_letters {x : Str} (h : isMkS x = true) : Sl x ≠ [] ∧ ∀ c ∈ Sl x, c ∈ lett := by
  unfold isMkS at h
  simp only [Bool.and_eq_true, List.all_eq_true, decide_eq_true_eq] at h
  refine ⟨fun e => h.1.1 (Sl_inj (by rw [e]; decide +kernel)), h.2⟩
theorem run_nb : ∀ (r : List (Str × Nat)) (p b : Nat) (x : Str) (N : List (Str × Int)), isMkS x = true → b ≤ p + 1 → b ≤ 12 → NdOk b r → N.length + r.length ≤ 900 → F4 τ' (nb p r ++ (List.replicate (ld p r) 41 ++ [44])) (N, (p : Int), x, false) = M.pure (.nx (N ++ (x, (p : Int)) :: r.map iNd, (0 : Int), ("" : Str), false))
  | [], p, b, x, N, hx, hb, hb2, h, hN => by
    have e : List.replicate p 41 ++ [44] = sepF p 0 ++ [] := by simp [sepF]
    have := run_sep (τ' := τ') (l := Sl x) (mk_letters hx).1 (N := N) (by simp only [List.length_nil] at hN; omega) [] (p := p) (d := 0) (by omega)
    simp only [nb, ld, List.nil_append, e]
    rw [mk_Sl] at this
    rw [this]
    rfl
  | n :: r, p, b, x, N, hx, hb, hb2, h, hN => by
    obtain ⟨h1, h2, h3⟩ := h
    rw [List.length_cons] at hN
    have hm := mk_letters h1
    have hs := run_sep (τ' := τ') (l := Sl x) (mk_letters hx).1 (N := N) (by omega) (Sl n.1 ++ (nb n.2 r ++ (List.replicate (ld n.2 r) 41 ++ [44]))) (p := p) (d := n.2) (by omega)
    have hle := run_let (τ' := τ') (Sl n.1) (nb n.2 r ++ (List.replicate (ld n.2 r) 41 ++ [44])) (N ++ [(mkS (Sl x), (p : Int))]) (n.2 : Int) [] hm.2 (by rw [Sl_len]; have := isMk_len h1; simp only [List.length_nil]; omega)
    have ih := run_nb r n.2 (min (n.2 + 1) 12) n.1 (N ++ [(x, (p : Int))]) h1 (by omega) (by omega) h3 (by simp; omega)
    simp only [nb, ld, List.append_assoc]
    rw [mk_Sl] at hs hle
    rw [hs, mk_nil, hle, List.nil_append, mk_Sl, ih]
    simp only [List.append_assoc, List.cons_append, List.nil_append, List.map_cons, iNd, ← mk_nil]
end
theorem nb_len : ∀ (r : List (Str × Nat)) (p b : Nat), p ≤ 12 → b ≤ 12 → NdOk b r → (nb p r).length ≤ 21 * r.length ∧ ld p r ≤ 12
  | [], p, b, hp, _, _ => ⟨by simp [nb], hp⟩
  | n :: r, p, b, hp, hb, h => by
    obtain ⟨h1, h2, h3⟩ := h
    have ih := nb_len r n.2 _ (by omega) (by omega) h3
    have a1 := sepF_len (d := n.2) hp
    have a2 := isMk_len h1
    simp only [nb, ld, List.length_append, List.length_cons, Sl_len]
    exact ⟨by omega, ih.2⟩
theorem ft_len {ns : List (Str × Nat)} (h : NdOk 0 ns) (hl : ns.length ≤ 40) : (ft ns).length ≤ 1000 := by
  unfold ft
  rw [mk_len, List.length_append, List.length_replicate]
  cases ns with
  | nil => simp [pt, lastD]
  | cons n r =>
    obtain ⟨h1, h2, h3⟩ := h
    have a := nb_len r n.2 _ (by omega) (by omega) h3
    have b := isMk_len h1
    simp only [pt, lastD, List.length_append, Sl_len, List.length_cons] at hl ⊢
    omega
theorem read_nodes_ok {ns : List (Str × Nat)} (h : NdOk 0 ns) (hne : ns ≠ []) (hl : ns.length ≤ 40) : f_p_read_nodes (ft ns) = M.pure (ns.map iNd) := by
  have hfl := ft_len h hl
  have l2 : ("," : Str).length = 1 := by simp [lit_len]
  cases ns with
  | nil => exact absurd rfl hne
  | cons n r =>
    obtain ⟨h1, h2, h3⟩ := h
    rw [List.length_cons] at hl
    have hz : n.2 = 0 := by omega
    have hm := mk_letters h1
    unfold f_p_read_nodes
    rw [gCatS_ok (by omega)]
    have e : Sl (ft (n :: r) ++ ("," : Str)) = Sl n.1 ++ (nb n.2 r ++ (List.replicate (ld n.2 r) 41 ++ [44])) := by
      rw [Sl_add, s_comma, ft, Sl_mk, pt, lastD]
      simp only [List.append_assoc]
    have hle := run_let (τ' := Unit) (Sl n.1) (nb n.2 r ++ (List.replicate (ld n.2 r) 41 ++ [44])) [] (0 : Int) [] hm.2 (by rw [Sl_len]; have := isMk_len h1; simp only [List.length_nil]; omega)
    have ih := run_nb (τ' := Unit) r n.2 (min (n.2 + 1) 12) n.1 [] h1 (by omega) (by omega) h3 (by simp only [List.length_nil]; omega)
    have key : F4 Unit (Sl n.1 ++ (nb n.2 r ++ (List.replicate (ld n.2 r) 41 ++ [44]))) ([], (0 : Int), ("" : Str), false) = M.pure (.nx ((n :: r).map iNd, (0 : Int), ("" : Str), false)) := by
      rw [mk_nil, hle, List.nil_append, mk_Sl, ← mk_nil]
      have e0 : ((n.2 : Nat) : Int) = 0 := by omega
      rw [e0] at ih
      rw [ih]
      simp only [List.nil_append, List.map_cons, iNd, hz]
      rfl
    unfold F4 at key
    simp only [NFL, e, key, decide_true, Bool.not_true, Bool.false_eq_true, if_false]
theorem nb_sp : ∀ (r : List (Str × Nat)) (p b : Nat), NdOk b r → 32 ∉ nb p r
  | [], _, _, _ => by simp [nb]
  | n :: r, p, b, h => by
    obtain ⟨h1, h2, h3⟩ := h
    have ih := nb_sp r n.2 _ h3
    have hw := (wd_mk h1).1.2
    have hs : 32 ∉ sepF p n.2 := by
      unfold sepF
      split
      · simp
      · simp
    simp only [nb, List.mem_append, not_or]
    exact ⟨⟨hs, hw⟩, ih⟩
theorem ft_sp {ns : List (Str × Nat)} (h : NdOk 0 ns) : 32 ∉ Sl (ft ns) := by
  rw [ft, Sl_mk]
  cases ns with
  | nil => simp [pt, lastD]
  | cons n r =>
    obtain ⟨h1, h2, h3⟩ := h
    simp only [pt, List.mem_append, not_or, List.mem_replicate]
    exact ⟨⟨(wd_mk h1).1.2, nb_sp r _ _ h3⟩, by omega⟩
def ftext (ns : List (Str × Nat)) : Str := if ns = [] then ("forest" : Str) else ("forest " : Str) ++ ft ns
def fwords (ns : List (Str × Nat)) : List Str := if ns = [] then [("forest" : Str)] else [("forest" : Str), ft ns]
theorem ftext_join (ns : List (Str × Nat)) : ftext ns = Txt.join (" " : Str) (fwords ns) := by
  unfold ftext fwords
  split
  · rw [TL.join_eq]; rfl
  · rw [TL.join_eq]
    apply Sl_inj
    show Sl (_ ++ _) = Sl (_ ++ _ ++ _)
    simp only [Sl_add]
    rw [show Sl ("forest " : Str) = Sl ("forest" : Str) ++ Sl (" " : Str) by decide +kernel]
    show _ = _ ++ _ ++ Sl (Str.join _ _)
    rfl
theorem read_forest {ns : List (Str × Nat)} (h : (Th.forest ns).Ok) : f_p_read_thing (.str (ftext ns)) = M.pure (dForest ns) := by
  have h2 := h.2
  have hfl := ft_len h.1 h2
  have hsp : splitD (ftext ns) (" " : Str) = some (fwords ns) := by
    have hl : (ftext ns).length ≤ 1100 := by unfold ftext; split <;> simp [lit_len]; omega
    unfold splitD
    rw [if_pos ⟨by decide +kernel, by omega⟩, ftext_join]
    refine congrArg some (TL.split_join (y := (" " : Str)) (s := 32) (S := []) (by decide +kernel) (by decide +kernel) (by unfold fwords; split <;> simp) fun p hp => ?_)
    unfold fwords at hp
    split at hp
    · simp only [List.mem_singleton] at hp
      subst hp
      decide +kernel
    · simp only [List.mem_cons, List.not_mem_nil, or_false] at hp
      rcases hp with rfl | rfl
      · decide +kernel
      · exact ft_sp h.1
  have e0 : ∀ (a : Str) (x : List Str), gIx (a :: x) (0 : Int) = some a := fun a x => gIx_some (n := 0) rfl rfl
  have e1 : ∀ (a b : Str), gIx [a, b] (1 : Int) = some b := fun a b => gIx_some (n := 1) rfl rfl
  have d1 : decide (("forest" : Str) = ("row" : Str)) = false := by decide +kernel
  have d2 : decide (("forest" : Str) = ("table" : Str)) = false := by decide +kernel
  have key : f_p_thing_of (fwords ns) = M.pure (dForest ns) := by
    unfold f_p_thing_of fwords
    by_cases h0 : ns = []
    · subst h0
      have e2 : f_p_Forest_init 11 (eL iN []) = M.pure (dForest []) := Forest_init_T (ns := []) trivial (by simp)
      simp only [NFL, if_true, e0, d1, d2, decide_true, Bool.not_true, Bool.false_eq_true, if_false, List.length_cons, List.length_nil, Bool.false_or, show decide (((0 + 1 : Nat) : Int) > 2) = false by decide, show decide (((0 + 1 : Nat) : Int) = 1) = true by decide, e2]
    · simp only [NFL, if_neg h0, e0, e1, d1, d2, decide_true, Bool.not_true, Bool.false_eq_true, if_false, List.length_cons, List.length_nil, Bool.false_or, show decide (((0 + 1 + 1 : Nat) : Int) > 2) = false by decide, show decide (((0 + 1 + 1 : Nat) : Int) = 1) = false by decide, read_nodes_ok h.1 h0 h2]
      rw [show eL (eP2 D.str D.int) (ns.map iNd) = .lst (ns.map dNode) by rw [eL, nodes_enc]]
      simp only [NFL, Forest_init_T h.1 h2]
  unfold f_p_read_thing
  have eS : ∀ y : Str, D.isT "str" (.str y) = some true := fun _ => rfl
  simp only [NFL, eS, uS_told]
  first | (simp only [NFL, Bool.not_true, Bool.false_eq_true, if_false, hsp, key, tryOs_pure]; done) | (simp only [NFL, Bool.not_true, Bool.false_eq_true, if_false, hsp, key, tryR_pure]; done)

end PM
set_option maxHeartbeats 1000000
namespace PM
open PySem PySem.Spec PyProof.Rows L2
def Ng {α : Type} (m : M α) : Prop := m = M.exc 7 ∨ m = M.exc 1
theorem Ng.bind {α β : Type} {m : M α} {k : α → M β} (h : Ng m) : Ng (M.bind m k) := by
  rcases h with h | h <;> rw [h, M.exc_bind]
  · exact .inl rfl
  · exact .inr rfl
theorem Ng.runO {β : Type} {d : Option β} {m : M (O Unit Unit β)} (h : Ng m) : Ng (PM.runO d m) := by
  rcases h with h | h <;> rw [h, runO_exc]
  · exact .inl rfl
  · exact .inr rfl
theorem read_no {d : D} (h : D.isT "str" d = some false) : f_p_read_thing d = M.exc 7 := by
  unfold f_p_read_thing
  simp only [NFL, h, Bool.not_false, if_true]
theorem read_ng {x : Str} {ws : List Str} (hs : splitD x (" " : Str) = some ws) (h : Ng (f_p_thing_of ws)) : f_p_read_thing (.str x) = M.exc 7 := by
  have e1 : D.isT "str" (.str x) = some true := rfl
  unfold f_p_read_thing
  rcases h with h | h
  · simp only [NFL, e1, Bool.not_true, Bool.false_eq_true, if_false, uS_told, hs, h, tryR_pass hit_NoThing 7 _ hit_NoThing_NoText]
  · simp only [NFL, e1, Bool.not_true, Bool.false_eq_true, if_false, uS_told, hs, h, tryR_exc hit_NoThing 1 _ hit_NoThing_NoThing]
def Jw : List (List Nat) → List Nat
  | [] => []
  | [a] => a
  | a :: b :: r => a ++ 32 :: Jw (b :: r)
theorem Jw_cons (a : List Nat) {r : List (List Nat)} (h : r ≠ []) : Jw (a :: r) = a ++ 32 :: Jw r := by
  cases r with
  | nil => exact absurd rfl h
  | cons b r => rw [Jw]
theorem Jw_app : ∀ (X : List (List Nat)) {Y : List (List Nat)}, X ≠ [] → Y ≠ [] → Jw (X ++ Y) = Jw X ++ 32 :: Jw Y
  | [], _, h, _ => absurd rfl h
  | [a], Y, _, h => by rw [List.singleton_append, Jw_cons a h, Jw]
  | a :: b :: r, Y, _, h => by
    rw [List.cons_append, Jw_cons a (by simp), Jw_app (b :: r) (by simp) h, Jw_cons a (by simp), List.append_assoc, List.cons_append]
theorem Jw_ins (u o v : List Nat) (S : List (List Nat)) : ∀ P : List (List Nat), Jw (P ++ [u]) ++ o ++ Jw (v :: S) = Jw (P ++ (u ++ o ++ v) :: S)
  | [] => by
    cases S with
    | nil => simp [Jw]
    | cons s S => simp [Jw]
  | p :: P => by
    rw [List.cons_append, List.cons_append, Jw_cons p (by simp), Jw_cons p (by simp), ← Jw_ins u o v S P]
    simp
theorem Jw_cut : ∀ (ws : List (List Nat)) {A B : List Nat}, ws ≠ [] → Jw ws = A ++ B → ∃ P u v S, ws = P ++ (u ++ v) :: S ∧ A = Jw (P ++ [u]) ∧ B = Jw (v :: S)
  | [], _, _, h, _ => absurd rfl h
  | [a], A, B, _, h => ⟨[], A, B, [], by rw [Jw] at h; rw [h]; rfl, by simp [Jw], by simp [Jw]⟩
  | a :: b :: r, A, B, _, h => by
    rw [Jw] at h
    rcases List.append_eq_append_iff.mp h with ⟨m, h1, h2⟩ | ⟨m, h1, h2⟩
    · cases m with
      | nil =>
        rw [List.append_nil] at h1
        rw [List.nil_append] at h2
        subst h1
        exact ⟨[], A, [], b :: r, by simp, by simp [Jw], by rw [← h2, Jw_cons [] (by simp)]; rfl⟩
      | cons y m =>
        rw [List.cons_append] at h2
        obtain ⟨rfl, h3⟩ := List.cons.inj h2
        obtain ⟨P, u, v, S, e1, e2, e3⟩ := Jw_cut (b :: r) (by simp) h3
        exact ⟨a :: P, u, v, S, by rw [e1]; rfl, by rw [h1, e2, List.cons_append, Jw_cons a (by simp)], e3⟩
    · refine ⟨[], A, m, b :: r, by simp [h1], by simp [Jw], ?_⟩
      rw [h2, Jw_cons m (by simp)]
theorem Sl_join : ∀ (r : List Str) (a : Str), Sl (Txt.join (" " : Str) (a :: r)) = Jw (Sl a :: r.map Sl)
  | [], a => by rw [join_F]; rfl
  | b :: r, a => by
    rw [join_F, List.foldl_cons, show Fw a b = (a ++ (" " : Str)) ++ b from rfl, foldF_app, ← join_F, Sl_add, Sl_add, Sl_join r b, List.map_cons, Jw_cons (Sl a) (by simp), show Sl (" " : Str) = [32] by decide +kernel]
    simp
theorem split_ws {x : Str} {ws : List Str} (hx : Sl x = Jw (ws.map Sl)) (hne : ws ≠ []) (hf : ∀ w ∈ ws, 32 ∉ Sl w) (hl : x.length ≤ 900000) : splitD x (" " : Str) = some ws := by
  have e : x = Txt.join (" " : Str) ws := by
    cases ws with
    | nil => exact absurd rfl hne
    | cons a r => exact Sl_inj (hx.trans (Sl_join r a).symm)
  unfold splitD
  rw [if_pos ⟨by decide +kernel, by omega⟩]
  conv => lhs; rw [e]
  exact congrArg some (TL.split_join (y := (" " : Str)) (s := 32) (S := []) (by decide +kernel) (by decide +kernel) hne hf)
theorem g0w (a : Str) (r : List Str) : gIx (a :: r) (0 : Int) = some a := gIx_some (n := 0) rfl rfl
theorem wd_tr : decide (("table" : Str) = ("row" : Str)) = false := by decide +kernel
theorem wd_fr : decide (("forest" : Str) = ("row" : Str)) = false := by decide +kernel
theorem wd_ft : decide (("forest" : Str) = ("table" : Str)) = false := by decide +kernel
theorem ng_word {w : Str} {r : List Str} (h1 : w ≠ "row") (h2 : w ≠ "table") (h3 : w ≠ "forest") : Ng (f_p_thing_of (w :: r)) := by
  unfold f_p_thing_of
  simp only [NFL, g0w, decide_eq_false h1, decide_eq_false h2, decide_eq_false h3, Bool.not_false, Bool.true_or, Bool.false_eq_true, if_false, if_true]
  exact .inl rfl
theorem mk_some {r : List Str} (hl : ∀ w ∈ r, w.length ≤ 1000000) (most : Int) : f_p_are_marks (.lst (r.map .str)) most = M.pure (decide ((r.length : Int) ≤ most) && r.all isMkS) := by
  rw [are_marks_ok fun d hd => by
    obtain ⟨w, hw, rfl⟩ := List.mem_map.mp hd
    exact okD_str (hl w hw), List.length_map, List.all_map]
  rfl
theorem ng_row {r : List Str} (hl : ∀ w ∈ r, w.length ≤ 1000000) (h : 40 < r.length ∨ ∃ w ∈ r, isMkS w = false) : Ng (f_p_thing_of (("row" : Str) :: r)) := by
  have hb : (decide ((r.length : Int) ≤ k_MOST_PLACES) && r.all isMkS) = false := by
    rcases h with h | ⟨w, hw, h⟩
    · rw [decide_eq_false (show ¬ ((r.length : Int) ≤ 40) by omega), Bool.false_and]
    · have : r.all isMkS = false := by
        rw [List.all_eq_false]
        exact ⟨w, hw, by rw [h]; simp⟩
      rw [this, Bool.and_false]
  unfold f_p_thing_of
  simp only [NFL, g0w, decide_true, if_true, cut_tail]
  have e : f_p_Row_init 10 (eL D.str r) = M.exc 1 := by
    unfold f_p_Row_init eL
    rw [mk_some hl, hb]
    rfl
  rw [e]
  exact .inr rfl
theorem ng_forest2 {a b : Str} {r : List Str} : Ng (f_p_thing_of (("forest" : Str) :: a :: b :: r)) := by
  have e : decide ((((("forest" : Str) :: a :: b :: r).length : Nat) : Int) > 2) = true := decide_eq_true (by simp only [List.length_cons]; omega)
  unfold f_p_thing_of
  simp only [NFL, g0w, wd_fr, wd_ft, e, decide_true, Bool.not_true, Bool.or_true, Bool.false_eq_true, if_false, if_true]
  exact .inl rfl
theorem ng_forest {b : Str} (h : Ng (M.bind (f_p_read_nodes b) fun N => f_p_Forest_init 11 (eL (eP2 D.str D.int) N))) : Ng (f_p_thing_of [("forest" : Str), b]) := by
  have e : decide ((([("forest" : Str), b].length : Nat) : Int) > 2) = false := decide_eq_false (by simp)
  have e2 : decide ((([("forest" : Str), b].length : Nat) : Int) = 1) = false := decide_eq_false (by simp)
  have e3 : gIx [("forest" : Str), b] (1 : Int) = some b := gIx_some (n := 1) rfl rfl
  unfold f_p_thing_of
  simp only [NFL, g0w, wd_fr, wd_ft, e, e2, e3, decide_true, Bool.not_true, Bool.or_self, Bool.false_eq_true, if_false, if_true]
  have := h.bind (k := fun t17 => (M.pure t17 : M D))
  simp only [NFL] at this
  exact this
theorem ng_table {r : List Str} (h : Ng (M.bind (f_p_read_lines r) fun L => f_p_Table_init 12 (eL (eL D.str) L))) : Ng (f_p_thing_of (("table" : Str) :: r)) := by
  unfold f_p_thing_of
  simp only [NFL, g0w, wd_tr, decide_true, Bool.false_eq_true, if_false, if_true, cut_tail]
  have := h.bind (k := fun t17 => (M.pure t17 : M D))
  simp only [NFL] at this
  exact this
theorem refused_ok {d : D} (h : f_p_read_thing d = M.exc 7) : f_l_refused d = M.pure true := by
  unfold f_l_refused
  simp only [NFL, h, tryO_exc hit_ShrinkError 7 _ hit_ShrinkError_NoText]
  rfl

end PM
set_option maxHeartbeats 1000000
namespace PM
open PySem PySem.Spec PyProof.Rows L2
theorem nl40' : (40 : Nat) ∉ lett := by decide +kernel
theorem nl41' : (41 : Nat) ∉ lett := by decide +kernel
theorem nl44' : (44 : Nat) ∉ lett := by decide +kernel
abbrev Rst := List (Str × Int) × Int × List Nat × Bool
def toR (s : Rst) : R4 := (s.1, s.2.1, mkS s.2.2.1, s.2.2.2)
def dlt (c : Nat) : Int := if c = 40 then 1 else if c = 41 then -1 else 0
def stp (c : Nat) (s : Rst) : Option Rst :=
  if c ∈ lett ∧ s.2.2.2 = false then some (s.1, s.2.1, s.2.2.1 ++ [c], s.2.2.2)
  else if ¬ (c = 40 ∨ c = 44 ∨ c = 41) then none
  else if s.2.2.1 = [] ∧ (s.2.2.2 = false ∨ c = 40) then none
  else if s.2.1 + dlt c < 0 then none
  else some (if s.2.2.1 = [] then s.1 else s.1 ++ [(mkS s.2.2.1, s.2.1)], s.2.1 + dlt c, [], decide (c = 41))
theorem stp_inv {c : Nat} {s s1 : Rst} (h : stp c s = some s1) : (c ∈ lett ∧ s.2.2.2 = false ∧ s1 = (s.1, s.2.1, s.2.2.1 ++ [c], s.2.2.2)) ∨
    ((c = 40 ∨ c = 44 ∨ c = 41) ∧ ¬ (s.2.2.1 = [] ∧ (s.2.2.2 = false ∨ c = 40)) ∧ 0 ≤ s.2.1 + dlt c ∧ s1 = (if s.2.2.1 = [] then s.1 else s.1 ++ [(mkS s.2.2.1, s.2.1)], s.2.1 + dlt c, [], decide (c = 41))) := by
  unfold stp at h
  by_cases h1 : c ∈ lett ∧ s.2.2.2 = false
  · rw [if_pos h1] at h
    exact .inl ⟨h1.1, h1.2, (Option.some.inj h).symm⟩
  rw [if_neg h1] at h
  by_cases h2 : c = 40 ∨ c = 44 ∨ c = 41
  · rw [if_neg (not_not_intro h2)] at h
    by_cases h3 : s.2.2.1 = [] ∧ (s.2.2.2 = false ∨ c = 40)
    · rw [if_pos h3] at h; cases h
    rw [if_neg h3] at h
    by_cases h4 : s.2.1 + dlt c < 0
    · rw [if_pos h4] at h; cases h
    rw [if_neg h4] at h
    exact .inr ⟨h2, h3, by omega, (Option.some.inj h).symm⟩
  · rw [if_pos h2] at h; cases h
def rn : List Nat → Rst → Option Rst
  | [], s => some s
  | c :: cs, s => (stp c s).bind (rn cs)
theorem br_iff (c : Nat) : decide (c ∈ Sl ("(,)" : Str)) = decide (c = 40 ∨ c = 44 ∨ c = 41) := by
  rw [show Sl ("(,)" : Str) = [40, 44, 41] by decide +kernel]
  simp
theorem S1_inj {c k : Nat} {x : Str} (hx : Sl x = [k]) : decide (S1 c = x) = decide (c = k) := by
  by_cases h : c = k
  · subst h
    rw [decide_eq_true (show S1 c = x from Sl_inj hx.symm), decide_eq_true rfl]
  · rw [decide_eq_false (fun e => h ?_), decide_eq_false h]
    have := congrArg Sl e
    rw [hx] at this
    exact (List.cons.inj this).1
theorem mk_emp (l : List Nat) : decide (mkS l = ("" : Str)) = decide (l = []) := by
  by_cases h : l = []
  · subst h; rw [← mk_nil]; rfl
  · rw [mk_ne h, decide_eq_false h]
theorem stp_ok (c : Nat) (s : Rst) (hN : s.1.length ≤ 1000) (hl : s.2.2.1.length ≤ 1000) : (stp c s = none ∧ f_b1_p_read_nodes c s.1 s.2.1 (mkS s.2.2.1) s.2.2.2 = M.exc 7) ∨
    ∃ s', stp c s = some s' ∧ (f_b1_p_read_nodes c s.1 s.2.1 (mkS s.2.2.1) s.2.2.2 = M.pure (.nx (toR s')) ∨ f_b1_p_read_nodes c s.1 s.2.1 (mkS s.2.2.1) s.2.2.2 = M.pure (.ct (toR s'))) := by
  obtain ⟨N, d, l, cl⟩ := s
  simp only at hN hl ⊢
  unfold f_b1_p_read_nodes stp
  simp only
  have hL : decide (c ∈ Sl k_LETTERS) = decide (c ∈ lett) := rfl
  have e41 : d + -1 = d - 1 := by omega
  by_cases h1 : c ∈ lett ∧ cl = false
  · right
    refine ⟨_, by rw [if_pos h1], .inr ?_⟩
    rw [hL, decide_eq_true h1.1, h1.2]
    simp only [NFL, Bool.not_false, Bool.and_self, if_true]
    rw [gCatS_ok (by simp; omega)]
    simp only [NFL]
    rw [show mkS l ++ S1 c = mkS (l ++ [c]) from Sl_inj (by rw [Sl_add, Sl_mk, Sl_mk]; rfl)]
    rfl
  · have h1' : (decide (c ∈ lett) && !cl) = false := by
      cases cl
      · rw [decide_eq_false fun h => h1 ⟨h, rfl⟩]; rfl
      · rw [Bool.not_true, Bool.and_false]
    rw [if_neg h1, hL, h1', br_iff, S1_inj s_open, S1_inj s_close, mk_emp]
    by_cases h2 : c = 40 ∨ c = 44 ∨ c = 41
    · rw [if_neg (not_not_intro h2), decide_eq_true h2]
      simp only [NFL, Bool.not_true, Bool.false_eq_true, if_false]
      by_cases h3 : l = []
      · rw [decide_eq_true h3]
        by_cases h4 : cl = false ∨ c = 40
        · left
          rw [if_pos ⟨h3, h4⟩]
          have : (!cl || decide (c = 40)) = true := by rcases h4 with h4 | h4 <;> simp [h4]
          simp only [NFL, Bool.not_true, Bool.false_eq_true, if_false, this, if_true]
          first | exact ⟨rfl, rfl⟩ | exact ⟨rfl, trivial⟩ | exact ⟨trivial, trivial⟩ | trivial
        · rw [if_neg (fun h => h4 h.2)]
          have : (!cl || decide (c = 40)) = false := by
            cases cl
            · exact absurd (.inl rfl) h4
            · rw [Bool.not_true, Bool.false_or, decide_eq_false fun h => h4 (.inr h)]
          simp only [NFL, Bool.not_true, Bool.false_eq_true, if_false, this, h3, if_true]
          rcases h2 with rfl | rfl | rfl
          · exact absurd (.inr rfl) h4
          · by_cases h5 : d < 0
            · left; simp [NFL, h5, dlt]
            · right; simp [NFL, h5, toR, ← mk_nil, dlt]
          · by_cases h5 : d - 1 < 0
            · left; simp [NFL, h5, dlt, e41]
            · right; simp [NFL, h5, toR, ← mk_nil, dlt, e41]
      · rw [decide_eq_false h3, if_neg (fun h => h3 h.1)]
        simp only [NFL, Bool.not_false, if_true, h3, if_false]
        rw [gApp_ok (by omega)]
        simp only [NFL]
        rcases h2 with rfl | rfl | rfl
        · by_cases h5 : d + 1 < 0
          · left; simp [NFL, h5, dlt]
          · right; simp [NFL, h5, toR, ← mk_nil, dlt]
        · by_cases h5 : d < 0
          · left; simp [NFL, h5, dlt]
          · right; simp [NFL, h5, toR, ← mk_nil, dlt]
        · by_cases h5 : d - 1 < 0
          · left; simp [NFL, h5, dlt, e41]
          · right; simp [NFL, h5, toR, ← mk_nil, dlt, e41]
    · left
      rw [if_pos h2, decide_eq_false h2]
      exact ⟨rfl, rfl⟩
theorem stp_len {c : Nat} {s s' : Rst} (h : stp c s = some s') : s'.1.length + s'.2.2.1.length ≤ s.1.length + s.2.2.1.length + 1 := by
  rcases stp_inv h with ⟨_, _, rfl⟩ | ⟨_, _, _, rfl⟩
  · simp; omega
  · simp only [List.length_nil]
    split
    · omega
    · rw [List.length_append, List.length_singleton]; omega
theorem rn_ok {τ' : Type} : ∀ (cs : List Nat) (s : Rst), s.1.length + s.2.2.1.length + cs.length ≤ 1000 → F4 τ' cs (toR s) = (match rn cs s with | none => M.exc 7 | some s' => M.pure (.nx (toR s')))
  | [], s, _ => rfl
  | c :: cs, s, hl => by
    rw [List.length_cons] at hl
    unfold rn
    rcases stp_ok c s (by omega) (by omega) with ⟨h1, h2⟩ | ⟨s', h1, h2⟩
    · rw [h1, Option.bind_none]
      show forO (τ' := τ') _ (c :: cs) (toR s) = _
      conv => lhs; unfold forO
      simp only [toR]
      rw [h2]
      rfl
    · have := stp_len h1
      rw [h1, Option.bind_some, ← rn_ok cs s' (by omega)]
      exact forO_nx h2
theorem read_nodes_rn {x : Str} (hl : x.length ≤ 900) : f_p_read_nodes x = (match rn (Sl x ++ [44]) ([], 0, [], false) with | none => M.exc 7 | some s => if s.2.1 = 0 then M.pure s.1 else M.exc 7) := by
  unfold f_p_read_nodes
  rw [gCatS_ok (by simp [lit_len]; omega)]
  have e := rn_ok (τ' := Unit) (Sl x ++ [44]) ([], 0, [], false) (by simp [Sl_len]; omega)
  have e2 : Sl (x ++ ("," : Str)) = Sl x ++ [44] := by rw [Sl_add, s_comma]
  have e3 : toR ([], 0, [], false) = (([] : List (Str × Int)), (0 : Int), ("" : Str), false) := by unfold toR; rw [← mk_nil]
  rw [e3] at e
  have e4 : forO (τ' := Unit) (fun x (s2 : R4) => f_b1_p_read_nodes x s2.1 s2.2.1 s2.2.2.1 s2.2.2.2) (Sl x ++ [44]) (([] : List (Str × Int)), (0 : Int), ("" : Str), false) = _ := e
  simp only [NFL, e2, e4]
  cases h : rn (Sl x ++ [44]) ([], 0, [], false) with
  | none => simp only [NFL]
  | some s =>
    simp only [NFL, toR]
    by_cases h0 : s.2.1 = 0
    · simp [h0]; simp only [NFL]
    · simp [h0]; simp only [NFL]
theorem rn_app : ∀ (a b : List Nat) (s : Rst), rn (a ++ b) s = (rn a s).bind (rn b)
  | [], b, s => rfl
  | c :: a, b, s => by
    rw [List.cons_append]
    unfold rn
    cases h : stp c s with
    | none => rfl
    | some s' => simp only [Option.bind_some]; exact rn_app a b s'
theorem dlt_let {c : Nat} (h : c ∈ lett) : dlt c = 0 := by
  unfold dlt
  rw [if_neg (fun z => nl40' (by rw [← z]; exact h)), if_neg (fun z => nl41' (by rw [← z]; exact h))]
theorem stp_d {c : Nat} {s s' : Rst} (h : stp c s = some s') : s'.2.1 = s.2.1 + dlt c := by
  rcases stp_inv h with ⟨h1, _, rfl⟩ | ⟨_, _, _, rfl⟩
  · rw [dlt_let h1]; simp
  · rfl
theorem rn_d : ∀ (cs : List Nat) {s s' : Rst}, rn cs s = some s' → s'.2.1 = s.2.1 + (cs.count 40 : Int) - (cs.count 41 : Int)
  | [], s, s', h => by cases h; simp
  | c :: cs, s, s', h => by
    unfold rn at h
    cases h1 : stp c s with
    | none => rw [h1] at h; cases h
    | some s1 =>
      rw [h1] at h
      have := rn_d cs h
      have h2 := stp_d h1
      rw [List.count_cons, List.count_cons, this, h2]
      unfold dlt
      by_cases a : c = 40
      · subst a; simp; omega
      · by_cases b : c = 41
        · subst b; simp; omega
        · simp [a, b]
theorem rn_grow : ∀ (cs : List Nat) {s s' : Rst}, rn cs s = some s' → ∃ more, s'.1 = s.1 ++ more
  | [], s, s', h => by cases h; exact ⟨[], by simp⟩
  | c :: cs, s, s', h => by
    unfold rn at h
    cases h1 : stp c s with
    | none => rw [h1] at h; cases h
    | some s1 =>
      rw [h1] at h
      obtain ⟨m, e⟩ := rn_grow cs h
      have : ∃ m1, s1.1 = s.1 ++ m1 := by
        rcases stp_inv h1 with ⟨_, _, rfl⟩ | ⟨_, _, _, rfl⟩
        · exact ⟨[], by simp⟩
        · simp only
          split
          · exact ⟨[], by simp⟩
          · exact ⟨_, rfl⟩
      obtain ⟨m1, e1⟩ := this
      exact ⟨m1 ++ m, by rw [e, e1, List.append_assoc]⟩
def Bad (x y : Nat) : Prop := ((x = 40 ∨ x = 44) ∧ (y = 40 ∨ y = 44 ∨ y = 41)) ∨ (x = 41 ∧ (y = 40 ∨ y ∈ lett))
theorem stp_bad {x y : Nat} {s s1 : Rst} (hb : Bad x y) (h : stp x s = some s1) : stp y s1 = none := by
  have hx : x ∉ lett := by
    rcases hb with ⟨rfl | rfl, _⟩ | ⟨rfl, _⟩
    · exact nl40'
    · exact nl44'
    · exact nl41'
  rcases stp_inv h with ⟨h1, _, _⟩ | ⟨_, _, _, rfl⟩
  · exact absurd h1 hx
  unfold stp
  simp only
  rcases hb with ⟨hx2, hy⟩ | ⟨rfl, hy⟩
  · have hc : decide (x = 41) = false := by rcases hx2 with rfl | rfl <;> rfl
    have hyl : y ∉ lett := by
      rcases hy with rfl | rfl | rfl
      · exact nl40'
      · exact nl44'
      · exact nl41'
    rw [if_neg (fun z => hyl z.1), if_neg (not_not_intro hy), hc, if_pos (by simp)]
  · rcases hy with rfl | hy
    · rw [if_neg (fun z => nl40' z.1), if_neg (by simp), if_pos (by simp)]
    · have : ¬ (y = 40 ∨ y = 44 ∨ y = 41) := by
        rintro (rfl | rfl | rfl)
        · exact nl40' hy
        · exact nl44' hy
        · exact nl41' hy
      rw [if_neg (fun z => by have := z.2; simp at this), if_pos this]
theorem rn_bad {x y : Nat} (hb : Bad x y) (P S : List Nat) (s : Rst) : rn (P ++ x :: y :: S) s = none := by
  rw [rn_app]
  cases rn P s with
  | none => rfl
  | some s1 =>
    simp only [Option.bind_some]
    unfold rn
    cases h : stp x s1 with
    | none => rfl
    | some s2 =>
      simp only [Option.bind_some]
      unfold rn
      rw [stp_bad hb h]
      rfl
theorem rn_odd {y : Nat} (h1 : y ∉ lett) (h2 : ¬ (y = 40 ∨ y = 44 ∨ y = 41)) (P S : List Nat) (s : Rst) : rn (P ++ y :: S) s = none := by
  rw [rn_app]
  cases rn P s with
  | none => rfl
  | some s1 =>
    simp only [Option.bind_some]
    unfold rn stp
    rw [if_neg (fun z => h1 z.1), if_pos h2]
    rfl
theorem rn_first {y : Nat} (h : y = 40 ∨ y = 44 ∨ y = 41) (S : List Nat) : rn (y :: S) ([], 0, [], false) = none := by
  have hyl : y ∉ lett := by
    rcases h with rfl | rfl | rfl
    · exact nl40'
    · exact nl44'
    · exact nl41'
  unfold rn stp
  rw [if_neg (fun z => hyl z.1), if_neg (not_not_intro h), if_pos ⟨rfl, .inl rfl⟩]
  rfl
theorem rn_lets : ∀ (cs : List Nat) (N : List (Str × Int)) (d : Int) (l : List Nat), (∀ c ∈ cs, c ∈ lett) → rn cs (N, d, l, false) = some (N, d, l ++ cs, false)
  | [], N, d, l, _ => by simp [rn]
  | c :: cs, N, d, l, h => by
    unfold rn stp
    rw [if_pos ⟨h c (by simp), rfl⟩]
    simp only [Option.bind_some]
    rw [rn_lets cs N d (l ++ [c]) (fun x hx => h x (List.mem_cons_of_mem _ hx)), List.append_assoc]
    rfl
theorem rn_long : ∀ (cs : List Nat) {s s' : Rst}, 9 ≤ s.2.2.1.length → rn (cs ++ [44]) s = some s' → ∃ n ∈ s'.1, 9 ≤ n.1.length
  | [], s, s', h9, h => by
    rw [List.nil_append] at h
    have hl : s.2.2.1 ≠ [] := fun e => by rw [e] at h9; simp at h9
    unfold rn at h
    cases h1 : stp 44 s with
    | none => rw [h1] at h; cases h
    | some s1 =>
      rw [h1] at h
      cases h
      rcases stp_inv h1 with ⟨h2, _, _⟩ | ⟨_, _, _, rfl⟩
      · exact absurd h2 nl44'
      · rw [if_neg hl]
        exact ⟨_, List.mem_append_right _ (List.mem_singleton.mpr rfl), by simp; omega⟩
  | c :: cs, s, s', h9, h => by
    rw [List.cons_append] at h
    unfold rn at h
    cases h1 : stp c s with
    | none => rw [h1] at h; cases h
    | some s1 =>
      rw [h1] at h
      simp only [Option.bind_some] at h
      have hl : s.2.2.1 ≠ [] := fun e => by rw [e] at h9; simp at h9
      rcases stp_inv h1 with ⟨_, _, rfl⟩ | ⟨_, _, _, rfl⟩
      · exact rn_long cs (by simp; omega) h
      · obtain ⟨m, e⟩ := rn_grow _ h
        rw [if_neg hl] at e
        exact ⟨_, by rw [e]; exact List.mem_append_left _ (List.mem_append_right _ (List.mem_singleton.mpr rfl)), by simp; omega⟩
theorem rn_nine {W : List Nat} (hW : ∀ c ∈ W, c ∈ lett) (h9 : 9 ≤ W.length) (P S : List Nat) {s s' : Rst} (h : rn (P ++ W ++ (S ++ [44])) s = some s') : ∃ n ∈ s'.1, 9 ≤ n.1.length := by
  rw [List.append_assoc, rn_app] at h
  cases h1 : rn P s with
  | none => rw [h1] at h; cases h
  | some s1 =>
    rw [h1] at h
    simp only [Option.bind_some] at h
    rw [rn_app] at h
    obtain ⟨N, d, l, cl⟩ := s1
    cases cl with
    | false =>
      rw [rn_lets W N d l hW] at h
      simp only [Option.bind_some] at h
      exact rn_long S (by simp; omega) h
    | true =>
      cases W with
      | nil => simp at h9
      | cons c W =>
        have hc := hW c (by simp)
        have : stp c (N, d, l, true) = none := by
          have h2 : ¬ (c = 40 ∨ c = 44 ∨ c = 41) := by
            rintro (rfl | rfl | rfl)
            · exact nl40' hc
            · exact nl44' hc
            · exact nl41' hc
          unfold stp
          rw [if_neg (fun z => by have := z.2; simp at this), if_pos h2]
        unfold rn at h
        rw [this] at h
        cases h

end PM
set_option maxHeartbeats 1000000
namespace PM
open PySem PySem.Spec PyProof.Rows L2
theorem for_mapb {α : Type} {g : α → D} {p : α → Bool} {f : D → Unit → M (O Unit Unit Bool)} : ∀ {xs : List α}, (∀ x ∈ xs, f (g x) () = M.pure (if p x = true then .nx () else .rt false)) → forO (τ' := Unit) f (xs.map g) () = M.pure (if xs.all p = true then .nx () else .rt false)
  | [], _ => rfl
  | x :: xs, h => by
    have h1 := h x (by simp)
    rw [List.map_cons]
    cases hp : p x with
    | true =>
      rw [hp, if_pos rfl] at h1
      rw [forO_nx (.inl h1), for_mapb fun y hy => h y (List.mem_cons_of_mem _ hy), List.all_cons, hp, Bool.true_and]
    | false =>
      rw [hp] at h1
      conv => lhs; unfold forO
      rw [h1, List.all_cons, hp]
      rfl
abbrev dNd (n : Str × Int) : D := .tup [.str n.1, .int n.2]
theorem nd_enc (N : List (Str × Int)) : eL (eP2 D.str D.int) N = .lst (N.map dNd) := by
  unfold eL
  congr 1
theorem nd_step {n : Str × Int} (hn : n.1.length ≤ 1000000) (b : Int) : f_b1_p_are_nodes (dNd n) b = M.pure (if (isMkS n.1 && (decide (0 ≤ n.2) && decide (n.2 ≤ b))) = true then .nx (min2 (n.2 + 1) 12) else .rt false) := by
  have i0 : oIx (dNd n) (.int 0) = some (.str n.1) := rfl
  have i1 : oIx (dNd n) (.int 1) = some (.int n.2) := rfl
  have i2 : gI (fLen [dNd n]) = some 2 := rfl
  have i3 : f_p_is_mark (.str n.1) = M.pure (isMkS n.1) := is_mark_ok (okD_str hn)
  unfold f_b1_p_are_nodes
  simp only [NFL, D.isT, beq_self_eq_true, Bool.not_true, Bool.false_eq_true, if_false, i0, i1, i2, i3, is_whole_I, uI_told, decide_true]
  cases h1 : isMkS n.1 with
  | false => simp only [NFL, Bool.not_false, if_true, Bool.false_and, Bool.false_eq_true, if_false]
  | true =>
    cases h2 : (decide (0 ≤ n.2) && decide (n.2 ≤ b)) with
    | false => simp only [NFL, Bool.not_false, Bool.not_true, if_true, Bool.true_and, Bool.false_eq_true, if_false, h2]
    | true =>
      simp only [NFL, Bool.not_true, if_true, Bool.true_and, Bool.false_eq_true, if_false, h2]
      try rfl
theorem nodes_go {τ' : Type} : ∀ (N : List (Str × Int)) (b : Int), b ≤ 12 → (∀ n ∈ N, n.1.length ≤ 1000000) → forO (τ' := τ') (fun x s => f_b1_p_are_nodes x s) (N.map dNd) b = M.pure (.rt false) ∨ ((∃ s, forO (τ' := τ') (fun x s => f_b1_p_are_nodes x s) (N.map dNd) b = M.pure (.nx s)) ∧ ∀ n ∈ N, isMkS n.1 = true ∧ n.2 ≤ 12)
  | [], b, _, _ => .inr ⟨⟨b, rfl⟩, fun n hn => (by cases hn)⟩
  | n :: N, b, hb, hl => by
    have h1 := nd_step (hl n (by simp)) b
    rw [List.map_cons]
    cases hp : (isMkS n.1 && (decide (0 ≤ n.2) && decide (n.2 ≤ b))) with
    | false =>
      left
      rw [hp] at h1
      conv => lhs; unfold forO
      rw [h1]
      rfl
    | true =>
      rw [hp, if_pos rfl] at h1
      rw [forO_nx (.inl h1)]
      simp only [Bool.and_eq_true, decide_eq_true_eq] at hp
      rcases nodes_go N (min2 (n.2 + 1) 12) (by unfold min2; split <;> omega) (fun x hx => hl x (List.mem_cons_of_mem _ hx)) with h | ⟨h, h2⟩
      · exact .inl h
      · refine .inr ⟨h, fun x hx => ?_⟩
        rcases List.mem_cons.mp hx with rfl | hx
        · exact ⟨hp.1, by omega⟩
        · exact h2 x hx
theorem nodes_bad {N : List (Str × Int)} (hl : ∀ n ∈ N, n.1.length ≤ 1000000) (h : 40 < N.length ∨ ∃ n ∈ N, isMkS n.1 = false ∨ 12 < n.2) : f_p_Forest_init 11 (eL (eP2 D.str D.int) N) = M.exc 1 := by
  have e5 : gI (fLen [.lst (N.map dNd)]) = some (N.length : Int) := by simp [fLen, gI]
  have key : f_p_are_nodes (.lst (N.map dNd)) = M.pure false := by
    unfold f_p_are_nodes
    simp only [NFL, D.isT, beq_self_eq_true, Bool.not_true, Bool.false_eq_true, if_false, e5]
    by_cases c : (N.length : Int) > k_MOST_PLACES
    · simp only [NFL, decide_eq_true c, if_true]
    · simp only [NFL, decide_eq_false c, Bool.false_eq_true, if_false, uAny_told]
      rcases nodes_go (τ' := Unit) N 0 (by omega) hl with h1 | ⟨_, h2⟩
      · rw [h1]; simp only [NFL]
      · exfalso
        have c' : ¬ ((N.length : Int) > 40) := c
        rcases h with h | ⟨n, hn, h⟩
        · omega
        · have := h2 n hn
          rcases h with h | h
          · rw [h] at this; simp at this
          · omega
  rw [nd_enc]
  unfold f_p_Forest_init
  simp only [NFL, key, Bool.not_false, if_true]
  rfl
theorem ng_body {x : Str} (hl : x.length ≤ 900) (h : ∀ s, rn (Sl x ++ [44]) ([], 0, [], false) = some s → s.2.1 = 0 → 40 < s.1.length ∨ ∃ n ∈ s.1, isMkS n.1 = false ∨ 12 < n.2) (hN : ∀ s, rn (Sl x ++ [44]) ([], 0, [], false) = some s → ∀ n ∈ s.1, n.1.length ≤ 1000000) : Ng (f_p_thing_of [("forest" : Str), x]) := by
  refine ng_forest ?_
  rw [read_nodes_rn hl]
  cases e : rn (Sl x ++ [44]) ([], 0, [], false) with
  | none => exact .inl rfl
  | some s =>
    simp only
    by_cases h0 : s.2.1 = 0
    · rw [if_pos h0, M.pure_bind, nodes_bad (hN s e) (h s e h0)]
      exact .inr rfl
    · rw [if_neg h0]
      exact .inl rfl
theorem stp_nm {c K : Nat} {s s' : Rst} (h : stp c s = some s') (hb : (∀ n ∈ s.1, n.1.length ≤ K) ∧ s.2.2.1.length ≤ K) : (∀ n ∈ s'.1, n.1.length ≤ K + 1) ∧ s'.2.2.1.length ≤ K + 1 := by
  rcases stp_inv h with ⟨_, _, rfl⟩ | ⟨_, _, _, rfl⟩
  · exact ⟨fun n hn => Nat.le_succ_of_le (hb.1 n hn), by simp; exact hb.2⟩
  · refine ⟨fun n hn => ?_, by simp⟩
    simp only at hn
    split at hn
    · exact Nat.le_succ_of_le (hb.1 n hn)
    · rcases List.mem_append.mp hn with hn | hn
      · exact Nat.le_succ_of_le (hb.1 n hn)
      · rw [List.mem_singleton.mp hn]
        have := hb.2
        simp
        omega
theorem rn_nm : ∀ (cs : List Nat) {K : Nat} {s s' : Rst}, rn cs s = some s' → (∀ n ∈ s.1, n.1.length ≤ K) ∧ s.2.2.1.length ≤ K → ∀ n ∈ s'.1, n.1.length ≤ K + cs.length
  | [], K, s, s', h, hb => by cases h; exact hb.1
  | c :: cs, K, s, s', h, hb => by
    unfold rn at h
    cases h1 : stp c s with
    | none => rw [h1] at h; cases h
    | some s1 =>
      rw [h1] at h
      have := rn_nm cs h (stp_nm h1 hb)
      intro n hn
      have := this n hn
      rw [List.length_cons]
      omega
theorem ng_body' {x : Str} (hl : x.length ≤ 900) (h : ∀ s, rn (Sl x ++ [44]) ([], 0, [], false) = some s → s.2.1 = 0 → 40 < s.1.length ∨ ∃ n ∈ s.1, isMkS n.1 = false ∨ 12 < n.2) : Ng (f_p_thing_of [("forest" : Str), x]) :=
  ng_body hl h fun s e n hn => by
    have := rn_nm _ (K := 0) e ⟨fun n hn => (by cases hn), Nat.le_refl _⟩ n hn
    rw [List.length_append, Sl_len] at this
    simp at this
    omega
theorem ng_none {x : Str} (hl : x.length ≤ 900) (h : rn (Sl x ++ [44]) ([], 0, [], false) = none) : Ng (f_p_thing_of [("forest" : Str), x]) := ng_body' hl fun s e => by rw [h] at e; cases e
theorem ng_unb {x : Str} (hl : x.length ≤ 900) (h : (Sl x).count 40 ≠ (Sl x).count 41) : Ng (f_p_thing_of [("forest" : Str), x]) := ng_body' hl fun s e h0 => by
  have := rn_d _ e
  rw [List.count_append, List.count_append] at this
  simp at this
  omega
theorem long_no {x : Str} (h : 9 ≤ x.length) : isMkS x = false := by
  cases q : isMkS x with
  | false => rfl
  | true => have := isMk_len q; omega
def Tb (ls : List (List Str)) : Prop := ls.length ≤ 12 ∧ ∀ l ∈ ls, l.length ≤ 12 ∧ (∀ w ∈ l, isMkS w = true) ∧ l.length = (ls.getD 0 []).length
theorem lines_bad {ls : List (List Str)} (hl : ∀ l ∈ ls, ∀ w ∈ l, w.length ≤ 1000000) (h : ¬ Tb ls) : f_p_Table_init 12 (eL (eL D.str) ls) = M.exc 1 := by
  have e5 : gI (fLen [.lst (ls.map dLine)]) = some (ls.length : Int) := by simp [fLen, gI]
  have key : f_p_are_lines (.lst (ls.map dLine)) = M.pure false := by
    unfold f_p_are_lines
    simp only [NFL, D.isT, beq_self_eq_true, Bool.not_true, Bool.false_eq_true, if_false, e5]
    by_cases c : (ls.length : Int) > k_MOST_LINES
    · simp only [NFL, decide_eq_true c, if_true]
    · simp only [NFL, decide_eq_false c, Bool.false_eq_true, if_false, uAny_told]
      have c' : ¬ ((ls.length : Int) > 12) := c
      have e3 : ∀ l ∈ ls, f_b1_p_are_lines (.lst (ls.map dLine)) (dLine l) = M.pure (if ((decide ((l.length : Int) ≤ 12) && l.all isMkS) && decide ((l.length : Int) = ((ls.getD 0 []).length : Int))) = true then .nx () else .rt false) := fun l hm => by
        have h0 : 0 < ls.length := List.length_pos_of_mem hm
        have e1 : gI (fLen [dLine l]) = some (l.length : Int) := by simp [fLen, gI]
        have e2 : gI (fLen [dLine (ls.getD 0 [])]) = some ((ls.getD 0 []).length : Int) := by simp only [fLen, gI, List.length_map]
        unfold f_b1_p_are_lines
        simp only [NFL, mk_some (hl l hm), show k_MOST_LINES = 12 from rfl, e1, e2, ix_line h0]
        cases (decide ((l.length : Int) ≤ 12) && l.all isMkS) with
        | false => simp only [NFL, Bool.not_false, if_true, Bool.false_and, Bool.false_eq_true, if_false]
        | true =>
          simp only [NFL, Bool.not_true, Bool.true_and, Bool.false_eq_true, if_false]
          cases decide ((l.length : Int) = ((ls.getD 0 []).length : Int)) with
          | false => simp only [NFL, Bool.not_false, if_true, Bool.false_eq_true, if_false]
          | true => simp only [NFL, Bool.not_true, if_true, Bool.false_eq_true, if_false]
      rw [for_mapb (g := dLine) (f := fun x (_ : Unit) => f_b1_p_are_lines (.lst (ls.map dLine)) x) (p := fun l => (decide ((l.length : Int) ≤ 12) && l.all isMkS) && decide ((l.length : Int) = ((ls.getD 0 []).length : Int))) e3]
      cases q : (ls.all fun l => (decide ((l.length : Int) ≤ 12) && l.all isMkS) && decide ((l.length : Int) = ((ls.getD 0 []).length : Int))) with
      | false => rfl
      | true =>
        exfalso
        refine h ⟨by omega, fun l hm => ?_⟩
        have := List.all_eq_true.mp q l hm
        simp only [Bool.and_eq_true, decide_eq_true_eq, List.all_eq_true] at this
        exact ⟨by omega, this.1.2, by omega⟩
  rw [show eL (eL D.str) ls = .lst (ls.map dLine) by unfold eL; rfl]
  unfold f_p_Table_init
  simp only [NFL, key, Bool.not_false, if_true]
  rfl

end PM
set_option maxHeartbeats 1000000
namespace PM
open PySem PySem.Spec PyProof.Rows L2
theorem read_line_no : f_p_read_line [] = M.exc 7 := by
  unfold f_p_read_line
  simp only [NFL, show decide ((([] : List Str).length : Int) = 0) = true from rfl, if_true]
theorem lines_step (w : Str) (s : PS) (hl : s.1.length + s.2.length ≤ 1000) : (w = ("/" : Str) ∧ s.2 = [] ∧ f_b1_p_read_lines w s.1 s.2 = M.exc 7) ∨ ((w = ("/" : Str) → s.2 ≠ []) ∧ f_b1_p_read_lines w s.1 s.2 = (M.pure (.nx (Pw s w)) : M (O PS PS (List (List Str))))) := by
  by_cases hw : w = ("/" : Str)
  · by_cases h2 : s.2 = []
    · left
      refine ⟨hw, h2, ?_⟩
      unfold f_b1_p_read_lines
      rw [h2]
      simp only [NFL, decide_eq_true hw, if_true, read_line_no]
    · right
      refine ⟨fun _ => h2, ?_⟩
      unfold f_b1_p_read_lines Pw
      simp only [NFL, decide_eq_true hw, if_true, read_line_ok h2, if_pos hw]
      rw [gApp_ok (by omega)]
      simp only [NFL]
  · right
    refine ⟨fun q => absurd q hw, ?_⟩
    unfold f_b1_p_read_lines Pw
    simp only [NFL, decide_eq_false hw, Bool.false_eq_true, if_false, if_neg hw]
    rw [gApp_ok (by omega)]
    simp only [NFL]
theorem lines_run {τ' : Type} : ∀ (ws : List Str) (s : PS), s.1.length + s.2.length + ws.length ≤ 1000 → forO (τ' := τ') (fun x (s : PS) => f_b1_p_read_lines x s.1 s.2) ws s = (M.exc 7 : M (O PS τ' (List (List Str)))) ∨ (okRun s ws ∧ forO (τ' := τ') (fun x (s : PS) => f_b1_p_read_lines x s.1 s.2) ws s = (M.pure (.nx (ws.foldl Pw s)) : M (O PS τ' (List (List Str)))))
  | [], _, _ => .inr ⟨trivial, rfl⟩
  | w :: r, s, hl => by
    rw [List.length_cons] at hl
    rcases lines_step w s (by omega) with ⟨_, _, e⟩ | ⟨h, e⟩
    · left
      conv => lhs; unfold forO
      rw [e]
      rfl
    · have hl2 : (Pw s w).1.length + (Pw s w).2.length + r.length ≤ 1000 := by
        unfold Pw
        split <;> simp only [List.length_append, List.length_cons, List.length_nil] <;> omega
      rcases lines_run (τ' := τ') r (Pw s w) hl2 with q | ⟨q1, q2⟩
      · exact .inl (by rw [forO_nx (.inl e)]; exact q)
      · exact .inr ⟨⟨h, q1⟩, by rw [forO_nx (.inl e)]; exact q2⟩
def finL (r : List Str) : List (List Str) := (r.foldl Pw ([], [])).1 ++ [rl (r.foldl Pw ([], [])).2]
theorem lines_out {r : List Str} (hne : r ≠ []) (hl : r.length ≤ 900) : f_p_read_lines r = M.exc 7 ∨ (f_p_read_lines r = M.pure (finL r) ∧ okRun ([], []) r ∧ (r.foldl Pw ([], [])).2 ≠ []) := by
  have hp : decide ((r.length : Int) > 0) = true := decide_eq_true (by have := List.length_pos_iff.mpr hne; omega)
  have hlen := run_len r ([], [])
  unfold f_p_read_lines
  rcases lines_run (τ' := Unit) r ([], []) (by simp; omega) with h | ⟨h1, h⟩
  · left
    simp only [NFL, h]
  · by_cases h2 : (r.foldl Pw ([], [])).2 = []
    · left
      simp only [NFL, h, hp, if_true, h2, read_line_no]
    · right
      refine ⟨?_, h1, h2⟩
      simp only [NFL, h, hp, if_true, read_line_ok h2]
      rw [gApp_ok (by simp at hlen; omega)]
      simp only [NFL]
      rfl
theorem fold_wd {K : Nat} : ∀ (r : List Str) (s : PS), (∀ w ∈ r, w.length ≤ K) → (∀ l ∈ s.1, ∀ w ∈ l, w.length ≤ K) → (∀ w ∈ s.2, w.length ≤ K) → (∀ l ∈ (r.foldl Pw s).1, ∀ w ∈ l, w.length ≤ K) ∧ ∀ w ∈ (r.foldl Pw s).2, w.length ≤ K
  | [], s, _, h1, h2 => ⟨h1, h2⟩
  | x :: r, s, h, h1, h2 => by
    rw [List.foldl_cons]
    have hr : ∀ w ∈ r, w.length ≤ K := fun w hw => h w (List.mem_cons_of_mem _ hw)
    unfold Pw
    split
    · refine fold_wd r _ hr (fun l hl => ?_) (fun w hw => (by cases hw))
      rcases List.mem_append.mp hl with hl | hl
      · exact h1 l hl
      · rw [List.mem_singleton.mp hl]
        unfold rl
        split
        · exact fun w hw => (by cases hw)
        · exact h2
    · refine fold_wd r _ hr h1 (fun w hw => ?_)
      rcases List.mem_append.mp hw with hw | hw
      · exact h2 w hw
      · rw [List.mem_singleton.mp hw]; exact h x (by simp)
theorem fin_wd {K : Nat} {r : List Str} (h : ∀ w ∈ r, w.length ≤ K) : ∀ l ∈ finL r, ∀ w ∈ l, w.length ≤ K := by
  obtain ⟨h1, h2⟩ := fold_wd r ([], []) h (fun l hl => (by cases hl)) (fun w hw => (by cases hw))
  intro l hl
  unfold finL at hl
  rcases List.mem_append.mp hl with hl | hl
  · exact h1 l hl
  · rw [List.mem_singleton.mp hl]
    unfold rl
    split
    · exact fun w hw => (by cases hw)
    · exact h2
theorem ng_tab {r : List Str} (hne : r ≠ []) (hl : r.length ≤ 900) (hw : ∀ w ∈ r, w.length ≤ 1000000) (h : okRun ([], []) r → (r.foldl Pw ([], [])).2 ≠ [] → ¬ Tb (finL r)) : Ng (f_p_thing_of (("table" : Str) :: r)) := by
  refine ng_table ?_
  rcases lines_out hne hl with e | ⟨e, h1, h2⟩
  · rw [e]; exact .inl rfl
  · rw [e, M.pure_bind, lines_bad (fin_wd hw) (h h1 h2)]
    exact .inr rfl
theorem fold_keep {w : Str} (h2 : w ≠ ("-" : Str)) : ∀ (r : List Str) (s : PS), ((∃ l ∈ s.1, w ∈ l) ∨ w ∈ s.2) → (∃ l ∈ (r.foldl Pw s).1, w ∈ l) ∨ w ∈ (r.foldl Pw s).2
  | [], _, h => h
  | x :: r, s, h => by
    rw [List.foldl_cons]
    refine fold_keep h2 r _ ?_
    unfold Pw
    split
    · left
      rcases h with ⟨l, hl, h⟩ | h
      · exact ⟨l, List.mem_append_left _ hl, h⟩
      · refine ⟨rl s.2, List.mem_append_right _ (List.mem_singleton.mpr rfl), ?_⟩
        unfold rl
        split
        · rename_i q
          rw [q] at h
          exact absurd (List.mem_singleton.mp h) h2
        · exact h
    · rcases h with h | h
      · exact .inl h
      · exact .inr (List.mem_append_left _ h)
theorem fold_in {w : Str} (h1 : w ≠ ("/" : Str)) (h2 : w ≠ ("-" : Str)) {r : List Str} (h : w ∈ r) : ∃ l ∈ finL r, w ∈ l := by
  obtain ⟨P, S, rfl⟩ := List.append_of_mem h
  have key : (∃ l ∈ ((P ++ w :: S).foldl Pw ([], [])).1, w ∈ l) ∨ w ∈ ((P ++ w :: S).foldl Pw ([], [])).2 := by
    rw [List.foldl_append, List.foldl_cons]
    refine fold_keep h2 S _ ?_
    right
    unfold Pw
    rw [if_neg h1]
    exact List.mem_append_right _ (List.mem_singleton.mpr rfl)
  unfold finL
  rcases key with ⟨l, hl, h⟩ | h
  · exact ⟨l, List.mem_append_left _ hl, h⟩
  · refine ⟨_, List.mem_append_right _ (List.mem_singleton.mpr rfl), ?_⟩
    unfold rl
    split
    · rename_i q
      rw [q] at h
      exact absurd (List.mem_singleton.mp h) h2
    · exact h
theorem ng_tword {r : List Str} (hl : r.length ≤ 900) (hw : ∀ w ∈ r, w.length ≤ 1000000) {w : Str} (h : w ∈ r) (h1 : w ≠ ("/" : Str)) (h2 : w ≠ ("-" : Str)) (h3 : isMkS w = false) : Ng (f_p_thing_of (("table" : Str) :: r)) :=
  ng_tab (fun e => by rw [e] at h; cases h) hl hw fun _ _ ht => by
    obtain ⟨l, hl, hm⟩ := fold_in h1 h2 h
    have := (ht.2 l hl).2.1 w hm
    rw [h3] at this
    cases this
theorem okRun_mid : ∀ (P : List Str) {S : List Str} {s : PS}, okRun s (P ++ S) → okRun (P.foldl Pw s) S
  | [], _, _, h => h
  | _ :: P, _, _, h => okRun_mid P h.2
theorem ng_slash {P S : List Str} (hl : (P ++ ("/" : Str) :: S).length ≤ 900) (hw : ∀ w ∈ P ++ ("/" : Str) :: S, w.length ≤ 1000000) (h : (P.foldl Pw ([], [])).2 = []) : Ng (f_p_thing_of (("table" : Str) :: (P ++ ("/" : Str) :: S))) :=
  ng_tab (by simp) hl hw fun h1 _ _ => absurd h ((okRun_mid P h1).1 rfl)
theorem ng_lastslash {P : List Str} (hl : (P ++ [("/" : Str)]).length ≤ 900) (hw : ∀ w ∈ P ++ [("/" : Str)], w.length ≤ 1000000) : Ng (f_p_thing_of (("table" : Str) :: (P ++ [("/" : Str)]))) :=
  ng_tab (by simp) hl hw fun _ h2 _ => h2 (by rw [List.foldl_append]; simp [Pw])
theorem fin_wl {l : List Str} {r : List (List Str)} (h : ∀ x ∈ l :: r, MksOk x) : finL (wl (l :: r)) = l :: r := by
  have := (run_lines r l [] h).2.2
  simpa [finL] using this

end PM
set_option maxHeartbeats 1000000
namespace PM
open PySem PySem.Spec PyProof.Rows L2
theorem cps_get (x : Str) (v : Nat) : x.cps.getD v 0 = ((Sl x)[v]?).getD 0 := by
  unfold Sl
  simp [Array.getD_eq_getD_getElem?]
theorem from_in {n k : Nat} : fromIndex n (k : Int) = k := by unfold fromIndex; omega
theorem getD_app {p w q : List Nat} {v : Nat} (h1 : p.length ≤ v) (h2 : v < p.length + w.length) : ((p ++ w ++ q)[v]?).getD 0 ∈ w := by
  rw [List.append_assoc, List.getElem?_append_right h1, List.getElem?_append_left (by omega), List.getElem?_eq_getElem (by omega)]
  exact List.getElem_mem _
theorem find_at {x : Str} {c : Nat} {p w q : List Nat} (h : Sl x = p ++ w ++ c :: q) (hw : c ∉ w) : Txt.find3 x (S1 c) (p.length : Int) = ((p.length + w.length : Nat) : Int) := by
  have hl : x.length = p.length + w.length + (q.length + 1) := by rw [← Sl_len, h]; simp; omega
  have hn : x.cps.getD (p.length + w.length) 0 = c := by
    rw [cps_get, h, List.getElem?_append_right (by simp)]
    simp
  rcases StrLaws.find3_spec x c (p.length : Int) with ⟨_, h2⟩ | ⟨k, h1, h2, h3, h4, h5⟩
  · rw [from_in] at h2
    exact absurd hn (h2 _ (by omega) (by omega))
  · rw [from_in] at h2 h5
    show Txt.find3 x ⟨#[c]⟩ _ = _
    rw [h1]
    rcases Nat.lt_trichotomy k (p.length + w.length) with hk | hk | hk
    · rw [cps_get, h] at h4
      exact absurd (h4 ▸ getD_app (p := p) (w := w) (q := c :: q) h2 hk) hw
    · rw [hk]
    · exact absurd hn (h5 _ (by omega) hk)
theorem find_sp {x : Str} {w q : List Nat} (h : Sl x = w ++ 32 :: q) (hw : 32 ∉ w) : Txt.find x (" " : Str) = (w.length : Int) := by
  rw [PyProof.Rows.find_is_find3, show (" " : Str) = S1 32 from Sl_inj (by decide +kernel)]
  have := find_at (p := []) (w := w) (q := q) (c := 32) (by rw [h]; rfl) hw
  simpa using this
theorem repl_sp (x : Str) : Sl (Txt.replace x (" " : Str) ("  " : Str)) = StrLaws.dbl 32 (Sl x) := by
  have e1 : (" " : Str) = ⟨#[32]⟩ := Sl_inj (by decide +kernel)
  have e2 : ("  " : Str) = ⟨#[32, 32]⟩ := Sl_inj (by decide +kernel)
  rw [e1, e2]
  exact StrLaws.replace_double x 32
theorem dbl_len : ∀ w : List Nat, (StrLaws.dbl 32 w).length ≤ 2 * w.length
  | [] => by simp [StrLaws.dbl]
  | c :: w => by
    have := dbl_len w
    rw [StrLaws.dbl]
    split <;> simp only [List.length_cons] <;> omega
theorem dbl_free : ∀ {w : List Nat}, 32 ∉ w → StrLaws.dbl 32 w = w
  | [], _ => rfl
  | c :: w, h => by
    simp only [List.mem_cons, not_or] at h
    rw [StrLaws.dbl, if_neg (fun e => h.1 e.symm), dbl_free h.2]
theorem cutS_pre {x : Str} {k : Nat} (h : k ≤ x.length) : Sl (cutS x none (some (k : Int))) = (Sl x).take k := by
  rw [cutS_Sl]
  unfold cutD
  rw [sIx_in (by rw [Sl_len]; omega)]
  simp [HT.sIx]
theorem cutS_suf {x : Str} {k : Nat} (h : k ≤ x.length) : Sl (cutS x (some (k : Int)) none) = (Sl x).drop k := by
  rw [cutS_Sl]
  unfold cutD
  rw [sIx_in (by rw [Sl_len]; omega), show HT.sIx (Sl x).length (Sl x).length none = (Sl x).length from rfl]
  exact List.take_of_length_le (by simp)
theorem Jw_any : ∀ T : List Nat, ∃ ws : List (List Nat), ws ≠ [] ∧ (∀ w ∈ ws, 32 ∉ w) ∧ T = Jw ws
  | [] => ⟨[[]], by simp, by simp, rfl⟩
  | c :: T => by
    obtain ⟨ws, h1, h2, h3⟩ := Jw_any T
    by_cases hc : c = 32
    · refine ⟨[] :: ws, by simp, fun w hw => ?_, ?_⟩
      · rcases List.mem_cons.mp hw with rfl | hw
        · simp
        · exact h2 w hw
      · rw [Jw_cons [] h1, ← h3, hc]; rfl
    · cases ws with
      | nil => exact absurd rfl h1
      | cons w ws =>
        refine ⟨(c :: w) :: ws, by simp, fun v hv => ?_, ?_⟩
        · rcases List.mem_cons.mp hv with rfl | hv
          · simp only [List.mem_cons, not_or]
            exact ⟨fun e => hc e.symm, h2 w (by simp)⟩
          · exact h2 v (List.mem_cons_of_mem _ hv)
        · have := Jw_ins [] [c] w ws []
          simp only [List.nil_append, Jw, List.singleton_append] at this
          rw [h3]
          exact this
theorem Jw_len : ∀ ws : List (List Nat), ws.length ≤ (Jw ws).length + 1 ∧ ∀ w ∈ ws, w.length ≤ (Jw ws).length
  | [] => by simp
  | [a] => by simp [Jw]
  | a :: b :: r => by
    obtain ⟨h1, h2⟩ := Jw_len (b :: r)
    rw [Jw_cons a (by simp), List.length_append, List.length_cons (a := 32)]
    refine ⟨by rw [List.length_cons]; omega, fun w hw => ?_⟩
    rcases List.mem_cons.mp hw with rfl | hw
    · omega
    · have := h2 w hw; omega
theorem Sl_mks (ws : List (List Nat)) : (ws.map mkS).map Sl = ws := by
  rw [List.map_map]
  refine (List.map_congr_left fun w _ => ?_).trans (List.map_id ws)
  simp only [Function.comp_apply, Sl_mk, id]
theorem rd_words {y h : Str} {ws : List (List Nat)} (hy : Sl y = Jw (Sl h :: ws)) (hh : 32 ∉ Sl h) (hf : ∀ w ∈ ws, 32 ∉ w) (hl : y.length ≤ 890) (hn : Ng (f_p_thing_of (h :: ws.map mkS))) : f_p_read_thing (.str y) = M.exc 7 :=
  read_ng (ws := h :: ws.map mkS) (split_ws (by rw [List.map_cons, Sl_mks]; exact hy) (by simp) (fun w hw => by
    rcases List.mem_cons.mp hw with rfl | hw
    · exact hh
    · obtain ⟨u, hu, rfl⟩ := List.mem_map.mp hw
      rw [Sl_mk]; exact hf u hu) (by omega)) hn
theorem wds_len {y h : Str} {ws : List (List Nat)} (hy : Sl y = Jw (Sl h :: ws)) (hl : y.length ≤ 890) : (ws.map mkS).length ≤ 900 ∧ ∀ w ∈ ws.map mkS, w.length ≤ 1000000 := by
  obtain ⟨h1, h2⟩ := Jw_len (Sl h :: ws)
  rw [← hy, Sl_len] at h1 h2
  rw [List.length_cons] at h1
  refine ⟨by rw [List.length_map]; omega, fun w hw => ?_⟩
  obtain ⟨u, hu, rfl⟩ := List.mem_map.mp hw
  have := h2 u (List.mem_cons_of_mem _ hu)
  simp
  omega
theorem sp_heads {h : Str} (hd : h = ("row" : Str) ∨ h = ("table" : Str) ∨ h = ("forest" : Str)) : 32 ∉ Sl h := by rcases hd with rfl | rfl | rfl <;> decide +kernel
theorem rd_bad {y h : Str} {ws : List (List Nat)} (hy : Sl y = Jw (Sl h :: ws)) (hf : ∀ w ∈ ws, 32 ∉ w) (hl : y.length ≤ 890) (hd : h = ("row" : Str) ∨ h = ("table" : Str)) {w : List Nat} (hw : w ∈ ws) (hb : isMkS (mkS w) = false) (h1 : w ≠ [47]) (h2 : w ≠ [45]) : f_p_read_thing (.str y) = M.exc 7 := by
  obtain ⟨l1, l2⟩ := wds_len hy hl
  have hm : mkS w ∈ ws.map mkS := List.mem_map_of_mem hw
  refine rd_words hy (sp_heads (hd.elim .inl fun z => .inr (.inl z))) hf hl ?_
  rcases hd with rfl | rfl
  · exact ng_row l2 (.inr ⟨_, hm, hb⟩)
  · refine ng_tword l1 l2 hm (fun e => h1 ?_) (fun e => h2 ?_) hb
    · have := congrArg Sl e
      rw [Sl_mk] at this
      rw [this]; decide +kernel
    · have := congrArg Sl e
      rw [Sl_mk] at this
      rw [this]; decide +kernel
theorem rd_two {y : Str} {a b : List Nat} {ws : List (List Nat)} (hy : Sl y = Jw (Sl ("forest" : Str) :: a :: b :: ws)) (hf : ∀ w ∈ a :: b :: ws, 32 ∉ w) (hl : y.length ≤ 890) : f_p_read_thing (.str y) = M.exc 7 :=
  rd_words hy (by decide +kernel) hf hl ng_forest2
theorem rd_head {y : Str} {a : List Nat} {ws : List (List Nat)} (hy : Sl y = Jw (a :: ws)) (hf : ∀ w ∈ a :: ws, 32 ∉ w) (hl : y.length ≤ 890) (h1 : a ≠ Sl ("row" : Str)) (h2 : a ≠ Sl ("table" : Str)) (h3 : a ≠ Sl ("forest" : Str)) : f_p_read_thing (.str y) = M.exc 7 := by
  refine rd_words (h := mkS a) (by rw [Sl_mk]; exact hy) (by rw [Sl_mk]; exact hf a (by simp)) (fun w hw => hf w (List.mem_cons_of_mem _ hw)) hl (ng_word ?_ ?_ ?_)
  · exact fun e => h1 (by rw [← e, Sl_mk])
  · exact fun e => h2 (by rw [← e, Sl_mk])
  · exact fun e => h3 (by rw [← e, Sl_mk])
structure TW (x h : Str) (R : List (List Nat)) : Prop where
  eq : Sl x = Jw (Sl h :: R)
  ne : R ≠ []
  fr : ∀ w ∈ R, 32 ∉ w ∧ w ≠ []
  hd : h = ("row" : Str) ∨ h = ("table" : Str) ∨ h = ("forest" : Str)
  fo : h = ("forest" : Str) → ∃ b, R = [b]
  len : x.length ≤ 400
theorem no_mk {w : List Nat} (h : 9 ≤ w.length ∨ w = [] ∨ ∃ c ∈ w, c ∉ lett) : isMkS (mkS w) = false := by
  cases q : isMkS (mkS w) with
  | false => rfl
  | true =>
    exfalso
    obtain ⟨h1, h2⟩ := mk_letters q
    rw [Sl_mk] at h1 h2
    rcases h with h | h | ⟨c, hc, h⟩
    · have := isMk_len q
      simp at this
      omega
    · exact h1 h
    · exact h (h2 c hc)
theorem TW.cut {x h : Str} {R : List (List Nat)} (tw : TW x h R) {k : Nat} (hk : (Sl h).length + 1 ≤ k) : ∃ P u v S, R = P ++ (u ++ v) :: S ∧ (Sl x).take k = Sl h ++ 32 :: Jw (P ++ [u]) ∧ (Sl x).drop k = Jw (v :: S) := by
  have e : Sl x = Sl h ++ [32] ++ Jw R := by rw [tw.eq, Jw_cons _ tw.ne]; simp
  have hl : (Sl h ++ [32]).length ≤ k := by simp; omega
  obtain ⟨P, u, v, S, e1, e2, e3⟩ := Jw_cut R tw.ne (List.take_append_drop (k - (Sl h ++ [32]).length) (Jw R)).symm
  refine ⟨P, u, v, S, e1, ?_, ?_⟩
  · rw [e, List.take_append, List.take_of_length_le hl, e2]
    simp
  · rw [e, List.drop_append, List.drop_eq_nil_of_le hl, List.nil_append]
    exact e3
theorem ins_bad {x h : Str} {R : List (List Nat)} (tw : TW x h R) {k : Nat} (hk : (Sl h).length + 1 ≤ k) {O : List Nat} (hO : 32 ∉ O) (hO2 : (∃ c ∈ O, c ∉ lett ∧ ¬ (c = 40 ∨ c = 44 ∨ c = 41)) ∨ (9 ≤ O.length ∧ ∀ c ∈ O, c ∈ lett)) {y : Str} (hy : Sl y = (Sl x).take k ++ O ++ (Sl x).drop k) (hl : y.length ≤ 890) : f_p_read_thing (.str y) = M.exc 7 := by
  obtain ⟨P, u, v, S, e1, e2, e3⟩ := tw.cut hk
  have hy2 : Sl y = Jw (Sl h :: (P ++ (u ++ O ++ v) :: S)) := by
    rw [hy, e2, e3, Jw_cons (Sl h) (by simp), ← Jw_ins]
    simp
  have huv := tw.fr (u ++ v) (by rw [e1]; simp)
  have hf : ∀ w ∈ P ++ (u ++ O ++ v) :: S, 32 ∉ w := fun w hw => by
    rcases List.mem_append.mp hw with hw | hw
    · exact (tw.fr w (by rw [e1]; exact List.mem_append_left _ hw)).1
    · rcases List.mem_cons.mp hw with rfl | hw
      · have := huv.1
        simp only [List.mem_append, not_or] at this ⊢
        exact ⟨⟨this.1, hO⟩, this.2⟩
      · exact (tw.fr w (by rw [e1]; exact List.mem_append_right _ (List.mem_cons_of_mem _ hw))).1
  have hOl : 1 ≤ O.length := by
    rcases hO2 with ⟨c, hc, _⟩ | ⟨h9, _⟩
    · exact List.length_pos_of_mem hc
    · omega
  have hul : 1 ≤ (u ++ v).length := List.length_pos_iff.mpr huv.2
  rw [List.length_append] at hul
  by_cases hfo : h = ("forest" : Str)
  · obtain ⟨b, hb⟩ := tw.fo hfo
    subst hfo
    rw [e1] at hb
    have hP : P = [] := by
      cases P with
      | nil => rfl
      | cons p P => simp at hb
    subst hP
    have hS : S = [] := by
      cases S with
      | nil => rfl
      | cons p P => simp at hb
    subst hS
    rw [List.nil_append] at hy2 hf
    refine rd_words hy2 (by decide +kernel) hf hl ?_
    have hbl : (mkS (u ++ O ++ v)).length ≤ 900 := by
      have := (Jw_len (Sl ("forest" : Str) :: [u ++ O ++ v])).2 (u ++ O ++ v) (by simp)
      rw [← hy2, Sl_len] at this
      simp at this ⊢
      omega
    rw [List.map_cons, List.map_nil]
    rcases hO2 with ⟨c, hc, h1, h2⟩ | ⟨h9, hW⟩
    · refine ng_none hbl ?_
      obtain ⟨O1, O2, rfl⟩ := List.append_of_mem hc
      rw [Sl_mk]
      have := rn_odd h1 h2 (u ++ O1) (O2 ++ v ++ [44]) ([], 0, [], false)
      simpa using this
    · refine ng_body' hbl fun s e _ => ?_
      rw [Sl_mk, List.append_assoc (u ++ O)] at e
      obtain ⟨n, hn, h3⟩ := rn_nine hW h9 u v e
      exact .inr ⟨n, hn, .inl (long_no h3)⟩
  · refine rd_bad hy2 hf hl (tw.hd.elim .inl fun z => z.elim .inr fun z => absurd z hfo) (w := u ++ O ++ v) (by simp) (no_mk ?_) (fun e => ?_) (fun e => ?_)
    · rcases hO2 with ⟨c, hc, h1, _⟩ | ⟨h9, _⟩
      · exact .inr (.inr ⟨c, by simp [hc], h1⟩)
      · exact .inl (by simp; omega)
    · have := congrArg List.length e
      simp at this
      omega
    · have := congrArg List.length e
      simp at this
      omega
theorem suf_bad {x h : Str} {R : List (List Nat)} (tw : TW x h R) {b : List Nat} {ws : List (List Nat)} (hf : ∀ w ∈ b :: ws, 32 ∉ w) (hb : isMkS (mkS b) = false) (h1 : b ≠ [47]) (h2 : b ≠ [45]) {y : Str} (hy : Sl y = Sl x ++ 32 :: Jw (b :: ws)) (hl : y.length ≤ 890) : f_p_read_thing (.str y) = M.exc 7 := by
  have hy2 : Sl y = Jw (Sl h :: (R ++ b :: ws)) := by
    rw [hy, tw.eq, ← Jw_app (Sl h :: R) (by simp) (by simp)]
    rfl
  have hf2 : ∀ w ∈ R ++ b :: ws, 32 ∉ w := fun w hw => (List.mem_append.mp hw).elim (fun z => (tw.fr w z).1) (hf w)
  by_cases hfo : h = ("forest" : Str)
  · obtain ⟨c, hc⟩ := tw.fo hfo
    subst hfo hc
    exact rd_two (a := c) (b := b) (ws := ws) hy2 hf2 hl
  · exact rd_bad hy2 hf2 hl (tw.hd.elim .inl fun z => z.elim .inr fun z => absurd z hfo) (w := b) (by simp) hb h1 h2

end PM
set_option maxHeartbeats 1000000
namespace PM
open PySem PySem.Spec PyProof.Rows L2
theorem TW.sp {x h : Str} {R : List (List Nat)} (tw : TW x h R) : Sl x = Sl h ++ 32 :: Jw R := by rw [tw.eq, Jw_cons (Sl h) tw.ne]
theorem TW.hl {x h : Str} {R : List (List Nat)} (tw : TW x h R) : (Sl h).length + 1 ≤ x.length ∧ (Sl h).length ≤ 6 := by
  have := congrArg List.length tw.sp
  rw [Sl_len, List.length_append, List.length_cons] at this
  refine ⟨by omega, ?_⟩
  rcases tw.hd with h | h | h <;> rw [h] <;> decide +kernel
theorem TW.heads {x h : Str} {R : List (List Nat)} (tw : TW x h R) : 32 ∉ Sl h := sp_heads tw.hd
theorem TW.fr' {x h : Str} {R : List (List Nat)} (tw : TW x h R) : ∀ w ∈ R, 32 ∉ w := fun w hw => (tw.fr w hw).1
def Rf (m : M D) : Prop := ∃ d, m = M.pure d ∧ f_p_read_thing d = M.exc 7
theorem Rf.str {x : Str} (h : f_p_read_thing (.str x) = M.exc 7) : Rf (M.pure (.str x)) := ⟨_, rfl, h⟩
theorem catS3 {a b c : Str} (h : a.length + b.length + c.length ≤ 900000) {γ : Type} (k : Str → M γ) : (M.bind (M.opt (gCatS a b)) fun t => M.bind (M.opt (gCatS t c)) k) = k (a ++ b ++ c) := by
  rw [gCatS_ok (by omega)]; simp only [NFL]
  rw [gCatS_ok (by simp; omega)]; simp only [NFL]
theorem wa_0 {x h : Str} {R : List (List Nat)} (tw : TW x h R) {i : Int} (hi : 0 ≤ i ∧ i < 12) : ∃ d, gIx [(iU ()), (D.int (3 : Int)), (D.bl true), ((eL D.str) [x]), ((eTL D.str) [x]), (D.str ("" : Str)), (D.str (" " : Str)), (D.str ("rows a" : Str)), (D.str ("Row" : Str)), (D.str ("tables" : Str)), (D.str ("Forest" : Str)), (D.str ("forests a" : Str))] i = some d ∧ f_p_read_thing d = M.exc 7 := by
  rcases (by omega : i = 0 ∨ i = 1 ∨ i = 2 ∨ i = 3 ∨ i = 4 ∨ i = 5 ∨ i = 6 ∨ i = 7 ∨ i = 8 ∨ i = 9 ∨ i = 10 ∨ i = 11) with rfl | rfl | rfl | rfl | rfl | rfl | rfl | rfl | rfl | rfl | rfl | rfl
  · exact ⟨_, gIx_some (n := 0) rfl rfl, read_no rfl⟩
  · exact ⟨_, gIx_some (n := 1) rfl rfl, read_no rfl⟩
  · exact ⟨_, gIx_some (n := 2) rfl rfl, read_no rfl⟩
  · exact ⟨_, gIx_some (n := 3) rfl rfl, read_no rfl⟩
  · exact ⟨_, gIx_some (n := 4) rfl rfl, read_no rfl⟩
  · exact ⟨_, gIx_some (n := 5) rfl rfl, rd_head (a := []) (ws := []) (by decide +kernel) (by decide +kernel) (by decide +kernel) (by decide +kernel) (by decide +kernel) (by decide +kernel)⟩
  · exact ⟨_, gIx_some (n := 6) rfl rfl, rd_head (a := []) (ws := [[]]) (by decide +kernel) (by decide +kernel) (by decide +kernel) (by decide +kernel) (by decide +kernel) (by decide +kernel)⟩
  · exact ⟨_, gIx_some (n := 7) rfl rfl, rd_head (a := Sl ("rows" : Str)) (ws := [Sl ("a" : Str)]) (by decide +kernel) (by decide +kernel) (by decide +kernel) (by decide +kernel) (by decide +kernel) (by decide +kernel)⟩
  · exact ⟨_, gIx_some (n := 8) rfl rfl, rd_head (a := Sl ("Row" : Str)) (ws := []) (by decide +kernel) (by decide +kernel) (by decide +kernel) (by decide +kernel) (by decide +kernel) (by decide +kernel)⟩
  · exact ⟨_, gIx_some (n := 9) rfl rfl, rd_head (a := Sl ("tables" : Str)) (ws := []) (by decide +kernel) (by decide +kernel) (by decide +kernel) (by decide +kernel) (by decide +kernel) (by decide +kernel)⟩
  · exact ⟨_, gIx_some (n := 10) rfl rfl, rd_head (a := Sl ("Forest" : Str)) (ws := []) (by decide +kernel) (by decide +kernel) (by decide +kernel) (by decide +kernel) (by decide +kernel) (by decide +kernel)⟩
  · exact ⟨_, gIx_some (n := 11) rfl rfl, rd_head (a := Sl ("forests" : Str)) (ws := [Sl ("a" : Str)]) (by decide +kernel) (by decide +kernel) (by decide +kernel) (by decide +kernel) (by decide +kernel) (by decide +kernel)⟩
theorem up_head {h : Str} (hd : h = ("row" : Str) ∨ h = ("table" : Str) ∨ h = ("forest" : Str)) : ∃ (a b : Nat) (r : List Nat) (z : Str), Sl h = a :: r ∧ gUp (S1 a) = some z ∧ Sl z = [b] ∧ 32 ∉ b :: r ∧ b :: r ≠ Sl ("row" : Str) ∧ b :: r ≠ Sl ("table" : Str) ∧ b :: r ≠ Sl ("forest" : Str) := by
  rcases hd with rfl | rfl | rfl
  · exact ⟨114, 82, [111, 119], ("R" : Str), by decide +kernel, by decide +kernel, by decide +kernel, by decide +kernel, by decide +kernel, by decide +kernel, by decide +kernel⟩
  · exact ⟨116, 84, [97, 98, 108, 101], ("T" : Str), by decide +kernel, by decide +kernel, by decide +kernel, by decide +kernel, by decide +kernel, by decide +kernel, by decide +kernel⟩
  · exact ⟨102, 70, [111, 114, 101, 115, 116], ("F" : Str), by decide +kernel, by decide +kernel, by decide +kernel, by decide +kernel, by decide +kernel, by decide +kernel, by decide +kernel⟩
theorem wa_1 {x h : Str} {R : List (List Nat)} (tw : TW x h R) : Rf (M.bind (M.bind (M.opt (gCutS x none (some (1 : Int)))) fun t4 => M.opt (gUp t4)) fun t5 => M.bind (M.bind (M.opt (gCutS x (some (1 : Int)) none)) fun t6 => M.opt (gCatS t5 t6)) fun t7 => M.pure (D.str t7)) := by
  obtain ⟨a, b, r, z, e1, e2, e3, e4, h1, h2, h3⟩ := up_head tw.hd
  have hx := tw.sp
  have hl := tw.len
  have hhl := tw.hl
  rw [e1] at hx
  have c1 : cutS x none (some (1 : Int)) = S1 a := Sl_inj (by
    rw [show (1 : Int) = ((1 : Nat) : Int) from rfl, cutS_pre (by omega), hx]
    rfl)
  have c2 : Sl (cutS x (some (1 : Int)) none) = r ++ 32 :: Jw R := by
    rw [show (1 : Int) = ((1 : Nat) : Int) from rfl, cutS_suf (by omega), hx]
    rfl
  have c3 : (cutS x (some (1 : Int)) none).length ≤ 400 := Nat.le_trans (cutS_len _ _ _) hl
  have zl : z.length = 1 := by rw [← Sl_len, e3]; rfl
  simp only [NFL, gCutS_ok (x := x) (show x.length ≤ 1000000 by omega), c1, e2, gCatS_ok (x := z) (y := cutS x (some (1 : Int)) none) (by omega)]
  refine Rf.str (rd_head (a := b :: r) (ws := R) ?_ ?_ (by simp; omega) h1 h2 h3)
  · rw [Sl_add, e3, c2, Jw_cons _ tw.ne]
    simp
  · intro w hw
    rcases List.mem_cons.mp hw with rfl | hw
    · exact e4
    · exact tw.fr' w hw
theorem wa_2 {x h m : Str} {R : List (List Nat)} (tw : TW x h R) (hm : isMkS m = true) {i : Int} (hi : 0 ≤ i ∧ i < 8) : ∃ z, gIx [(" " : Str), ("  " : Str), (" A" : Str), (" a1" : Str), (" " : Str) ++ m ++ (";" : Str), (" abcdefghi" : Str), ("\n" : Str), ("\t" : Str)] i = some z ∧ z.length ≤ 20 ∧ f_p_read_thing (.str (x ++ z)) = M.exc 7 := by
  have hl := tw.len
  have hhl := tw.hl
  have hml := isMk_len hm
  have hxl : (Sl x).length = x.length := Sl_len x
  have suf : ∀ {z : Str} {b : List Nat} {ws : List (List Nat)}, z.length ≤ 20 → Sl z = 32 :: Jw (b :: ws) → (∀ w ∈ b :: ws, 32 ∉ w) → isMkS (mkS b) = false → b ≠ [47] → b ≠ [45] → f_p_read_thing (.str (x ++ z)) = M.exc 7 := fun {z b ws} hz e hf hb h1 h2 => suf_bad tw hf hb h1 h2 (by rw [Sl_add, e]) (by simp; omega)
  have ins : ∀ {z : Str} {c : Nat}, z.length ≤ 20 → Sl z = [c] → c ≠ 32 → c ∉ lett → ¬ (c = 40 ∨ c = 44 ∨ c = 41) → f_p_read_thing (.str (x ++ z)) = M.exc 7 := fun {z c} hz e h0 h1 h2 => ins_bad tw (k := x.length) (by omega) (O := [c]) (by simp; exact fun q => h0 q.symm) (.inl ⟨c, by simp, h1, h2⟩) (by rw [Sl_add, e, ← hxl, List.take_length, List.drop_length, List.append_nil]) (by simp; omega)
  rcases (by omega : i = 0 ∨ i = 1 ∨ i = 2 ∨ i = 3 ∨ i = 4 ∨ i = 5 ∨ i = 6 ∨ i = 7) with rfl | rfl | rfl | rfl | rfl | rfl | rfl | rfl
  · exact ⟨_, gIx_some (n := 0) rfl rfl, by decide +kernel, suf (b := []) (ws := []) (by decide +kernel) (by decide +kernel) (by decide +kernel) (no_mk (.inr (.inl rfl))) (by decide) (by decide)⟩
  · exact ⟨_, gIx_some (n := 1) rfl rfl, by decide +kernel, suf (b := []) (ws := [[]]) (by decide +kernel) (by decide +kernel) (by decide +kernel) (no_mk (.inr (.inl rfl))) (by decide) (by decide)⟩
  · exact ⟨_, gIx_some (n := 2) rfl rfl, by decide +kernel, suf (b := [65]) (ws := []) (by decide +kernel) (by decide +kernel) (by decide +kernel) (no_mk (.inr (.inr ⟨65, by decide, by decide +kernel⟩))) (by decide) (by decide)⟩
  · exact ⟨_, gIx_some (n := 3) rfl rfl, by decide +kernel, suf (b := [97, 49]) (ws := []) (by decide +kernel) (by decide +kernel) (by decide +kernel) (no_mk (.inr (.inr ⟨49, by decide, by decide +kernel⟩))) (by decide) (by decide)⟩
  · have hz : ((" " : Str) ++ m ++ (";" : Str)).length ≤ 20 := by simp [lit_len]; omega
    refine ⟨_, gIx_some (n := 4) rfl rfl, hz, suf (b := Sl m ++ [59]) (ws := []) hz ?_ ?_ (no_mk (.inr (.inr ⟨59, by simp, by decide +kernel⟩))) (fun e => ?_) (fun e => ?_)⟩
    · rw [Sl_add, Sl_add, show Sl (" " : Str) = [32] by decide +kernel, show Sl (";" : Str) = [59] by decide +kernel, Jw]
      rfl
    · intro w hw
      rw [List.mem_singleton.mp hw]
      simp only [List.mem_append, not_or]
      exact ⟨(wd_mk hm).1.2, by decide⟩
    · have : (59 : Nat) ∈ [47] := by rw [← e]; simp
      simp at this
    · have : (59 : Nat) ∈ [45] := by rw [← e]; simp
      simp at this
  · exact ⟨_, gIx_some (n := 5) rfl rfl, by decide +kernel, suf (b := Sl ("abcdefghi" : Str)) (ws := []) (by decide +kernel) (by decide +kernel) (by decide +kernel) (no_mk (.inl (by decide +kernel))) (by decide +kernel) (by decide +kernel)⟩
  · exact ⟨_, gIx_some (n := 6) rfl rfl, by decide +kernel, ins (c := 10) (by decide +kernel) (by decide +kernel) (by decide) (by decide +kernel) (by decide)⟩
  · exact ⟨_, gIx_some (n := 7) rfl rfl, by decide +kernel, ins (c := 9) (by decide +kernel) (by decide +kernel) (by decide) (by decide +kernel) (by decide)⟩
theorem cut2 {x : Str} {k : Nat} (hk : k ≤ x.length) (hl : x.length ≤ 400) {z : Str} (hz : z.length ≤ 20) : Sl (cutS x none (some (k : Int)) ++ z ++ cutS x (some (k : Int)) none) = (Sl x).take k ++ Sl z ++ (Sl x).drop k ∧ (cutS x none (some (k : Int)) ++ z ++ cutS x (some (k : Int)) none).length = x.length + z.length ∧ (cutS x none (some (k : Int))).length + z.length + (cutS x (some (k : Int)) none).length ≤ 900 := by
  have e : Sl (cutS x none (some (k : Int)) ++ z ++ cutS x (some (k : Int)) none) = (Sl x).take k ++ Sl z ++ (Sl x).drop k := by rw [Sl_add, Sl_add, cutS_pre hk, cutS_suf hk]
  have h2 := cutS_halves x (k : Int) (by omega)
  refine ⟨e, ?_, by omega⟩
  simp
  omega
theorem wa_sp {x h : Str} {R : List (List Nat)} (tw : TW x h R) {k : Nat} (hk : (Sl h).length + 1 ≤ k ∧ k ≤ x.length) (hr : h ≠ ("forest" : Str) → k = (Sl h).length + 1) : f_p_read_thing (.str (cutS x none (some (k : Int)) ++ (" " : Str) ++ cutS x (some (k : Int)) none)) = M.exc 7 := by
  have hl := tw.len
  obtain ⟨e1, e2, _⟩ := cut2 hk.2 hl (z := (" " : Str)) (by decide +kernel)
  have e3 : (" " : Str).length = 1 := by decide +kernel
  by_cases hfo : h = ("forest" : Str)
  · obtain ⟨P, u, v, S, q1, q2, q3⟩ := tw.cut hk.1
    have hy : Sl (cutS x none (some (k : Int)) ++ (" " : Str) ++ cutS x (some (k : Int)) none) = Jw (Sl h :: (P ++ [u] ++ v :: S)) := by
      rw [e1, q2, q3, Jw_cons (Sl h) (by simp), Jw_app (P ++ [u]) (by simp) (by simp), show Sl (" " : Str) = [32] by decide +kernel]
      simp
    have huv := tw.fr' (u ++ v) (by rw [q1]; simp)
    simp only [List.mem_append, not_or] at huv
    have hf : ∀ w ∈ P ++ [u] ++ v :: S, 32 ∉ w := fun w hw => by
      simp only [List.mem_append, List.mem_cons, List.not_mem_nil, or_false] at hw
      rcases hw with (hw | rfl) | rfl | hw
      · exact tw.fr' w (by rw [q1]; exact List.mem_append_left _ hw)
      · exact huv.1
      · exact huv.2
      · exact tw.fr' w (by rw [q1]; exact List.mem_append_right _ (List.mem_cons_of_mem _ hw))
    subst hfo
    obtain ⟨a, b, ws, e⟩ : ∃ a b ws, P ++ [u] ++ v :: S = a :: b :: ws := by
      cases P with
      | nil => exact ⟨u, v, S, rfl⟩
      | cons p P =>
        cases P with
        | nil => exact ⟨p, u, v :: S, rfl⟩
        | cons p2 P => exact ⟨p, p2, P ++ [u] ++ v :: S, rfl⟩
    rw [e] at hy hf
    exact rd_two hy hf (by omega)
  · have hk2 := hr hfo
    have hx := tw.sp
    have hy : Sl (cutS x none (some (k : Int)) ++ (" " : Str) ++ cutS x (some (k : Int)) none) = Jw (Sl h :: ([] :: R)) := by
      have hx2 : Sl x = (Sl h ++ [32]) ++ Jw R := by rw [hx]; simp
      have hll : (Sl h ++ [32]).length = k := by simp; omega
      rw [e1, hx2, ← hll, List.take_left, List.drop_left, Jw_cons (Sl h) (by simp), Jw_cons [] tw.ne, show Sl (" " : Str) = [32] by decide +kernel]
      simp
    exact rd_bad hy (fun w hw => (List.mem_cons.mp hw).elim (fun z => by rw [z]; simp) (tw.fr' w)) (by omega) (tw.hd.elim .inl fun z => z.elim .inr fun z => absurd z hfo) (w := []) (by simp) (no_mk (.inr (.inl rfl))) (by decide) (by decide)
theorem wa_odd {x h : Str} {R : List (List Nat)} (tw : TW x h R) {k : Nat} (hk : (Sl h).length + 1 ≤ k ∧ k ≤ x.length) {i : Int} (hi : 0 ≤ i ∧ i < 9) : ∃ z, gIx [("-" : Str), ("A" : Str), ("Z" : Str), ("C" : Str), ("0" : Str), ("_" : Str), ("." : Str), ("'" : Str), ("abcdefghi" : Str)] i = some z ∧ z.length ≤ 20 ∧ f_p_read_thing (.str (cutS x none (some (k : Int)) ++ z ++ cutS x (some (k : Int)) none)) = M.exc 7 := by
  have hl := tw.len
  have one : ∀ {z : Str} {c : Nat}, z.length = 1 → Sl z = [c] → c ≠ 32 → c ∉ lett → ¬ (c = 40 ∨ c = 44 ∨ c = 41) → f_p_read_thing (.str (cutS x none (some (k : Int)) ++ z ++ cutS x (some (k : Int)) none)) = M.exc 7 := fun {z c} hz e h0 h1 h2 => by
    obtain ⟨e1, e2, _⟩ := cut2 hk.2 hl (z := z) (by omega)
    rw [e] at e1
    exact ins_bad tw hk.1 (by simp; exact fun q => h0 q.symm) (.inl ⟨c, by simp, h1, h2⟩) e1 (by omega)
  rcases (by omega : i = 0 ∨ i = 1 ∨ i = 2 ∨ i = 3 ∨ i = 4 ∨ i = 5 ∨ i = 6 ∨ i = 7 ∨ i = 8) with rfl | rfl | rfl | rfl | rfl | rfl | rfl | rfl | rfl
  · exact ⟨_, gIx_some (n := 0) rfl rfl, by decide +kernel, one (c := 45) (by decide +kernel) (by decide +kernel) (by decide) (by decide +kernel) (by decide)⟩
  · exact ⟨_, gIx_some (n := 1) rfl rfl, by decide +kernel, one (c := 65) (by decide +kernel) (by decide +kernel) (by decide) (by decide +kernel) (by decide)⟩
  · exact ⟨_, gIx_some (n := 2) rfl rfl, by decide +kernel, one (c := 90) (by decide +kernel) (by decide +kernel) (by decide) (by decide +kernel) (by decide)⟩
  · exact ⟨_, gIx_some (n := 3) rfl rfl, by decide +kernel, one (c := 67) (by decide +kernel) (by decide +kernel) (by decide) (by decide +kernel) (by decide)⟩
  · exact ⟨_, gIx_some (n := 4) rfl rfl, by decide +kernel, one (c := 48) (by decide +kernel) (by decide +kernel) (by decide) (by decide +kernel) (by decide)⟩
  · exact ⟨_, gIx_some (n := 5) rfl rfl, by decide +kernel, one (c := 95) (by decide +kernel) (by decide +kernel) (by decide) (by decide +kernel) (by decide)⟩
  · exact ⟨_, gIx_some (n := 6) rfl rfl, by decide +kernel, one (c := 46) (by decide +kernel) (by decide +kernel) (by decide) (by decide +kernel) (by decide)⟩
  · exact ⟨_, gIx_some (n := 7) rfl rfl, by decide +kernel, one (c := 39) (by decide +kernel) (by decide +kernel) (by decide) (by decide +kernel) (by decide)⟩
  · refine ⟨_, gIx_some (n := 8) rfl rfl, by decide +kernel, ?_⟩
    obtain ⟨e1, e2, _⟩ := cut2 hk.2 hl (z := ("abcdefghi" : Str)) (by decide +kernel)
    have e3 : ("abcdefghi" : Str).length = 9 := by decide +kernel
    exact ins_bad tw hk.1 (by decide +kernel) (.inr ⟨by decide +kernel, by decide +kernel⟩) e1 (by omega)
theorem wa_5 {x h : Str} {R : List (List Nat)} (tw : TW x h R) {i : Int} (hi : 0 ≤ i ∧ i < 3) : ∃ z, gIx [(" " : Str) ++ x, Txt.replace x (" " : Str) ("  " : Str), cutS x none (some ((Sl h).length : Int)) ++ ("\t" : Str) ++ cutS x (some (((Sl h).length : Int) + 1)) none] i = some z ∧ f_p_read_thing (.str z) = M.exc 7 := by
  have hl := tw.len
  have hx := tw.sp
  have hhl := tw.hl
  have hh := tw.heads
  rcases (by omega : i = 0 ∨ i = 1 ∨ i = 2) with rfl | rfl | rfl
  · refine ⟨_, gIx_some (n := 0) rfl rfl, rd_head (a := []) (ws := Sl h :: R) ?_ ?_ (by simp [lit_len]; omega) (by decide +kernel) (by decide +kernel) (by decide +kernel)⟩
    · rw [Sl_add, Jw_cons [] (by simp), tw.eq, show Sl (" " : Str) = [32] by decide +kernel]
      rfl
    · intro w hw
      rcases List.mem_cons.mp hw with rfl | hw
      · simp
      rcases List.mem_cons.mp hw with rfl | hw
      · exact hh
      · exact tw.fr' w hw
  · refine ⟨_, gIx_some (n := 1) rfl rfl, ?_⟩
    obtain ⟨ws, w1, w2, w3⟩ := Jw_any (StrLaws.dbl 32 (Jw R))
    have hy : Sl (Txt.replace x (" " : Str) ("  " : Str)) = Jw (Sl h :: [] :: ws) := by
      rw [repl_sp, hx, StrLaws.dbl_append, dbl_free hh, Jw_cons (Sl h) (by simp), Jw_cons [] w1, ← w3, StrLaws.dbl, if_pos rfl]
      rfl
    have hy2 : (Txt.replace x (" " : Str) ("  " : Str)).length ≤ 890 := by
      have := dbl_len (Sl x)
      rw [← repl_sp, Sl_len, Sl_len] at this
      omega
    have hf : ∀ w ∈ [] :: ws, 32 ∉ w := fun w hw => (List.mem_cons.mp hw).elim (fun z => by rw [z]; simp) (w2 w)
    by_cases hfo : h = ("forest" : Str)
    · subst hfo
      cases ws with
      | nil => exact absurd rfl w1
      | cons b ws => exact rd_two hy hf hy2
    · exact rd_bad hy hf hy2 (tw.hd.elim .inl fun z => z.elim .inr fun z => absurd z hfo) (w := []) (by simp) (no_mk (.inr (.inl rfl))) (by decide) (by decide)
  · refine ⟨_, gIx_some (n := 2) rfl rfl, ?_⟩
    have c1 : Sl (cutS x none (some ((Sl h).length : Int))) = Sl h := by rw [cutS_pre (by omega), hx, List.take_left]
    have c2 : Sl (cutS x (some (((Sl h).length : Int) + 1)) none) = Jw R := by
      rw [show ((Sl h).length : Int) + 1 = (((Sl h).length + 1 : Nat) : Int) by omega, cutS_suf (by omega), hx, show Sl h ++ 32 :: Jw R = (Sl h ++ [32]) ++ Jw R by simp, show (Sl h).length + 1 = (Sl h ++ [32]).length by simp, List.drop_left]
    obtain ⟨r0, R', hR⟩ : ∃ r0 R', R = r0 :: R' := by
      cases hR : R with
      | nil => exact absurd hR tw.ne
      | cons a b => exact ⟨a, b, rfl⟩
    have e := Jw_ins (Sl h) [9] r0 R' []
    simp only [List.nil_append, Jw] at e
    have hy : Sl (cutS x none (some ((Sl h).length : Int)) ++ ("\t" : Str) ++ cutS x (some (((Sl h).length : Int) + 1)) none) = Jw ((Sl h ++ [9] ++ r0) :: R') := by
      rw [Sl_add, Sl_add, c1, c2, hR, show Sl ("\t" : Str) = [9] by decide +kernel]
      exact e
    have h9 : (9 : Nat) ∈ Sl h ++ [9] ++ r0 := by simp
    have hln := congrArg List.length hx
    rw [Sl_len] at hln
    simp only [List.length_append, List.length_cons] at hln
    refine rd_head hy (fun w hw => ?_) ?_ (fun q => ?_) (fun q => ?_) (fun q => ?_)
    · rcases List.mem_cons.mp hw with rfl | hw
      · have := tw.fr' r0 (by rw [hR]; simp)
        simp only [List.mem_append, List.mem_singleton, not_or]
        exact ⟨⟨hh, by decide⟩, this⟩
      · exact tw.fr' w (by rw [hR]; exact List.mem_cons_of_mem _ hw)
    · rw [← Sl_len, Sl_add, Sl_add, c1, c2, show Sl ("\t" : Str) = [9] by decide +kernel]
      simp
      omega
    · rw [q] at h9; revert h9; decide +kernel
    · rw [q] at h9; revert h9; decide +kernel
    · rw [q] at h9; revert h9; decide +kernel
theorem wa_ok {x h m : Str} {R : List (List Nat)} (tw : TW x h R) (hm : isMkS m = true) (c : Int) : Rf (f_l_wrong_by_any x c m) := by
  have hl := tw.len
  have hhl := tw.hl
  have hml := isMk_len hm
  unfold f_l_wrong_by_any
  simp only [NFL]
  by_cases h0 : c % 6 = 0
  · obtain ⟨d, e, h1⟩ := wa_0 tw (i := c / 6 % 12) (by omega)
    simp only [NFL, decide_eq_true h0, if_true, e]
    exact ⟨d, rfl, h1⟩
  by_cases h1 : c % 6 = 1
  · simp only [NFL, decide_eq_false h0, decide_eq_true h1, Bool.false_eq_true, if_false, if_true]
    have := wa_1 tw
    simp only [NFL] at this
    exact this
  by_cases h2 : c % 6 = 2
  · obtain ⟨z, e, hz, h3⟩ := wa_2 tw hm (i := c / 6 % 8) (by omega)
    simp only [NFL, decide_eq_false h0, decide_eq_false h1, decide_eq_true h2, Bool.false_eq_true, if_false, if_true]
    rw [catS3 (by simp [lit_len]; omega)]
    simp only [NFL, e]
    rw [gCatS_ok (by omega)]
    simp only [NFL]
    exact Rf.str h3
  simp only [NFL, decide_eq_false h0, decide_eq_false h1, decide_eq_false h2, Bool.false_eq_true, if_false, find_sp tw.sp tw.heads, gLenS_ok (x := x) (by omega), gMod_ok (i := c / 54) (j := (x.length : Int) - (((Sl h).length : Int) + 1) + 1) (by omega), gCutS_ok (x := x) (show x.length ≤ 1000000 by omega)]
  obtain ⟨k, hk⟩ : ∃ k : Nat, (k : Int) = ((Sl h).length : Int) + 1 + c / 54 % ((x.length : Int) - (((Sl h).length : Int) + 1) + 1) := ⟨(((Sl h).length : Int) + 1 + c / 54 % ((x.length : Int) - (((Sl h).length : Int) + 1) + 1)).toNat, by
    have : 0 ≤ c / 54 % ((x.length : Int) - (((Sl h).length : Int) + 1) + 1) := Int.emod_nonneg _ (by omega)
    omega⟩
  have hk1 : (Sl h).length + 1 ≤ k ∧ k ≤ x.length := by
    have h1 : 0 ≤ c / 54 % ((x.length : Int) - (((Sl h).length : Int) + 1) + 1) := Int.emod_nonneg _ (by omega)
    have h2 : c / 54 % ((x.length : Int) - (((Sl h).length : Int) + 1) + 1) < (x.length : Int) - (((Sl h).length : Int) + 1) + 1 := Int.emod_lt_of_pos _ (by omega)
    omega
  rw [← hk]
  by_cases h3 : c % 6 = 3
  · have ef : decide (cutS x none (some (1 : Int)) = ("f" : Str)) = decide (h = ("forest" : Str)) := by
      have c1 : Sl (cutS x none (some (1 : Int))) = (Sl h ++ 32 :: Jw R).take 1 := by rw [show (1 : Int) = ((1 : Nat) : Int) from rfl, cutS_pre (by omega), tw.sp]
      have c2 : Sl ("f" : Str) = [102] := by decide +kernel
      rcases tw.hd with rfl | rfl | rfl
      · rw [decide_eq_false fun e => ?_, show decide (("row" : Str) = ("forest" : Str)) = false by decide +kernel]
        rw [e, c2, show Sl ("row" : Str) = [114, 111, 119] by decide +kernel] at c1
        simp at c1
      · rw [decide_eq_false fun e => ?_, show decide (("table" : Str) = ("forest" : Str)) = false by decide +kernel]
        rw [e, c2, show Sl ("table" : Str) = [116, 97, 98, 108, 101] by decide +kernel] at c1
        simp at c1
      · rw [decide_eq_true rfl, decide_eq_true (Sl_inj ?_)]
        rw [c1, c2, show Sl ("forest" : Str) = [102, 111, 114, 101, 115, 116] by decide +kernel]
        rfl
    have fin3 : ∀ j : Nat, (Sl h).length + 1 ≤ j ∧ j ≤ x.length → (h ≠ ("forest" : Str) → j = (Sl h).length + 1) → Rf (M.bind (M.opt (gCatS (cutS x none (some (j : Int))) (" " : Str))) fun t29 => M.bind (M.opt (gCatS t29 (cutS x (some (j : Int)) none))) fun t30 => M.pure (D.str t30)) := fun j hj hr => by
      obtain ⟨_, _, e3⟩ := cut2 hj.2 hl (z := (" " : Str)) (by decide +kernel)
      rw [catS3 (by omega)]
      exact Rf.str (wa_sp tw hj hr)
    simp only [NFL, decide_eq_true h3, if_true, ef]
    by_cases hfo : h = ("forest" : Str)
    · have := fin3 k hk1 (fun q => absurd hfo q)
      simp only [NFL, decide_eq_true hfo, Bool.not_true, Bool.false_eq_true, if_false]
      exact this
    · have := fin3 ((Sl h).length + 1) (by omega) (fun _ => rfl)
      rw [show (((Sl h).length + 1 : Nat) : Int) = ((Sl h).length : Int) + 1 by omega] at this
      simp only [NFL, decide_eq_false hfo, Bool.not_false, if_true]
      exact this
  simp only [NFL, decide_eq_false h3, Bool.false_eq_true, if_false]
  by_cases h4 : c % 6 = 4
  · obtain ⟨z, e, hz, h5⟩ := wa_odd tw hk1 (i := c / 6 % 9) (by omega)
    obtain ⟨_, _, e3⟩ := cut2 hk1.2 hl hz
    simp only [NFL, decide_eq_true h4, if_true, e]
    rw [catS3 (by omega)]
    exact Rf.str h5
  · obtain ⟨z, e, h5⟩ := wa_5 tw (i := c / 6 % 3) (by omega)
    have e6 : gRepl (" " : Str) ("  " : Str) x = some (Txt.replace x (" " : Str) ("  " : Str)) := by
      unfold gRepl
      rw [if_pos (by rw [show ("  " : Str).length = 2 by decide +kernel]; omega)]
    have l1 : (cutS x none (some ((Sl h).length : Int))).length ≤ 400 := Nat.le_trans (cutS_len _ _ _) hl
    have l2 : (cutS x (some (((Sl h).length : Int) + 1)) none).length ≤ 400 := Nat.le_trans (cutS_len _ _ _) hl
    simp only [NFL, decide_eq_false h4, Bool.false_eq_true, if_false, gCatS_ok (x := (" " : Str)) (y := x) (by simp [lit_len]; omega), e6, show ((Sl h).length : Int) + 1 - 1 = ((Sl h).length : Int) by omega]
    rw [catS3 (by simp [lit_len]; omega)]
    simp only [NFL, e]
    exact Rf.str h5

end PM
set_option maxHeartbeats 1000000
namespace PM
open PySem PySem.Spec PyProof.Rows L2
theorem Jw_le : ∀ {ws : List (List Nat)}, (∀ w ∈ ws, w.length ≤ 8) → (Jw ws).length ≤ 9 * ws.length
  | [], _ => by simp [Jw]
  | [a], h => by have := h a (by simp); simp [Jw]; omega
  | a :: b :: r, h => by
    have h1 := h a (by simp)
    have h2 := Jw_le (ws := b :: r) fun w hw => h w (List.mem_cons_of_mem _ hw)
    rw [Jw_cons a (by simp), List.length_append, List.length_cons (a := 32), List.length_cons (a := a)]
    omega
theorem Jw_sl {X Y : List (List Nat)} (hX : X ≠ []) (hY : Y ≠ []) : Jw X ++ [32, 47, 32] ++ Jw Y = Jw (X ++ [47] :: Y) := by
  rw [Jw_app X hX (by simp), Jw_cons [47] hY]
  simp
theorem rd_wds {y h : Str} {rs : List Str} (hd : h = ("row" : Str) ∨ h = ("table" : Str) ∨ h = ("forest" : Str)) (hy : Sl y = Jw ((h :: rs).map Sl)) (hf : ∀ w ∈ rs, Wd w) (hr : rs.length ≤ 95) (hn : rs.length ≤ 900 → (∀ w ∈ rs, w.length ≤ 1000000) → Ng (f_p_thing_of (h :: rs))) : f_p_read_thing (.str y) = M.exc 7 := by
  have h8 : (Sl h).length ≤ 8 := by rcases hd with rfl | rfl | rfl <;> decide +kernel
  have hl := Jw_le (ws := (h :: rs).map Sl) fun w hw => by
    obtain ⟨u, hu, rfl⟩ := List.mem_map.mp hw
    rcases List.mem_cons.mp hu with rfl | hu
    · exact h8
    · rw [Sl_len]; exact (hf u hu).1
  rw [← hy, Sl_len, List.length_map, List.length_cons] at hl
  refine read_ng (split_ws hy (by simp) (fun w hw => ?_) (by omega)) (hn (by omega) fun w hw => by have := (hf w hw).1; omega)
  rcases List.mem_cons.mp hw with rfl | hw
  · exact sp_heads hd
  · exact (hf w hw).2
theorem hd_t : ("table" : Str) = ("row" : Str) ∨ ("table" : Str) = ("table" : Str) ∨ ("table" : Str) = ("forest" : Str) := .inr (.inl rfl)
theorem rd_lines {y : Str} {ls : List (List Str)} (hne : ls ≠ []) (hm : ∀ l ∈ ls, MksOk l) (hb : ¬ Tb ls) (hw : (wl ls).length ≤ 95) (hy : Sl y = Jw ((("table" : Str) :: wl ls).map Sl)) : f_p_read_thing (.str y) = M.exc 7 := by
  refine rd_wds hd_t hy (wd_wl hm) hw fun h1 h2 => ?_
  cases ls with
  | nil => exact absurd rfl hne
  | cons l r =>
    refine ng_tab (fun e => ?_) h1 h2 fun _ _ => by rw [fin_wl hm]; exact hb
    have := (run_lines r l [] hm).2.1
    rw [e] at this
    exact this rfl
theorem wl_len2 {w : Nat} : ∀ {ls : List (List Str)}, (∀ l ∈ ls, l.length ≤ w) → (wl ls).length ≤ ls.length * (w + 2)
  | [], _ => by simp [wl]
  | [l], h => by
    have := h l (by simp)
    have := lw_len l
    simp [wl]
    omega
  | l :: l2 :: r, h => by
    have h1 := h l (by simp)
    have h2 := lw_len l
    have ih := wl_len2 (w := w) (ls := l2 :: r) fun x hx => h x (List.mem_cons_of_mem _ hx)
    have e : wl (l :: l2 :: r) = lw l ++ ("/" : Str) :: wl (l2 :: r) := rfl
    rw [e, List.length_append, List.length_cons, List.length_cons (a := l), Nat.succ_mul]
    omega
theorem Sl_table (ls : List (List Str)) (w : Nat) : Sl (Th.table ls w).text = Jw ((("table" : Str) :: wl ls).map Sl) := Sl_join (wl ls) _
theorem Sl_jw {ws : List Str} (h : ws ≠ []) : Sl (Txt.join (" " : Str) ws) = Jw (ws.map Sl) := by
  cases ws with
  | nil => exact absurd rfl h
  | cons a r => exact Sl_join r a
structure Tl (ls : List (List Str)) (w : Nat) : Prop where
  w1 : 1 ≤ w ∧ w ≤ 3
  ne : ls ≠ []
  n : ls.length ≤ 11
  li : ∀ l ∈ ls, l.length = w ∧ MksOk l
  tot : ls.length * w ≤ 11
theorem lw_ne {l : List Str} (h : l ≠ []) : lw l = l := by unfold lw; rw [if_neg h]
theorem ne_of {l : List Str} (h : 1 ≤ l.length) : l ≠ [] := fun e => by rw [e] at h; simp at h
theorem lines_text {ls : List (List Str)} (hne : ls ≠ []) (h : ∀ l ∈ ls, 1 ≤ l.length ∧ l.length ≤ 13 ∧ MksOk l) (hl : ls.length ≤ 13) (w : Nat) : f_l_lines_text ls = M.pure (Th.table ls w).text := by
  have hj : ∀ l ∈ ls, gJoin (" " : Str) l = some (lineT l) := fun l hm => by
    obtain ⟨h1, h2, h3⟩ := h l hm
    rw [gJoin_ok (B := 8) (fun w hw => isMk_len (h3 w hw)) (by simp [lit_len]; omega)]
    unfold lineT
    rw [lw_ne (ne_of h1)]
  have hlen : ∀ x ∈ ls.map lineT, x.length ≤ 200 := fun x hx => by
    obtain ⟨l, hm, rfl⟩ := List.mem_map.mp hx
    obtain ⟨h1, h2, h3⟩ := h l hm
    unfold lineT
    rw [lw_ne (ne_of h1)]
    have := join_len (B := 8) fun w hw => isMk_len (h3 w hw)
    omega
  have l3 : (" / " : Str).length = 3 := by decide +kernel
  have l6 : ("table " : Str).length = 6 := by decide +kernel
  unfold f_l_lines_text
  simp only [NFL]
  rw [lc_map' lineT (fun l hm => by rw [hj l hm]; rfl) (by omega)]
  have hJ := gJoin_ok (a := (" / " : Str)) (B := 200) hlen (by rw [List.length_map, l3]; omega)
  have hS : (Txt.join (" / " : Str) (ls.map lineT)).length ≤ 4000 := by
    have := text_table' w hne
    have h2 := Jw_le (ws := (("table" : Str) :: wl ls).map Sl) fun u hu => by
      obtain ⟨v, hv, rfl⟩ := List.mem_map.mp hu
      rcases List.mem_cons.mp hv with rfl | hv
      · decide +kernel
      · rw [Sl_len]; exact (wd_wl (fun l hm => (h l hm).2.2) v hv).1
    have h3 := wl_len2 (w := 13) (ls := ls) fun l hm => (h l hm).2.1
    rw [← Sl_table ls w, Sl_len, this, List.length_map, List.length_cons] at h2
    simp at h2
    omega
  simp only [NFL, hJ]
  rw [gCatS_ok (by omega)]
  simp only [NFL]
  rw [text_table' w hne]
theorem notmk_dash : isMkS ("-" : Str) = false := by decide +kernel
theorem wt_ok {ls : List (List Str)} {w : Nat} (tl : Tl ls w) {m : Str} (hm : isMkS m = true) (c : Int) : ∃ y, f_l_wrong_table ls c m = M.pure y ∧ f_p_read_thing (.str y) = M.exc 7 := by
  obtain ⟨w1, w3⟩ := tl.w1
  have hn := tl.n
  have hpos := List.length_pos_iff.mpr tl.ne
  have hmk : ∀ l ∈ ls, MksOk l := fun l hl => (tl.li l hl).2
  have hx := Sl_table ls w
  have et := lines_text tl.ne (fun l hl => ⟨by rw [(tl.li l hl).1]; exact w1, by rw [(tl.li l hl).1]; omega, hmk l hl⟩) (by omega) w
  have hwl := wl_len2 (w := w) (ls := ls) fun l hl => Nat.le_of_eq (tl.li l hl).1
  have hwl2 : (wl ls).length ≤ 55 := Nat.le_trans hwl (by
    have := Nat.mul_le_mul hn (show w + 2 ≤ 5 by omega)
    omega)
  have hxl : (Th.table ls w).text.length ≤ 600 := by
    have h2 := Jw_le (ws := (("table" : Str) :: wl ls).map Sl) fun u hu => by
      obtain ⟨v, hv, rfl⟩ := List.mem_map.mp hu
      rcases List.mem_cons.mp hv with rfl | hv
      · decide +kernel
      · rw [Sl_len]; exact (wd_wl hmk v hv).1
    rw [← hx, Sl_len, List.length_map, List.length_cons] at h2
    omega
  obtain ⟨l0, r, hls⟩ : ∃ l0 r, ls = l0 :: r := by
    cases h : ls with
    | nil => exact absurd h tl.ne
    | cons a b => exact ⟨a, b, rfl⟩
  have h0 := tl.li l0 (by rw [hls]; simp)
  have i0 : gIx ls (0 : Int) = some l0 := by rw [hls]; exact gIx_some (n := 0) rfl rfl
  have hl0 : l0 ≠ [] := ne_of (by rw [h0.1]; exact w1)
  have hwd := wd_wl hmk
  have hrl := run_lines r l0 [] (by rw [← hls]; exact hmk)
  rw [← hls] at hrl
  have hne : ∀ X : List (List Nat), (("table" : Str) :: wl ls).map Sl ++ X ≠ [] := fun X => by simp
  have rep : ∀ k : Nat, MksOk (List.replicate k m) := fun k x hx => by rw [List.eq_of_mem_replicate hx]; exact hm
  have j1 : ∀ k : Nat, k ≤ 20 → gJoin (" " : Str) (List.replicate k m) = some (Txt.join (" " : Str) (List.replicate k m)) := fun k hk => gJoin_ok (B := 8) (fun x hx => by rw [List.eq_of_mem_replicate hx]; exact isMk_len hm) (by rw [List.length_replicate, show (" " : Str).length = 1 by decide +kernel]; omega)
  have j1l : ∀ k : Nat, (Txt.join (" " : Str) (List.replicate k m)).length ≤ 9 * k := fun k => by
    have := join_len (B := 8) (ws := List.replicate k m) fun x hx => by rw [List.eq_of_mem_replicate hx]; exact isMk_len hm
    rw [List.length_replicate] at this
    omega
  have j0 : gJoin (" " : Str) l0 = some (lineT l0) := by
    rw [gJoin_ok (B := 8) (fun x hx => isMk_len (h0.2 x hx)) (by rw [h0.1, show (" " : Str).length = 1 by decide +kernel]; omega)]
    unfold lineT
    rw [lw_ne hl0]
  have j0l : (lineT l0).length ≤ 30 := by
    unfold lineT
    rw [lw_ne hl0]
    have := join_len (B := 8) (ws := l0) fun x hx => isMk_len (h0.2 x hx)
    rw [h0.1] at this
    omega
  have hs47 : Sl ("/" : Str) = [47] := by decide +kernel
  have hs45 : Sl ("-" : Str) = [45] := by decide +kernel
  unfold f_l_wrong_table
  simp only [NFL, et]
  have hst : Sl ("table " : Str) = Sl ("table" : Str) ++ [32] := by decide +kernel
  have hrp : ∀ k : Nat, (List.replicate (k + 1) m) ≠ [] := fun k => by simp [List.replicate_succ]
  have rlp : ∀ k : Nat, k ≤ 20 → lcO (fun (_ : Int) => M.pure true) (fun (_ : Int) => M.pure m) (rngI 0 k) [] = M.pure (List.replicate k m) := fun k hk => by
    rw [lc_map' (fun _ => m) (fun _ _ => rfl) (by rw [rngI_len]; omega), List.map_const', rngI_len]
  by_cases c7 : c % 8 = 7
  · simp only [NFL, decide_eq_true c7, if_true, gR1_ok (j := (13 : Int)) (by omega), show (13 : Int).toNat = 13 from rfl]
    have := j1l 13
    rw [rlp 13 (by omega)]
    simp only [NFL, j1 13 (by omega)]
    rw [gCatS_ok (by rw [show ("table " : Str).length = 6 by decide +kernel]; omega)]
    simp only [NFL]
    refine ⟨_, rfl, rd_lines (ls := [List.replicate 13 m]) (by simp) (fun l hl => by rw [List.mem_singleton.mp hl]; exact rep 13) (fun ht => ?_) ?_ ?_⟩
    · have := (ht.2 _ (List.mem_singleton.mpr rfl)).1
      rw [List.length_replicate] at this
      omega
    · simp [wl, lw, List.replicate_succ]
    · rw [Sl_add, hst, Sl_jw (hrp 12), List.map_cons, Jw_cons _ (by simp [wl, lw, List.replicate_succ]), show wl [List.replicate 13 m] = List.replicate 13 m from lw_ne (hrp 12)]
      simp
  have hxw : ∀ {z : Str} {l : List Str}, Sl z = Sl (Th.table ls w).text ++ [32, 47, 32] ++ Jw ((lw l).map Sl) → lw l ≠ [] → Sl z = Jw ((("table" : Str) :: wl (ls ++ [l])).map Sl) := fun {z l} e hl => by
    rw [e, hx, Jw_sl (by simp) (by simpa using hl), wl_snoc ls l tl.ne, ← hs47]
    simp
  have hs1 : Sl (" / " : Str) = [32, 47, 32] := by decide +kernel
  by_cases c0 : c % 8 = 0
  · simp only [NFL, decide_eq_false c7, decide_eq_true c0, Bool.false_eq_true, if_false, if_true]
    rw [gCatS_ok (by simp [lit_len]; omega)]
    simp only [NFL]
    refine ⟨_, rfl, rd_wds (rs := wl ls ++ [("/" : Str)]) hd_t ?_ (fun v hv => ?_) (by rw [List.length_append, List.length_singleton]; omega) fun h1 h2 => ng_lastslash h1 h2⟩
    · rw [Sl_add, hx, show Sl (" /" : Str) = 32 :: Jw [[47]] by decide +kernel, ← Jw_app _ (by simp) (by simp), ← hs47]
      simp
    · rcases List.mem_append.mp hv with hv | hv
      · exact hwd v hv
      · rw [List.mem_singleton.mp hv]; exact wd_slash
  by_cases c1 : c % 8 = 1
  · have := j1l (w + 1)
    simp only [NFL, decide_eq_false c7, decide_eq_false c0, decide_eq_true c1, Bool.false_eq_true, if_false, if_true, i0, h0.1, gR1_ok (j := (w : Int) + 1) (by omega), show ((w : Int) + 1).toNat = w + 1 by omega]
    rw [gCatS_ok (by simp [lit_len]; omega)]
    simp only [NFL]
    rw [rlp (w + 1) (by omega)]
    simp only [NFL, j1 (w + 1) (by omega)]
    rw [gCatS_ok (by simp [lit_len]; omega)]
    simp only [NFL]
    refine ⟨_, rfl, rd_lines (ls := ls ++ [List.replicate (w + 1) m]) (by simp) (fun l hl => ?_) (fun ht => ?_) ?_ (hxw ?_ ?_)⟩
    · rcases List.mem_append.mp hl with hl | hl
      · exact hmk l hl
      · rw [List.mem_singleton.mp hl]; exact rep (w + 1)
    · have := (ht.2 (List.replicate (w + 1) m) (by simp)).2.2
      rw [hls] at this
      simp at this
      have := h0.1
      omega
    · rw [wl_snoc _ _ tl.ne, List.length_append, List.length_cons, lw_ne (hrp w), List.length_replicate]; omega
    · rw [Sl_add, Sl_add, hs1, Sl_jw (hrp w), lw_ne (hrp w)]
    · rw [lw_ne (hrp w)]; exact hrp w
  by_cases c2 : c % 8 = 2
  · simp only [NFL, decide_eq_false c7, decide_eq_false c0, decide_eq_false c1, decide_eq_true c2, Bool.false_eq_true, if_false, if_true]
    rw [gCatS_ok (by simp [lit_len]; omega)]
    simp only [NFL]
    refine ⟨_, rfl, rd_lines (ls := ls ++ [[]]) (by simp) (fun l hl => ?_) (fun ht => ?_) ?_ (hxw (l := []) ?_ (by decide +kernel))⟩
    · rcases List.mem_append.mp hl with hl | hl
      · exact hmk l hl
      · rw [List.mem_singleton.mp hl]; exact fun x hx => (by cases hx)
    · have := (ht.2 [] (by simp)).2.2
      rw [hls] at this
      simp at this
      have := h0.1
      omega
    · rw [wl_snoc _ _ tl.ne, List.length_append, List.length_cons]
      have : (lw ([] : List Str)).length = 1 := by decide +kernel
      omega
    · rw [Sl_add, List.append_assoc]
      refine congrArg _ ?_
      decide +kernel
  by_cases c3 : c % 8 = 3
  · simp only [NFL, decide_eq_false c7, decide_eq_false c0, decide_eq_false c1, decide_eq_false c2, decide_eq_true c3, Bool.false_eq_true, if_false, if_true]
    rw [gCatS_ok (by simp [lit_len]; omega)]
    simp only [NFL]
    refine ⟨_, rfl, rd_wds (rs := wl ls ++ [("-" : Str)]) hd_t ?_ (fun v hv => ?_) (by rw [List.length_append, List.length_singleton]; omega) fun h1 h2 => ng_tab (by simp) h1 h2 fun _ _ ht => ?_⟩
    · rw [Sl_add, hx, show Sl (" -" : Str) = 32 :: Jw [[45]] by decide +kernel, ← Jw_app _ (by simp) (by simp), ← hs45]
      simp
    · rcases List.mem_append.mp hv with hv | hv
      · exact hwd v hv
      · rw [List.mem_singleton.mp hv]; exact wd_dash
    · have hd : ("-" : Str) ≠ ("/" : Str) := by decide +kernel
      have hlast := hrl.2.1
      generalize hg : (wl ls).foldl Pw ([], []) = s at hlast
      have e : finL (wl ls ++ [("-" : Str)]) = s.1 ++ [s.2 ++ [("-" : Str)]] := by
        unfold finL
        rw [List.foldl_append, hg]
        have : Pw s ("-" : Str) = (s.1, s.2 ++ [("-" : Str)]) := by unfold Pw; rw [if_neg hd]
        rw [List.foldl_cons, List.foldl_nil, this]
        simp only
        unfold rl
        rw [if_neg fun q => hlast ?_]
        have := congrArg List.length q
        simp at this
        exact this
      rw [e] at ht
      have := (ht.2 (s.2 ++ [("-" : Str)]) (by simp)).2.1 ("-" : Str) (by simp)
      rw [notmk_dash] at this
      cases this
  have h7 : Sl (cutS (Th.table ls w).text (some (6 : Int)) none) = Jw ((wl ls).map Sl) := by
    have hwne : (wl ls).map Sl ≠ [] := fun e => by
      have : wl ls = [] := List.map_eq_nil_iff.mp e
      have h2 := hrl.2.1
      rw [this] at h2
      exact h2 rfl
    have h5 : Sl (Th.table ls w).text = (Sl ("table" : Str) ++ [32]) ++ Jw ((wl ls).map Sl) := by
      rw [hx, List.map_cons, Jw_cons _ hwne]
      simp
    have hlen := congrArg List.length h5
    have h66 : (Sl ("table" : Str) ++ [32]).length = 6 := by decide +kernel
    rw [Sl_len, List.length_append, h66] at hlen
    rw [show (6 : Int) = ((6 : Nat) : Int) from rfl, cutS_suf (by omega), h5]
    exact List.drop_left' (by decide +kernel)
  by_cases c4 : c % 8 = 4
  · have hcl : (cutS (Th.table ls w).text (some (6 : Int)) none).length ≤ 600 := Nat.le_trans (cutS_len _ _ _) hxl
    simp only [NFL, decide_eq_false c7, decide_eq_false c0, decide_eq_false c1, decide_eq_false c2, decide_eq_false c3, decide_eq_true c4, Bool.false_eq_true, if_false, if_true, gCutS_ok (x := (Th.table ls w).text) (show (Th.table ls w).text.length ≤ 1000000 by omega)]
    rw [gCatS_ok (by simp [lit_len]; omega)]
    simp only [NFL]
    have hwne : (wl ls).map Sl ≠ [] := fun e => by
      have : wl ls = [] := List.map_eq_nil_iff.mp e
      have h2 := hrl.2.1
      rw [this] at h2
      exact h2 rfl
    refine ⟨_, rfl, rd_wds (rs := ("/" : Str) :: wl ls) hd_t ?_ (fun v hv => ?_) (by rw [List.length_cons]; omega) fun h1 h2 => ng_slash (P := []) h1 h2 rfl⟩
    · rw [Sl_add, h7, show Sl ("table / " : Str) = Sl ("table" : Str) ++ 32 :: (Sl ("/" : Str) ++ [32]) by decide +kernel, List.map_cons, List.map_cons, Jw_cons _ (by simp), Jw_cons _ hwne]
      simp
    · rcases List.mem_cons.mp hv with rfl | hv
      · exact wd_slash
      · exact hwd v hv
  by_cases c5 : c % 8 = 5
  · simp only [NFL, decide_eq_false c7, decide_eq_false c0, decide_eq_false c1, decide_eq_false c2, decide_eq_false c3, decide_eq_false c4, decide_eq_true c5, Bool.false_eq_true, if_false, if_true, i0, j0]
    rw [gCatS_ok (by simp [lit_len]; omega)]
    simp only [NFL]
    rw [gCatS_ok (by simp [lit_len]; omega)]
    simp only [NFL]
    refine ⟨_, rfl, rd_wds (rs := (wl ls ++ [("/" : Str)]) ++ ("/" : Str) :: l0) hd_t ?_ (fun v hv => ?_) (by simp; rw [h0.1]; omega) fun h1 h2 => ng_slash h1 h2 (by rw [List.foldl_append]; simp [Pw])⟩
    · rw [Sl_add, Sl_add, hx, show Sl (" / / " : Str) = 32 :: Sl ("/" : Str) ++ [32, 47, 32] by decide +kernel]
      unfold lineT
      rw [lw_ne hl0, Sl_jw hl0, List.append_assoc, List.append_assoc]
      have e1 := Jw_app ((("table" : Str) :: wl ls).map Sl) (Y := [Sl ("/" : Str)] ++ [47] :: l0.map Sl) (by simp) (by simp)
      rw [← Jw_sl (X := [Sl ("/" : Str)]) (by simp) (by simpa using hl0)] at e1
      simp only [Jw] at e1
      rw [← hs47] at e1
      simp only [List.map_append, List.map_cons, List.map_nil, List.append_assoc, List.cons_append, List.nil_append] at e1 ⊢
      exact e1.symm
    · simp only [List.mem_append, List.mem_cons, List.not_mem_nil, or_false] at hv
      rcases hv with (hv | rfl) | rfl | hv
      · exact hwd v hv
      · exact wd_slash
      · exact wd_slash
      · exact (wd_mk (h0.2 v hv)).1
  · simp only [NFL, decide_eq_false c7, decide_eq_false c0, decide_eq_false c1, decide_eq_false c2, decide_eq_false c3, decide_eq_false c4, decide_eq_false c5, Bool.false_eq_true, if_false, i0, j0, gR1_ok (j := (13 : Int)) (by omega), show (13 : Int).toNat = 13 from rfl]
    have rl0 : lcO (fun (_ : Int) => M.pure true) (fun (_ : Int) => M.pure (lineT l0)) (rngI 0 13) [] = M.pure ((List.replicate 13 l0).map lineT) := by
      rw [lc_map' (fun _ => lineT l0) (fun _ _ => rfl) (by rw [rngI_len]; omega), List.map_const', rngI_len, List.map_replicate]
    rw [rl0]
    have hJ := gJoin_ok (a := (" / " : Str)) (B := 30) (ws := (List.replicate 13 l0).map lineT) (fun x hx => by
      rw [List.map_replicate] at hx
      rw [List.eq_of_mem_replicate hx]; exact j0l) (by rw [List.length_map, List.length_replicate, show (" / " : Str).length = 3 by decide +kernel]; omega)
    simp only [NFL, hJ]
    have e3 := text_table' (ls := List.replicate 13 l0) 0 (by simp [List.replicate_succ])
    have hl3 : (Th.table (List.replicate 13 l0) 0).text.length ≤ 900 := by
      have h2 := Jw_le (ws := (("table" : Str) :: wl (List.replicate 13 l0)).map Sl) fun u hu => by
        obtain ⟨v, hv, rfl⟩ := List.mem_map.mp hu
        rcases List.mem_cons.mp hv with rfl | hv
        · decide +kernel
        · rw [Sl_len]; exact (wd_wl (fun l hl => by rw [List.eq_of_mem_replicate hl]; exact h0.2) v hv).1
      have h3 := wl_len2 (w := 3) (ls := List.replicate 13 l0) fun l hl => by rw [List.eq_of_mem_replicate hl, h0.1]; exact w3
      rw [← Sl_table _ 0, Sl_len, List.length_map, List.length_cons] at h2
      rw [List.length_replicate] at h3
      omega
    rw [e3] at hl3
    rw [gCatS_ok (by simp at hl3 ⊢; omega)]
    simp only [NFL]
    refine ⟨_, rfl, rd_lines (ls := List.replicate 13 l0) (by simp [List.replicate_succ]) (fun l hl => by rw [List.eq_of_mem_replicate hl]; exact h0.2) (fun ht => ?_) ?_ ?_⟩
    · have := ht.1
      rw [List.length_replicate] at this
      omega
    · have h3 := wl_len2 (w := 3) (ls := List.replicate 13 l0) fun l hl => by rw [List.eq_of_mem_replicate hl, h0.1]; exact w3
      rw [List.length_replicate] at h3
      omega
    · rw [← Sl_table _ 0, e3]

end PM
set_option maxHeartbeats 1000000
namespace PM
open PySem PySem.Spec PyProof.Rows L2
theorem sep14 {p d : Nat} (h : p ≤ 13) : (sepF p d).length ≤ 14 := by
  unfold sepF
  split
  · simp
  · simp; omega
structure Tr (q : List (Str × Nat)) (s : Str) : Prop where
  e : Sl s = pt q
  d : lastD q ≤ 13
  l : (Sl s).length ≤ 23 * q.length
theorem Tr.nil : Tr [] ("" : Str) := ⟨by decide +kernel, Nat.zero_le _, by rw [show Sl ("" : Str) = [] by decide +kernel]; simp⟩
theorem Tr.one {n : Str × Nat} {s : Str} (hn : isMkS n.1 = true ∧ n.2 ≤ 13) (h : Sl s = Sl n.1) : Tr [n] s := ⟨by rw [h]; simp [pt, nb], hn.2, by rw [h, Sl_len]; have := isMk_len hn.1; simp; omega⟩
theorem Tr.snoc {n : Str × Nat} {q : List (Str × Nat)} {s s' : Str} (t : Tr q s) (hq : q ≠ []) (hn : isMkS n.1 = true ∧ n.2 ≤ 13) (h : Sl s' = Sl s ++ (sepF (lastD q) n.2 ++ Sl n.1)) : Tr (q ++ [n]) s' := by
  refine ⟨by rw [h, t.e, pt_snoc n hq], by rw [lastD_snoc]; exact hn.2, ?_⟩
  have h1 := t.l
  have h2 := sep14 (d := n.2) t.d
  have h3 := isMk_len hn.1
  rw [h, List.length_append, List.length_append, Sl_len n.1, List.length_append, List.length_singleton]
  omega
theorem closeL {f : Int → Str → M (O Str Str Str)} (hf : ∀ x s, s.length ≤ 100000 → f x s = M.pure (.nx (s ++ (")" : Str)))) {s0 : Str} {n : Nat} (h : s0.length + n ≤ 90000) {τ' : Type} :
    Ret (forO (τ' := τ') f (rngI 0 n) s0) fun o => ∃ s, o = .nx s ∧ Sl s = Sl s0 ++ List.replicate n 41 := by
  refine Ret.forR (fun k s => Sl s = Sl s0 ++ List.replicate k 41) (by simp) ?_ (fun s h => h)
  intro k s hk hs
  have hl := congrArg List.length hs
  rw [List.length_append, List.length_replicate, Sl_len, Sl_len] at hl
  rw [hf _ _ (by omega)]
  exact ⟨_, rfl, _, rfl, by rw [Sl_add, hs, s_close, List.append_assoc, List.replicate_succ']⟩
theorem b2f (x : Int) (s : Str) (h : s.length ≤ 100000) : f_b2_l_forest_text x s = (M.pure (.nx (s ++ (")" : Str))) : M (O Str Str Str)) := by
  unfold f_b2_l_forest_text
  rw [gCatS_ok (by simp [lit_len]; omega)]
  simp only [NFL]
theorem b3f (x : Int) (s : Str) (h : s.length ≤ 100000) : f_b3_l_forest_text x s = (M.pure (.nx (s ++ (")" : Str))) : M (O Str Str Str)) := by
  unfold f_b3_l_forest_text
  rw [gCatS_ok (by simp [lit_len]; omega)]
  simp only [NFL]
theorem gIx_lst {α : Type} {xs : List α} (d : α) (h : xs ≠ []) : gIx xs (-1) = some (xs.getD (xs.length - 1) d) := by
  have hp := List.length_pos_iff.mpr h
  have e : ixN xs.length (-1) = some (xs.length - 1) := by
    unfold ixN
    rw [if_neg (by omega), if_pos (by omega), show (-1 + (xs.length : Int)).toNat = xs.length - 1 by omega]
  have h2 : xs.length - 1 < xs.length := by omega
  show (ixN xs.length (-1)).bind _ = _
  rw [e, Option.bind_some, List.getD_eq_getElem?_getD, List.getElem?_eq_getElem h2]
  rfl
theorem lastD_gD {ns : List (Str × Nat)} (h : ns ≠ []) : lastD ns = (ns.getD (ns.length - 1) n0).2 := by
  obtain ⟨q, n, rfl⟩ : ∃ q n, ns = q ++ [n] := ⟨ns.dropLast, ns.getLast h, (List.dropLast_concat_getLast h).symm⟩
  rw [lastD_snoc]
  simp [List.getD_eq_getElem?_getD]
theorem take_n {ns : List (Str × Nat)} {k : Nat} (h0 : k ≠ 0) (hk : k < ns.length) : ns.take k ≠ [] := by
  intro q
  have := congrArg List.length q
  simp only [List.length_take, List.length_nil] at this
  omega
theorem lastD_tk {ns : List (Str × Nat)} {k : Nat} (h0 : k ≠ 0) (hk : k < ns.length) : lastD (ns.take k) = (ns.getD (k - 1) n0).2 := by
  have hne := take_n h0 hk
  rw [lastD_gD hne]
  have e : (ns.take k).length = k := by rw [List.length_take]; omega
  rw [e, List.getD_eq_getElem?_getD, List.getD_eq_getElem?_getD, List.getElem?_take_of_lt (by omega)]
theorem ixI {ns : List (Str × Nat)} {k : Nat} (h : k < ns.length) {i : Int} (hi : i = (k : Int)) : gIx (ns.map iNd) i = some (iNd (ns.getD k n0)) := by
  refine gIx_some hi ?_
  rw [List.getElem?_map, List.getD_eq_getElem?_getD, List.getElem?_eq_getElem h]
  rfl
theorem forest_text {ns : List (Str × Nat)} (hd : ∀ n ∈ ns, isMkS n.1 = true ∧ n.2 ≤ 13) (hl : ns.length ≤ 41) (hne : ns ≠ []) : f_l_forest_text (ns.map iNd) = M.pure (ft ns) ∧ (ft ns).length ≤ 23 * ns.length + 13 := by
  have hpos := List.length_pos_iff.mpr hne
  have l1 : ("(" : Str).length = 1 := by simp [lit_len]
  have l2 : ("," : Str).length = 1 := by simp [lit_len]
  have key : Ret (f_l_forest_text (ns.map iNd)) fun s => s = ft ns ∧ (ft ns).length ≤ 23 * ns.length + 13 := by
    unfold f_l_forest_text
    simp only [NFL, List.length_map, gR1_ok (j := (ns.length : Int)) (by omega), Int.toNat_natCast]
    refine Ret.runO (Ret.bindO (P := fun s => Tr ns s) ?_ ?_)
    · refine Ret.forR (fun k s => Tr (ns.take k) s) Tr.nil ?_ (fun s hs => by rw [List.take_length] at hs; exact hs)
      rintro k s hk ht
      have hmem := getD_mem (d := n0) hk
      generalize hx : ns.getD k n0 = n at hmem
      have hn := hd n hmem
      have hm8 := isMk_len hn.1
      have htl := ht.l
      rw [Sl_len, List.length_take] at htl
      have htd := ht.d
      have hsk : ns.take (k + 1) = ns.take k ++ [n] := by
        rw [List.take_succ_eq_append_getElem hk, ← hx, List.getD_eq_getElem?_getD, List.getElem?_eq_getElem hk]; rfl
      rw [hsk, show (0 : Int) + (k : Int) = (k : Int) by omega]
      have i0 := ixI hk (i := (k : Int)) rfl
      rw [hx] at i0
      unfold f_b1_l_forest_text
      by_cases hk0 : k = 0
      · subst hk0
        have d : decide (((0 : Nat) : Int) > 0) = false := by decide
        simp only [NFL, d, Bool.false_eq_true, if_false, i0]
        rw [gCatS_ok (by omega)]
        refine ⟨_, rfl, _, rfl, ?_⟩
        rw [List.take_zero, List.nil_append]
        refine Tr.one hn ?_
        have : Sl s = [] := by rw [ht.e]; rfl
        rw [Sl_add, this, List.nil_append]
      · have d : decide ((k : Int) > 0) = true := decide_eq_true (by omega)
        have i1 := ixI (k := k - 1) (ns := ns) (by omega) (i := (k : Int) - 1) (by omega)
        have hlast := lastD_tk hk0 hk
        generalize hy : ns.getD (k - 1) n0 = m at i1 hlast
        rw [hlast] at htd
        have hne2 := take_n hk0 hk
        by_cases hgt : m.2 < n.2
        · have d2 : decide ((n.2 : Int) > (m.2 : Int)) = true := decide_eq_true (by omega)
          have d3 : decide ((n.2 : Int) ≤ (m.2 : Int)) = false := decide_eq_false (by omega)
          simp only [NFL, d, if_true, i0, i1, d2, d3]
          rw [gCatS_ok (by omega)]
          simp only [NFL, Bool.false_eq_true, if_false]
          rw [gCatS_ok (by simp; omega)]
          refine ⟨_, rfl, _, rfl, ht.snoc hne2 hn ?_⟩
          simp only [Sl_add, s_open, sepF, hlast, hgt, if_true, List.append_assoc]
        · have d2 : decide ((n.2 : Int) > (m.2 : Int)) = false := decide_eq_false (by omega)
          have d3 : decide ((n.2 : Int) ≤ (m.2 : Int)) = true := decide_eq_true (by omega)
          simp only [NFL, d, if_true, i0, i1, d2, d3, Bool.false_eq_true, if_false, gR1_ok (j := (m.2 : Int) - (n.2 : Int)) (by omega), show ((m.2 : Int) - (n.2 : Int)).toNat = m.2 - n.2 by omega]
          refine Ret.bindO (P := fun s1 => Sl s1 = Sl s ++ (List.replicate (m.2 - n.2) 41 ++ [44])) ?_ ?_
          · refine Ret.bindO (P := fun s1 => Sl s1 = Sl s ++ List.replicate (m.2 - n.2) 41) (closeL (fun x s h => b2f x s h) (by omega)) ?_
            intro s1 hs1
            have hl1 := congrArg List.length hs1
            rw [List.length_append, List.length_replicate, Sl_len, Sl_len] at hl1
            rw [gCatS_ok (by omega)]
            simp only [NFL]
            exact ⟨_, rfl, _, rfl, by rw [Sl_add, hs1, s_comma, List.append_assoc]⟩
          · intro s1 hs1
            have hl1 := congrArg List.length hs1
            simp only [List.length_append, List.length_replicate, Sl_len, List.length_cons, List.length_nil] at hl1
            rw [gCatS_ok (by omega)]
            simp only [NFL]
            refine ⟨_, rfl, _, rfl, ht.snoc hne2 hn ?_⟩
            simp only [Sl_add, hs1, sepF, hlast, hgt, if_false, List.append_assoc]
    · intro s ht
      have htl := ht.l
      rw [Sl_len] at htl
      have htd := ht.d
      have d : decide ((ns.length : Int) > 0) = true := decide_eq_true (by omega)
      have i1 : gIx (ns.map iNd) (-(1 : Int)) = some (iNd (ns.getD (ns.length - 1) n0)) := by
        rw [gIx_lst (iNd n0) (by simpa using hne), List.length_map, List.getD_eq_getElem?_getD, List.getElem?_map, List.getD_eq_getElem?_getD, List.getElem?_eq_getElem (by omega)]
        rfl
      have hlast := lastD_gD hne
      have htd2 := htd
      rw [hlast] at htd2
      simp only [NFL, d, if_true, i1, gR1_ok (j := ((ns.getD (ns.length - 1) n0).2 : Int)) (by omega), Int.toNat_natCast]
      refine Ret.bindO (P := fun s1 => Sl s1 = Sl s ++ List.replicate (lastD ns) 41) ?_ ?_
      · rw [← hlast]
        refine Ret.bindO (P := fun s1 => Sl s1 = Sl s ++ List.replicate (lastD ns) 41) (closeL (fun x s h => b3f x s h) (by omega)) ?_
        intro s1 hs1
        exact ⟨_, rfl, _, rfl, hs1⟩
      · intro s1 hs1
        have e : s1 = ft ns := by
          apply Sl_inj
          rw [hs1, ht.e, ft, Sl_mk]
        refine ⟨_, rfl, _, rfl, e, ?_⟩
        rw [← e, ← Sl_len, hs1, List.length_append, List.length_replicate, Sl_len]
        omega
  obtain ⟨s, e, rfl, h⟩ := key
  exact ⟨e, h⟩

end PM
set_option maxHeartbeats 1000000
namespace PM
open PySem PySem.Spec PyProof.Rows L2
theorem rd_fo {y : Str} {b : List Nat} (hy : Sl y = Sl ("forest" : Str) ++ 32 :: b) (hb : 32 ∉ b) (hl : y.length ≤ 890) (hn : Ng (f_p_thing_of [("forest" : Str), mkS b])) : f_p_read_thing (.str y) = M.exc 7 :=
  rd_words (ws := [b]) (by rw [hy, Jw_cons _ (by simp)]; rfl) (by decide +kernel) (fun w hw => by rw [List.mem_singleton.mp hw]; exact hb) hl hn
theorem rd_nb {y : Str} {b : List Nat} (hy : Sl y = Sl ("forest" : Str) ++ 32 :: b) (hb : 32 ∉ b) (hl : y.length ≤ 890) (h : rn (b ++ [44]) ([], 0, [], false) = none ∨ b.count 40 ≠ b.count 41) : f_p_read_thing (.str y) = M.exc 7 := by
  have hbl : (mkS b).length ≤ 900 := by
    have := congrArg List.length hy
    rw [Sl_len, List.length_append, List.length_cons] at this
    simp
    omega
  refine rd_fo hy hb hl ?_
  rcases h with h | h
  · exact ng_none hbl (by rw [Sl_mk]; exact h)
  · exact ng_unb hbl (by rw [Sl_mk]; exact h)
theorem nb_sp2 : ∀ (r : List (Str × Nat)) (p : Nat), (∀ n ∈ r, isMkS n.1 = true) → 32 ∉ nb p r
  | [], _, _ => by simp [nb]
  | n :: r, p, h => by
    have h1 := (wd_mk (h n (by simp))).1.2
    have h2 := nb_sp2 r n.2 fun x hx => h x (List.mem_cons_of_mem _ hx)
    rw [nb]
    simp only [List.mem_append, not_or]
    refine ⟨⟨?_, h1⟩, h2⟩
    unfold sepF
    split
    · simp
    · simp [List.mem_replicate]
theorem ft_sp2 {ns : List (Str × Nat)} (h : ∀ n ∈ ns, isMkS n.1 = true) : 32 ∉ Sl (ft ns) := by
  unfold ft
  rw [Sl_mk]
  simp only [List.mem_append, not_or, List.mem_replicate]
  refine ⟨?_, by omega⟩
  cases ns with
  | nil => simp [pt]
  | cons n r =>
    rw [pt]
    simp only [List.mem_append, not_or]
    exact ⟨(wd_mk (h n (by simp))).1.2, nb_sp2 r _ fun x hx => h x (List.mem_cons_of_mem _ hx)⟩
theorem bal {ns : List (Str × Nat)} (h : NdOk 0 ns) (hne : ns ≠ []) (hl : ns.length ≤ 11) (hf : (ft ns).length ≤ 400) : (Sl (ft ns)).count 40 = (Sl (ft ns)).count 41 := by
  have e := read_nodes_ok h hne (by omega)
  rw [read_nodes_rn (by omega)] at e
  cases q : rn (Sl (ft ns) ++ [44]) ([], 0, [], false) with
  | none => rw [q] at e; exact absurd (congrFun e []) (fun z => by cases z)
  | some s =>
    rw [q] at e
    simp only at e
    by_cases h0 : s.2.1 = 0
    · have := rn_d _ q
      rw [List.count_append, List.count_append] at this
      simp at this
      omega
    · rw [if_neg h0] at e
      exact absurd (congrFun e []) (fun z => by cases z)
theorem let_cnt {m : Str} (hm : isMkS m = true) : (Sl m).count 40 = 0 ∧ (Sl m).count 41 = 0 := by
  have := (mk_letters hm).2
  exact ⟨List.count_eq_zero.mpr fun h => nl40' (this _ h), List.count_eq_zero.mpr fun h => nl41' (this _ h)⟩
theorem nb_deep (m : Str) : ∀ (j p : Nat), nb p ((List.range' (p + 1) j).map fun k => (m, k)) = (List.replicate j (40 :: Sl m)).flatten ∧ ld p ((List.range' (p + 1) j).map fun k => (m, k)) = p + j
  | 0, p => by simp [nb, ld]
  | j + 1, p => by
    obtain ⟨h1, h2⟩ := nb_deep m j (p + 1)
    rw [List.range'_succ, List.map_cons, nb, ld, List.replicate_succ, List.flatten_cons, h1, h2]
    refine ⟨?_, by omega⟩
    unfold sepF
    rw [if_pos (by omega)]
    simp
theorem run_deep {m : Str} (hm : isMkS m = true) : ∀ (j : Nat) (N : List (Str × Int)) (p : Nat) (rest : List Nat), ∃ N' : List (Str × Int), rn (Sl m ++ (List.replicate j (40 :: Sl m)).flatten ++ rest) (N, (p : Int), [], false) = rn rest (N', ((p + j : Nat) : Int), Sl m, false)
  | 0, N, p, rest => ⟨N, by
    rw [List.replicate_zero, List.flatten_nil, List.append_nil, rn_app, rn_lets _ _ _ _ (mk_letters hm).2]
    rfl⟩
  | j + 1, N, p, rest => by
    obtain ⟨N', e⟩ := run_deep hm j (N ++ [(m, (p : Int))]) (p + 1) rest
    refine ⟨N', ?_⟩
    have hne := (mk_letters hm).1
    have e1 : stp 40 (N, (p : Int), Sl m, false) = some (N ++ [(m, (p : Int))], ((p + 1 : Nat) : Int), [], false) := by
      unfold stp
      rw [if_neg (fun z => nl40' z.1), if_neg (by simp), if_neg (fun z => hne z.1)]
      simp only [dlt, if_true]
      rw [if_neg (by omega), if_neg hne, mk_Sl]
      rfl
    have e2 : Sl m ++ (List.replicate (j + 1) (40 :: Sl m)).flatten ++ rest = Sl m ++ (40 :: (Sl m ++ (List.replicate j (40 :: Sl m)).flatten ++ rest)) := by
      rw [List.replicate_succ, List.flatten_cons]
      simp
    rw [e2, rn_app, rn_lets _ _ _ _ (mk_letters hm).2, List.nil_append, Option.bind_some, rn, e1, Option.bind_some, e, show p + 1 + j = p + (j + 1) by omega]
def deepN (m : Str) : List (Str × Nat) := (List.range 14).map fun k => (m, k)
theorem deepN_eq (m : Str) : deepN m = (m, 0) :: (List.range' (0 + 1) 13).map fun k => (m, k) := by
  unfold deepN
  rw [List.range_eq_range', List.range'_succ, List.map_cons]
theorem ng_deep {m : Str} (hm : isMkS m = true) (hl : (ft (deepN m)).length ≤ 900) : Ng (f_p_thing_of [("forest" : Str), ft (deepN m)]) := by
  refine ng_body' hl fun s e _ => ?_
  have e1 : Sl (ft (deepN m)) = Sl m ++ (List.replicate 13 (40 :: Sl m)).flatten ++ List.replicate 13 41 := by
    unfold ft
    rw [Sl_mk, deepN_eq, pt, lastD, (nb_deep m 13 0).1, (nb_deep m 13 0).2]
  rw [e1, List.append_assoc] at e
  obtain ⟨N', e2⟩ := run_deep hm 13 [] 0 (List.replicate 13 41 ++ [44])
  rw [show (0 : Int) = ((0 : Nat) : Int) from rfl, e2] at e
  have hne := (mk_letters hm).1
  have e3 : stp 41 (N', ((0 + 13 : Nat) : Int), Sl m, false) = some (N' ++ [(m, ((13 : Nat) : Int))], ((12 : Nat) : Int), [], true) := by
    unfold stp
    rw [if_neg (fun z => nl41' z.1), if_neg (by simp), if_neg (fun z => hne z.1)]
    have d : dlt 41 = -1 := rfl
    rw [d, if_neg (by simp), if_neg hne]
    simp
  rw [show List.replicate 13 41 ++ [44] = 41 :: (List.replicate 12 41 ++ [44]) from rfl, rn, e3, Option.bind_some] at e
  obtain ⟨more, e4⟩ := rn_grow _ e
  exact .inr ⟨(m, ((13 : Nat) : Int)), by rw [e4]; simp, .inr (by show (12 : Int) < ((13 : Nat) : Int); omega)⟩
def altN (m : Str) : List (Str × Nat) := (List.range 41).map fun k => (m, k % 2)
theorem alt_ok {m : Str} (hm : isMkS m = true) : ∀ (j k b : Nat), k % 2 ≤ b → NdOk b ((List.range' k j).map fun k => (m, k % 2))
  | 0, _, _, _ => trivial
  | j + 1, k, b, h => by
    rw [List.range'_succ, List.map_cons]
    exact ⟨hm, h, alt_ok hm j (k + 1) _ (by simp only; omega)⟩
theorem read_nodes_41 {ns : List (Str × Nat)} (h : NdOk 0 ns) (hne : ns ≠ []) (hl : ns.length ≤ 41) (hfl : (ft ns).length ≤ 5000) : f_p_read_nodes (ft ns) = M.pure (ns.map iNd) := by
  have l2 : ("," : Str).length = 1 := by simp [lit_len]
  cases ns with
  | nil => exact absurd rfl hne
  | cons n r =>
    obtain ⟨h1, h2, h3⟩ := h
    rw [List.length_cons] at hl
    have hz : n.2 = 0 := by omega
    have hm := mk_letters h1
    unfold f_p_read_nodes
    rw [gCatS_ok (by omega)]
    have e : Sl (ft (n :: r) ++ ("," : Str)) = Sl n.1 ++ (nb n.2 r ++ (List.replicate (ld n.2 r) 41 ++ [44])) := by
      rw [Sl_add, s_comma, ft, Sl_mk, pt, lastD]
      simp only [List.append_assoc]
    have hle := run_let (τ' := Unit) (Sl n.1) (nb n.2 r ++ (List.replicate (ld n.2 r) 41 ++ [44])) [] (0 : Int) [] hm.2 (by rw [Sl_len]; have := isMk_len h1; simp only [List.length_nil]; omega)
    have ih := run_nb (τ' := Unit) r n.2 (min (n.2 + 1) 12) n.1 [] h1 (by omega) (by omega) h3 (by simp only [List.length_nil]; omega)
    have key : F4 Unit (Sl n.1 ++ (nb n.2 r ++ (List.replicate (ld n.2 r) 41 ++ [44]))) ([], (0 : Int), ("" : Str), false) = M.pure (.nx ((n :: r).map iNd, (0 : Int), ("" : Str), false)) := by
      rw [mk_nil, hle, List.nil_append, mk_Sl, ← mk_nil]
      have e0 : ((n.2 : Nat) : Int) = 0 := by omega
      rw [e0] at ih
      rw [ih]
      simp only [List.nil_append, List.map_cons, iNd, hz]
      rfl
    have key2 : forO (τ' := Unit) (fun x (s : R4) => f_b1_p_read_nodes x s.1 s.2.1 s.2.2.1 s.2.2.2) (Sl n.1 ++ (nb n.2 r ++ (List.replicate (ld n.2 r) 41 ++ [44]))) ([], (0 : Int), ("" : Str), false) = _ := key
    simp only [NFL, e, key2, decide_true, Bool.not_true, Bool.false_eq_true, if_false]
theorem ng_alt {m : Str} (hm : isMkS m = true) (hl : (ft (altN m)).length ≤ 5000) : Ng (f_p_thing_of [("forest" : Str), ft (altN m)]) := by
  refine ng_forest ?_
  have h : NdOk 0 (altN m) := by
    unfold altN
    rw [List.range_eq_range']
    exact alt_ok hm 41 0 0 (by decide)
  rw [read_nodes_41 h (by simp [altN]) (by simp [altN]) hl, M.pure_bind, nodes_bad (N := (altN m).map iNd) (fun n hn => ?_) (.inl (by simp [altN]))]
  · exact .inr rfl
  · obtain ⟨x, hx, rfl⟩ := List.mem_map.mp hn
    unfold altN at hx
    obtain ⟨k, _, rfl⟩ := List.mem_map.mp hx
    have := isMk_len hm
    simp only
    omega
theorem Bad.none {x y : Nat} (hb : Bad x y) (P S : List Nat) : rn ((P ++ x :: y :: S) ++ [44]) ([], 0, [], false) = none := by
  have := rn_bad hb P (S ++ [44]) ([], 0, [], false)
  simpa using this
def sg (i : Nat) : Nat := if i = 0 then 40 else if i = 1 then 41 else 44
theorem sg_at {i : Int} (h : 0 ≤ i ∧ i < 3) : gIxS ("()," : Str) i = some (sg i.toNat) := by
  rcases (by omega : i = 0 ∨ i = 1 ∨ i = 2) with rfl | rfl | rfl <;> decide +kernel
theorem sg_in (i : Nat) : sg i = 40 ∨ sg i = 44 ∨ sg i = 41 := by
  unfold sg
  split
  · exact .inl rfl
  · split
    · exact .inr (.inr rfl)
    · exact .inr (.inl rfl)
theorem two_bad {F1 F2 : List Nat} (hb : (F1 ++ F2).count 40 = (F1 ++ F2).count 41) (a b : Nat) (ha : a = 40 ∨ a = 44 ∨ a = 41) (hb2 : b = 40 ∨ b = 44 ∨ b = 41) : rn ((F1 ++ a :: b :: F2) ++ [44]) ([], 0, [], false) = none ∨ (F1 ++ a :: b :: F2).count 40 ≠ (F1 ++ a :: b :: F2).count 41 := by
  rw [List.count_append, List.count_append] at hb
  rcases ha with rfl | rfl | rfl
  · exact .inl (Bad.none (.inl ⟨.inl rfl, hb2⟩) _ _)
  · exact .inl (Bad.none (.inl ⟨.inr rfl, hb2⟩) _ _)
  · rcases hb2 with rfl | rfl | rfl
    · exact .inl (Bad.none (.inr ⟨rfl, .inl rfl⟩) _ _)
    · right
      rw [List.count_append, List.count_append]
      simp
      omega
    · right
      rw [List.count_append, List.count_append]
      simp
      omega
theorem Sl_fo : Sl ("forest " : Str) = Sl ("forest" : Str) ++ [32] := by decide +kernel
theorem no32 {m : Str} (hm : isMkS m = true) : 32 ∉ Sl m := (wd_mk hm).1.2
theorem wf_5 {x m : Str} {F : List Nat} (hx : Sl x = Sl ("forest" : Str) ++ 32 :: F) (hF : 32 ∉ F) (hl : x.length ≤ 400) (hm : isMkS m = true) {i : Int} (hi : 0 ≤ i ∧ i < 6) : ∃ z, gIx [("()" : Str), ("," : Str), (",()" : Str), ("(,)" : Str), ("(" : Str) ++ m ++ (",)" : Str), ("(" : Str) ++ m ++ (")" : Str) ++ m] i = some z ∧ z.length ≤ 20 ∧ f_p_read_thing (.str (x ++ z)) = M.exc 7 := by
  have hml := isMk_len hm
  have h32 := no32 hm
  have go : ∀ {z : Str} {Z : List Nat}, z.length ≤ 20 → Sl z = Z → 32 ∉ Z → rn ((F ++ Z) ++ [44]) ([], 0, [], false) = none → f_p_read_thing (.str (x ++ z)) = M.exc 7 := fun {z Z} hz e h1 h2 => rd_nb (b := F ++ Z) (by rw [Sl_add, hx, e]; simp) (by simp only [List.mem_append, not_or]; exact ⟨hF, h1⟩) (by simp; omega) (.inl h2)
  rcases (by omega : i = 0 ∨ i = 1 ∨ i = 2 ∨ i = 3 ∨ i = 4 ∨ i = 5) with rfl | rfl | rfl | rfl | rfl | rfl
  · exact ⟨_, gIx_some (n := 0) rfl rfl, by decide +kernel, go (Z := [40, 41]) (by decide +kernel) (by decide +kernel) (by decide) (Bad.none (.inl ⟨.inl rfl, by decide⟩) F [])⟩
  · refine ⟨_, gIx_some (n := 1) rfl rfl, by decide +kernel, go (Z := [44]) (by decide +kernel) (by decide +kernel) (by decide) ?_⟩
    have := rn_bad (x := 44) (y := 44) (.inl ⟨.inr rfl, by decide⟩) F [] ([], 0, [], false)
    simpa using this
  · exact ⟨_, gIx_some (n := 2) rfl rfl, by decide +kernel, go (Z := [44, 40, 41]) (by decide +kernel) (by decide +kernel) (by decide) (Bad.none (.inl ⟨.inr rfl, by decide⟩) F [41])⟩
  · exact ⟨_, gIx_some (n := 3) rfl rfl, by decide +kernel, go (Z := [40, 44, 41]) (by decide +kernel) (by decide +kernel) (by decide) (Bad.none (.inl ⟨.inl rfl, by decide⟩) F [41])⟩
  · have hz : (("(" : Str) ++ m ++ (",)" : Str)).length ≤ 20 := by simp [lit_len]; omega
    refine ⟨_, gIx_some (n := 4) rfl rfl, hz, go (Z := 40 :: Sl m ++ [44, 41]) hz ?_ ?_ ?_⟩
    · rw [Sl_add, Sl_add, s_open, show Sl (",)" : Str) = [44, 41] by decide +kernel]; rfl
    · simp [h32]
    · have := Bad.none (x := 44) (y := 41) (.inl ⟨.inr rfl, by decide⟩) (F ++ 40 :: Sl m) []
      simpa using this
  · have hz : (("(" : Str) ++ m ++ (")" : Str) ++ m).length ≤ 20 := by simp [lit_len]; omega
    obtain ⟨h1, h2⟩ := mk_letters hm
    obtain ⟨a, t, hat⟩ : ∃ a t, Sl m = a :: t := by
      cases q : Sl m with
      | nil => exact absurd q h1
      | cons a t => exact ⟨a, t, rfl⟩
    refine ⟨_, gIx_some (n := 5) rfl rfl, hz, go (Z := 40 :: Sl m ++ 41 :: Sl m) hz ?_ ?_ ?_⟩
    · rw [Sl_add, Sl_add, Sl_add, s_open, s_close]; simp
    · simp [h32]
    · have := Bad.none (x := 41) (y := a) (.inr ⟨rfl, .inr (h2 a (by rw [hat]; simp))⟩) (F ++ 40 :: Sl m) t
      rw [hat] at this ⊢
      simpa using this
theorem wf_6 {m : Str} (hm : isMkS m = true) {i : Int} (hi : 0 ≤ i ∧ i < 6) : ∃ z, gIx [("(" : Str), ("," : Str), (")" : Str), ("()" : Str), ("," : Str) ++ m, ("(" : Str) ++ m ++ (")" : Str)] i = some z ∧ z.length ≤ 20 ∧ f_p_read_thing (.str (("forest " : Str) ++ z)) = M.exc 7 := by
  have hml := isMk_len hm
  have h32 := no32 hm
  have l7 : ("forest " : Str).length = 7 := by decide +kernel
  have go : ∀ {z : Str} {y : Nat} {Z : List Nat}, z.length ≤ 20 → Sl z = y :: Z → 32 ∉ y :: Z → (y = 40 ∨ y = 44 ∨ y = 41) → f_p_read_thing (.str (("forest " : Str) ++ z)) = M.exc 7 := fun {z y Z} hz e h1 h2 => rd_nb (b := y :: Z) (by rw [Sl_add, Sl_fo, e]; simp) h1 (by simp; omega) (.inl (by rw [List.cons_append]; exact rn_first h2 _))
  rcases (by omega : i = 0 ∨ i = 1 ∨ i = 2 ∨ i = 3 ∨ i = 4 ∨ i = 5) with rfl | rfl | rfl | rfl | rfl | rfl
  · exact ⟨_, gIx_some (n := 0) rfl rfl, by decide +kernel, go (y := 40) (Z := []) (by decide +kernel) (by decide +kernel) (by decide) (by decide)⟩
  · exact ⟨_, gIx_some (n := 1) rfl rfl, by decide +kernel, go (y := 44) (Z := []) (by decide +kernel) (by decide +kernel) (by decide) (by decide)⟩
  · exact ⟨_, gIx_some (n := 2) rfl rfl, by decide +kernel, go (y := 41) (Z := []) (by decide +kernel) (by decide +kernel) (by decide) (by decide)⟩
  · exact ⟨_, gIx_some (n := 3) rfl rfl, by decide +kernel, go (y := 40) (Z := [41]) (by decide +kernel) (by decide +kernel) (by decide) (by decide)⟩
  · have hz : (("," : Str) ++ m).length ≤ 20 := by simp [lit_len]; omega
    exact ⟨_, gIx_some (n := 4) rfl rfl, hz, go (y := 44) (Z := Sl m) hz (by rw [Sl_add, s_comma]; rfl) (by simp [h32]) (by decide)⟩
  · have hz : (("(" : Str) ++ m ++ (")" : Str)).length ≤ 20 := by simp [lit_len]; omega
    exact ⟨_, gIx_some (n := 5) rfl rfl, hz, go (y := 40) (Z := Sl m ++ [41]) hz (by rw [Sl_add, Sl_add, s_open, s_close]; rfl) (by simp [h32]) (by decide)⟩
theorem wf_ok {ns : List (Str × Nat)} (h : NdOk 0 ns) (hne : ns ≠ []) (hl : ns.length ≤ 11) {m : Str} (hm : isMkS m = true) (c : Int) : ∃ y, f_l_wrong_forest (ns.map iNd) c m = M.pure y ∧ f_p_read_thing (.str y) = M.exc 7 := by
  have hd := NdOk.le (by omega) h
  obtain ⟨et, hfl⟩ := forest_text (ns := ns) (fun n hn => ⟨(hd n hn).1, by have := (hd n hn).2; omega⟩) (by omega) hne
  have hfl2 : (ft ns).length ≤ 300 := by omega
  have hb := bal h hne hl (by omega)
  have h32 := ft_sp h
  have hml := isMk_len hm
  have hm32 := no32 hm
  have l7 : ("forest " : Str).length = 7 := by decide +kernel
  have hx : Sl (("forest " : Str) ++ ft ns) = Sl ("forest" : Str) ++ 32 :: Sl (ft ns) := by rw [Sl_add, Sl_fo]; simp
  have hxl : (("forest " : Str) ++ ft ns).length = 7 + (ft ns).length := by simp [l7]
  obtain ⟨lc1, lc2⟩ := let_cnt hm
  unfold f_l_wrong_forest
  simp only [NFL, et, gCatS_ok (x := ("forest " : Str)) (y := ft ns) (by omega), gLenS_ok (x := ("forest " : Str) ++ ft ns) (by omega), gMod_ok (i := c / 9) (j := ((("forest " : Str) ++ ft ns).length : Int) - 6) (by omega)]
  obtain ⟨k, hk⟩ : ∃ k : Nat, (k : Int) = 7 + c / 9 % (((("forest " : Str) ++ ft ns).length : Int) - 6) := ⟨(7 + c / 9 % (((("forest " : Str) ++ ft ns).length : Int) - 6)).toNat, by
    have : 0 ≤ c / 9 % (((("forest " : Str) ++ ft ns).length : Int) - 6) := Int.emod_nonneg _ (by omega)
    omega⟩
  have hk1 : 7 ≤ k ∧ k ≤ (("forest " : Str) ++ ft ns).length := by
    have h1 : 0 ≤ c / 9 % (((("forest " : Str) ++ ft ns).length : Int) - 6) := Int.emod_nonneg _ (by omega)
    have h2 : c / 9 % (((("forest " : Str) ++ ft ns).length : Int) - 6) < ((("forest " : Str) ++ ft ns).length : Int) - 6 := Int.emod_lt_of_pos _ (by omega)
    omega
  rw [← hk]
  generalize hX : ("forest " : Str) ++ ft ns = x at *
  by_cases c3 : c % 9 < 3
  · have h2 := cutS_halves x (k : Int) (by omega)
    simp only [NFL, decide_eq_true c3, if_true, sg_at (i := c % 9) (by omega), sg_at (i := c / 9 % 3) (by omega), gCutS_ok (x := x) (show x.length ≤ 1000000 by omega)]
    rw [gCatS_ok (by simp; omega)]; simp only [NFL]
    rw [gCatS_ok (by simp; omega)]; simp only [NFL]
    rw [gCatS_ok (by simp; omega)]; simp only [NFL]
    have e7 : (Sl ("forest" : Str) ++ [32]).length = 7 := by decide +kernel
    have hx2 : Sl x = (Sl ("forest" : Str) ++ [32]) ++ Sl (ft ns) := by rw [hx]; simp
    refine ⟨_, rfl, rd_nb (b := (Sl (ft ns)).take (k - 7) ++ sg (c % 9).toNat :: sg (c / 9 % 3).toNat :: (Sl (ft ns)).drop (k - 7)) ?_ ?_ (by simp; omega) (two_bad (by rw [List.take_append_drop]; exact hb) _ _ (sg_in _) (sg_in _))⟩
    · rw [Sl_add, Sl_add, Sl_add, cutS_pre hk1.2, cutS_suf hk1.2, hx2, List.take_append, List.drop_append, e7, List.take_of_length_le (by omega), List.drop_eq_nil_of_le (by omega), show Sl (S1 (sg (c % 9).toNat)) = [sg (c % 9).toNat] from rfl, show Sl (S1 (sg (c / 9 % 3).toNat)) = [sg (c / 9 % 3).toNat] from rfl]
      simp
    · simp only [List.mem_append, List.mem_cons, not_or]
      refine ⟨fun q => h32 (List.mem_of_mem_take q), ?_, ?_, fun q => h32 (List.mem_of_mem_drop q)⟩
      · rcases sg_in (c % 9).toNat with e | e | e <;> rw [e] <;> decide
      · rcases sg_in (c / 9 % 3).toNat with e | e | e <;> rw [e] <;> decide
  simp only [NFL, decide_eq_false c3, Bool.false_eq_true, if_false]
  by_cases c4 : c % 9 = 3
  · simp only [NFL, decide_eq_true c4, if_true]
    rw [gCatS_ok (by simp [lit_len]; omega)]; simp only [NFL]
    rw [gCatS_ok (by simp [lit_len]; omega)]; simp only [NFL]
    refine ⟨_, rfl, rd_nb (b := Sl (ft ns) ++ 40 :: Sl m) (by rw [Sl_add, Sl_add, hx, s_open]; simp) ?_ (by simp [lit_len]; omega) (.inr ?_)⟩
    · simp only [List.mem_append, List.mem_cons, not_or]
      exact ⟨h32, by decide, hm32⟩
    · rw [List.count_append, List.count_append, List.count_cons, List.count_cons, lc1, lc2]
      simp
      omega
  simp only [NFL, decide_eq_false c4, Bool.false_eq_true, if_false]
  by_cases c5 : c % 9 = 4
  · simp only [NFL, decide_eq_true c5, if_true]
    rw [gCatS_ok (by simp [lit_len]; omega)]; simp only [NFL]
    refine ⟨_, rfl, rd_nb (b := Sl (ft ns) ++ [41]) (by rw [Sl_add, hx, s_close]; simp) ?_ (by simp [lit_len]; omega) (.inr ?_)⟩
    · simp only [List.mem_append, List.mem_singleton, not_or]
      exact ⟨h32, by decide⟩
    · rw [List.count_append, List.count_append]
      simp
      omega
  simp only [NFL, decide_eq_false c5, Bool.false_eq_true, if_false]
  have cat2 : ∀ {γ : Type} (a b : Str) (k : Str → M γ), a.length + b.length ≤ 1000 → (M.bind (M.opt (gCatS a b)) k) = k (a ++ b) := fun a b k h => by
    rw [gCatS_ok (by omega)]; simp only [NFL]
  have lo : ("(" : Str).length = 1 := by decide +kernel
  have lc : (")" : Str).length = 1 := by decide +kernel
  have lcc : (",)" : Str).length = 2 := by decide +kernel
  have lm : ("," : Str).length = 1 := by decide +kernel
  by_cases c6 : c % 9 = 5
  · obtain ⟨z, e, hz, hr⟩ := wf_5 hx h32 (by omega) hm (i := c / 9 % 6) (by omega)
    simp only [NFL, decide_eq_true c6, if_true]
    rw [cat2 _ _ _ (by omega)]
    rw [cat2 _ _ _ (by simp; omega)]
    rw [cat2 _ _ _ (by omega)]
    rw [cat2 _ _ _ (by simp; omega)]
    rw [cat2 _ _ _ (by simp; omega)]
    simp only [NFL, e]
    rw [cat2 _ _ _ (by omega)]
    exact ⟨_, rfl, hr⟩
  simp only [NFL, decide_eq_false c6, Bool.false_eq_true, if_false]
  by_cases c7 : c % 9 = 6
  · obtain ⟨z, e, hz, hr⟩ := wf_6 hm (i := c / 9 % 6) (by omega)
    simp only [NFL, decide_eq_true c7, if_true]
    rw [cat2 _ _ _ (by omega)]
    rw [cat2 _ _ _ (by omega)]
    rw [cat2 _ _ _ (by simp; omega)]
    simp only [NFL, e]
    rw [cat2 _ _ _ (by omega)]
    exact ⟨_, rfl, hr⟩
  simp only [NFL, decide_eq_false c7, Bool.false_eq_true, if_false]
  by_cases c8 : c % 9 = 7
  · obtain ⟨e1, e2⟩ := forest_text (ns := deepN m) (fun n hn => by
      unfold deepN at hn
      obtain ⟨j, hj, rfl⟩ := List.mem_map.mp hn
      exact ⟨hm, by have := List.mem_range.mp hj; simp only; omega⟩) (by simp [deepN]) (by simp [deepN])
    have hlen : (deepN m).length = 14 := by simp [deepN]
    rw [hlen] at e2
    have el : lcO (fun (_ : Int) => M.pure true) (fun (x43 : Int) => M.pure (m, x43)) (rngI 0 14) [] = M.pure ((deepN m).map iNd) := by
      rw [lc_map' (fun x => (m, x)) (fun _ _ => rfl) (by rw [rngI_len]; omega)]
      unfold rngI deepN
      rw [List.map_map, List.map_map]
      refine congrArg M.pure (List.map_congr_left fun j _ => ?_)
      simp [iNd]
    simp only [NFL, decide_eq_true c8, if_true, gR1_ok (j := (14 : Int)) (by omega), show (14 : Int).toNat = 14 from rfl]
    rw [el]
    simp only [NFL, e1]
    rw [cat2 _ _ _ (by omega)]
    refine ⟨_, rfl, rd_fo (b := Sl (ft (deepN m))) (by rw [Sl_add, Sl_fo]; simp) (ft_sp2 fun n hn => ?_) (by simp; omega) (by rw [mk_Sl]; exact ng_deep hm (by omega))⟩
    unfold deepN at hn
    obtain ⟨j, hj, rfl⟩ := List.mem_map.mp hn
    exact hm
  · obtain ⟨e1, e2⟩ := forest_text (ns := altN m) (fun n hn => by
      unfold altN at hn
      obtain ⟨j, hj, rfl⟩ := List.mem_map.mp hn
      exact ⟨hm, by simp only; omega⟩) (by simp [altN]) (by simp [altN])
    have hlen : (altN m).length = 41 := by simp [altN]
    rw [hlen] at e2
    have el : lcO (fun (_ : Int) => M.pure true) (fun (x48 : Int) => M.pure (m, x48 % (2 : Int))) (rngI 0 41) [] = M.pure ((altN m).map iNd) := by
      rw [lc_map' (fun x => (m, x % 2)) (fun _ _ => rfl) (by rw [rngI_len]; omega)]
      unfold rngI altN
      rw [List.map_map, List.map_map]
      refine congrArg M.pure (List.map_congr_left fun j _ => ?_)
      simp [iNd]
    simp only [NFL, decide_eq_false c8, Bool.false_eq_true, if_false, gR1_ok (j := (41 : Int)) (by omega), show (41 : Int).toNat = 41 from rfl]
    rw [el]
    simp only [NFL, e1]
    rw [cat2 _ _ _ (by omega)]
    refine ⟨_, rfl, read_ng (ws := [("forest" : Str), ft (altN m)]) (split_ws (by rw [Sl_add, Sl_fo]; simp [Jw]) (by simp) (fun w hw => ?_) (by simp; omega)) (ng_alt hm (by omega))⟩
    simp only [List.mem_cons, List.not_mem_nil, or_false] at hw
    rcases hw with rfl | rfl
    · decide +kernel
    · refine ft_sp2 fun n hn => ?_
      unfold altN at hn
      obtain ⟨j, hj, rfl⟩ := List.mem_map.mp hn
      exact hm

end PM
set_option maxHeartbeats 1000000
namespace PM
open PySem PySem.Spec PyProof.Rows L2
theorem six36 : MksOk [("table" : Str), ("forest" : Str), ("row" : Str), ("not" : Str), ("many" : Str), ("has" : Str)] := by
  intro m hm
  simp only [List.mem_cons, List.not_mem_nil, or_false] at hm
  rcases hm with rfl | rfl | rfl | rfl | rfl | rfl <;> decide +kernel
theorem nodes_len {cs : List Int} {ms : List Str} (h : 0 < ms.length) (hm : MksOk ms) (hc : cs.length ≤ 40) : Ret (f_l_nodes cs ms) fun l => ∃ ns : List (Str × Nat), l = ns.map iNd ∧ NdOk 0 ns ∧ ns.length = cs.length := by
  unfold f_l_nodes
  have e0 : ∃ p, (if (decide ((cs.length : Int) > 0)) = true then (M.bind (M.bind (M.opt (gIx cs 0)) fun t1 => M.pure (t1 % 8)) fun t2 => M.pure (decide (t2 = 5))) else M.pure false) = M.pure p := by
    by_cases h0 : (cs.length : Int) > 0
    · exact ⟨_, by simp only [NFL, h0, decide_true, if_true, gIx_getD 0 (xs := cs) (i := 0) (by omega)]; rfl⟩
    · exact ⟨_, by simp only [NFL, h0, decide_false, Bool.false_eq_true, if_false]; rfl⟩
  obtain ⟨p, e0⟩ := e0
  rw [M.pure_bind, M.pure_bind, e0]
  simp only [NFL]
  refine Ret.runO (Ret.bindO (P := fun s => ∃ ns : List (Str × Nat), s.1 = ns.map iNd ∧ NdOk 0 ns ∧ ns.length = cs.length) ?_ fun s hs => ⟨_, rfl, _, rfl, hs⟩)
  refine Ret.forN (fun k s => ∃ (ns : List (Str × Nat)) (dp : Nat), s = (ns.map iNd, (dp : Int)) ∧ NdOk 0 ns ∧ dp = (match ns.getLast? with | some n => min (n.2 + 1) 12 | none => 0) ∧ ns.length = k) ⟨[], 0, rfl, trivial, rfl, rfl⟩ ?_ ?_
  · rintro k x s hk ⟨ns, dp, rfl, h1, h2, h3⟩
    have hk2 := (List.getElem?_eq_some_iff.mp hk).1
    have hd : dp ≤ 12 := by rw [h2]; split <;> omega
    have hpk := pickM_ok x h hm
    unfold f_b1_l_nodes
    simp only [NFL, gMod_ok (show (0 : Int) < (dp : Int) + 1 by omega)]
    have hx := emod_in (x / 14) (show 0 < dp + 1 by omega)
    push_cast at hx
    refine Ret.bindO (P := fun s : Int => ∃ d : Nat, s = (d : Int) ∧ d ≤ dp) ?_ ?_
    · refine Ret.ite (fun _ => ⟨_, rfl, _, rfl, dp, rfl, by omega⟩) (fun _ => ⟨_, rfl, _, rfl, (x / 14 % ((dp : Int) + 1)).toNat, by omega, by omega⟩)
    · rintro _ ⟨d, rfl, hdd⟩
      simp only [NFL, pick_ok h, gApp_ok (xs := ns.map iNd) (x := (pickM x ms, (d : Int))) (by simp; omega)]
      refine ⟨_, rfl, _, rfl, ns ++ [(pickM x ms, d)], min (d + 1) 12, ?_, h1.snoc hpk (Nat.le_trans hdd (Nat.le_of_eq h2)), by simp, by simp [h3]⟩
      rw [List.map_append]
      congr 1
      unfold min2
      split <;> omega
  · rintro s ⟨ns, dp, rfl, h1, h2, h3⟩
    exact ⟨ns, rfl, h1, h3⟩
def Rt3 (s : Str × D × D) : Prop := (∃ h R, TW s.1 h R) ∧ f_p_read_thing s.2.2 = M.exc 7 ∧ ∃ d f, f_p_read_thing (.str s.1) = M.pure d ∧ methM "form" mt_form resF d (M.pure []) = M.pure f ∧ D.eq? f s.2.1 = some true
theorem row_part {row : List Str} (hm : MksOk row) (hl : 1 ≤ row.length ∧ row.length ≤ 11) {w : D} (hw : f_p_read_thing w = M.exc 7) : Rt3 (Txt.join (" " : Str) (("row" : Str) :: row), eP2 D.str (eTL D.str) (("row" : Str), row), w) := by
  have hok : (Th.row row).Ok := ⟨hm, by omega⟩
  have hne : row ≠ [] := fun e => by rw [e] at hl; simp at hl
  refine ⟨⟨("row" : Str), row.map Sl, ⟨Sl_join row _, by simpa using hne, fun w hw => ?_, .inl rfl, fun e => absurd e (by decide +kernel), ?_⟩⟩, hw, _, _, read_ok (t := .row row) trivial hok, m_form_R row, ?_⟩
  · obtain ⟨x, hx, rfl⟩ := List.mem_map.mp hw
    exact ⟨no32 (hm x hx), (mk_letters (hm x hx)).1⟩
  · have := join_len (B := 8) (ws := ("row" : Str) :: row) fun w hw => by
      rcases List.mem_cons.mp hw with rfl | hw
      · decide +kernel
      · exact isMk_len (hm w hw)
    rw [List.length_cons] at this
    simp only
    omega
  · have : eP2 D.str (eTL D.str) (("row" : Str), row) = dvRowForm row := rfl
    rw [this]
    exact eq_same (Th.form_pl (.row row))
theorem table_part {ls : List (List Str)} {w : Nat} (tl : Tl ls w) {x : D} (hx : f_p_read_thing x = M.exc 7) : Rt3 ((Th.table ls w).text, eP3 D.str D.int (eTL (eTL D.str)) (("table" : Str), ((w : Int)), ls), x) := by
  obtain ⟨w1, w3⟩ := tl.w1
  have hmk : ∀ l ∈ ls, MksOk l := fun l hl => (tl.li l hl).2
  have hok : (Th.table ls w).Ok := ⟨by have := tl.n; omega, by omega, tl.li⟩
  have hwne : wl ls ≠ [] := by
    obtain ⟨l0, r, hls⟩ : ∃ l0 r, ls = l0 :: r := by
      cases h : ls with
      | nil => exact absurd h tl.ne
      | cons a b => exact ⟨a, b, rfl⟩
    intro e
    have h2 := (run_lines r l0 [] (by rw [← hls]; exact hmk)).2.1
    rw [← hls, e] at h2
    exact h2 rfl
  have hfr : ∀ w ∈ wl ls, 32 ∉ Sl w ∧ Sl w ≠ [] := by
    have hlw : ∀ l ∈ ls, lw l = l := fun l hl => lw_ne (ne_of (by rw [(tl.li l hl).1]; exact w1))
    have go : ∀ ls : List (List Str), (∀ l ∈ ls, MksOk l ∧ lw l = l) → ∀ w ∈ wl ls, 32 ∉ Sl w ∧ Sl w ≠ [] := fun ls => by
      induction ls with
      | nil => intro _ w hw; cases hw
      | cons l r ih =>
        intro h w hw
        have hl := h l (by simp)
        have one : ∀ w ∈ l, 32 ∉ Sl w ∧ Sl w ≠ [] := fun w hw => ⟨no32 (hl.1 w hw), (mk_letters (hl.1 w hw)).1⟩
        cases r with
        | nil =>
          have hw : w ∈ lw l := hw
          rw [hl.2] at hw
          exact one w hw
        | cons l2 r =>
          have hw : w ∈ lw l ++ ("/" : Str) :: wl (l2 :: r) := hw
          rw [hl.2] at hw
          rcases List.mem_append.mp hw with hw | hw
          · exact one w hw
          · rcases List.mem_cons.mp hw with rfl | hw
            · exact ⟨by decide +kernel, by decide +kernel⟩
            · exact ih (fun x hx => h x (List.mem_cons_of_mem _ hx)) w hw
    exact go ls fun l hl => ⟨hmk l hl, hlw l hl⟩
  have hrd := read_ok (t := .table ls w) trivial hok
  rw [show (Th.table ls w).back = .table ls w by show Th.table ls (if ls = [] then 0 else w) = _; rw [if_neg tl.ne]] at hrd
  refine ⟨⟨("table" : Str), (wl ls).map Sl, ⟨Sl_table ls w, by simpa using hwne, fun v hv => ?_, .inr (.inl rfl), fun e => absurd e (by decide +kernel), ?_⟩⟩, hx, _, _, hrd, m_form_T (by have := tl.n; omega), ?_⟩
  · obtain ⟨u, hu, rfl⟩ := List.mem_map.mp hv
    exact hfr u hu
  · have h1 := Jw_le (ws := (("table" : Str) :: wl ls).map Sl) fun u hu => by
      obtain ⟨v, hv, rfl⟩ := List.mem_map.mp hu
      rcases List.mem_cons.mp hv with rfl | hv
      · decide +kernel
      · rw [Sl_len]; exact (wd_wl hmk v hv).1
    have h2 := wl_len2 (w := w) (ls := ls) fun l hl => Nat.le_of_eq (tl.li l hl).1
    rw [← Sl_table ls w, Sl_len, List.length_map, List.length_cons] at h1
    have h3 := tl.tot
    have h4 := tl.n
    rw [Nat.mul_add] at h2
    simp only
    omega
  · have : eP3 D.str D.int (eTL (eTL D.str)) (("table" : Str), ((w : Int)), ls) = dvTableForm ls w := rfl
    rw [this]
    exact eq_same (Th.form_pl (.table ls w))
theorem forest_part {ns : List (Str × Nat)} (h : NdOk 0 ns) (hne : ns ≠ []) (hl : ns.length ≤ 11) {x : D} (hx : f_p_read_thing x = M.exc 7) : Rt3 (("forest " : Str) ++ ft ns, eP2 D.str (eTL (eP2 D.str D.int)) (("forest" : Str), ns.map iNd), x) := by
  have hok : (Th.forest ns).Ok := ⟨h, by omega⟩
  have hd := NdOk.le (by omega) h
  obtain ⟨_, hfl⟩ := forest_text (ns := ns) (fun n hn => ⟨(hd n hn).1, by have := (hd n hn).2; omega⟩) (by omega) hne
  have e1 : ftext ns = ("forest " : Str) ++ ft ns := by unfold ftext; rw [if_neg hne]
  have hrd := read_forest hok
  rw [e1] at hrd
  obtain ⟨n0, r, hns⟩ : ∃ n0 r, ns = n0 :: r := by
    cases q : ns with
    | nil => exact absurd q hne
    | cons a b => exact ⟨a, b, rfl⟩
  refine ⟨⟨("forest" : Str), [Sl (ft ns)], ⟨?_, by simp, fun w hw => ?_, .inr (.inr rfl), fun _ => ⟨_, rfl⟩, ?_⟩⟩, hx, _, _, hrd, m_form_F ns, ?_⟩
  · rw [Sl_add, Sl_fo]
    simp [Jw]
  · rw [List.mem_singleton.mp hw]
    refine ⟨ft_sp h, fun e => ?_⟩
    unfold ft at e
    rw [Sl_mk, hns, pt] at e
    have hm := (mk_letters (hd n0 (by rw [hns]; simp)).1).1
    exact hm (List.append_eq_nil_iff.mp (List.append_eq_nil_iff.mp e).1).1
  · simp [lit_len]
    omega
  · have : eP2 D.str (eTL (eP2 D.str D.int)) (("forest" : Str), ns.map iNd) = dvForestForm ns := by simp only [eP2, eTL, nodes_enc]
    rw [this]
    exact eq_same (Th.form_pl (.forest ns))
theorem cut_lines {row : List Str} (hm : MksOk row) (hl : 1 ≤ row.length ∧ row.length ≤ 11) {w : Nat} (hw : 1 ≤ w ∧ w ≤ 3) : ∃ ls : List (List Str), lcO (fun (_ : Int) => M.pure true) (fun (x31 : Int) => M.pure (cutD row (some x31) (some (x31 + (w : Int))))) (rngIC 0 (w : Int) (stepN 0 ((((row.length : Nat) : Int) - (w : Int)) + 1) (w : Int))) [] = M.pure ls ∧ (∀ l ∈ ls, l.length = w ∧ MksOk l) ∧ ls.length * w ≤ 11 ∧ (ls = [] → row.length ≤ 2) := by
  have hlen : (rngIC 0 (w : Int) (stepN 0 ((((row.length : Nat) : Int) - (w : Int)) + 1) (w : Int))).length = stepN 0 ((((row.length : Nat) : Int) - (w : Int)) + 1) (w : Int) := by unfold rngIC; rw [List.length_map, List.length_range]
  have hst : stepN 0 ((((row.length : Nat) : Int) - (w : Int)) + 1) (w : Int) * w ≤ 11 ∧ (stepN 0 ((((row.length : Nat) : Int) - (w : Int)) + 1) (w : Int) = 0 → row.length ≤ 2) ∧ stepN 0 ((((row.length : Nat) : Int) - (w : Int)) + 1) (w : Int) ≤ 100 := by
    unfold stepN
    rcases (by omega : w = 1 ∨ w = 2 ∨ w = 3) with rfl | rfl | rfl <;> split <;> refine ⟨by omega, by omega, by omega⟩
  refine ⟨_, lc_map' (fun x => cutD row (some x) (some (x + (w : Int)))) (fun _ _ => rfl) (by rw [hlen]; omega), fun l hm2 => ?_, by rw [List.length_map, hlen]; exact hst.1, fun e => ?_⟩
  · obtain ⟨x, hx, rfl⟩ := List.mem_map.mp hm2
    have := rngIC_mem (show (0 : Int) < (w : Int) by omega) hx
    refine ⟨?_, fun m h => hm m (cutD_mem h)⟩
    rw [cutD_len row (by omega)]
    omega
  · refine hst.2.1 ?_
    rw [← hlen, ← List.length_map (f := fun x => cutD row (some x) (some (x + (w : Int)))), e]
    rfl
theorem law_ok : LawOk := by
  intro ns hns
  refine law_by (ty_p_law ns) (Ret.end ?_)
  unfold f_p_law
  rw [cell_at_ok (by omega), cell_at_ok (by omega)]
  simp only [NFL, how_many_ok]
  generalize cell ns 0 = seed
  have hh := howMany_in (seed / 6)
  refine Ret.bind (marks_ok (by omega)) fun ms0 ⟨hm0, hml0⟩ => ?_
  refine Ret.runO (Ret.bindO (P := fun ms => MksOk ms ∧ 0 < ms.length) ?_ ?_)
  · refine Ret.ite (fun _ => ?_) (fun _ => ⟨_, rfl, _, rfl, hm0, by omega⟩)
    refine ⟨_, rfl, _, rfl, fun m hm => six36 m (cutD_mem hm), ?_⟩
    unfold cutD
    simp only [HT.sIx, List.length_take, List.length_drop, List.length_cons, List.length_nil]
    split <;> omega
  rintro ms ⟨hm, hml⟩
  have hcl : (cutD ns (some (3 : Int)) (some (13 : Int))).length ≤ 10 := by
    unfold cutD
    simp only [HT.sIx, List.length_take, List.length_drop]
    split <;> split <;> omega
  have hg : gCatL (cutD ns (some (3 : Int)) (some (13 : Int))) [seed] = some (cutD ns (some (3 : Int)) (some (13 : Int)) ++ [seed]) := gCatL_ok (by simp; omega)
  have hcs : 1 ≤ (cutD ns (some (3 : Int)) (some (13 : Int)) ++ [seed]).length ∧ (cutD ns (some (3 : Int)) (some (13 : Int)) ++ [seed]).length ≤ 11 := by simp; omega
  simp only [NFL, hg]
  generalize cutD ns (some (3 : Int)) (some (13 : Int)) ++ [seed] = cs at hcs
  rw [lc_map' (fun x => pickM x ms) (fun x _ => pick_ok hml) (by omega)]
  have hrm : MksOk (cs.map fun x => pickM x ms) := fun m h => by
    obtain ⟨x, _, rfl⟩ := List.mem_map.mp h
    exact pickM_ok x hml hm
  have hrl : (cs.map fun x => pickM x ms).length = cs.length := List.length_map ..
  generalize (cs.map fun x => pickM x ms) = row at hrm hrl
  obtain ⟨m0, mr, hms⟩ : ∃ m0 mr, ms = m0 :: mr := by
    cases q : ms with
    | nil => rw [q] at hml; simp at hml
    | cons a b => exact ⟨a, b, rfl⟩
  have i0 : gIx ms (0 : Int) = some m0 := by rw [hms]; exact gIx_some (n := 0) rfl rfl
  have hm0k : isMkS m0 = true := hm m0 (by rw [hms]; simp)
  have l1 : (" " : Str).length = 1 := by decide +kernel
  have lr : ("row" : Str).length = 3 := by decide +kernel
  have hj1 : gJoin (" " : Str) (("row" : Str) :: row) = some (Txt.join (" " : Str) (("row" : Str) :: row)) := gJoin_ok (B := 8) (fun w hw => by
    rcases List.mem_cons.mp hw with rfl | hw
    · omega
    · exact isMk_len (hrm w hw)) (by rw [List.length_cons, l1]; omega)
  have hrep : lcO (fun (_ : Int) => M.pure true) (fun (_ : Int) => (M.pure m0 : M Str)) (rngI 0 (41 - row.length)) [] = M.pure (List.replicate (41 - row.length) m0) := by
    rw [lc_map' (fun _ => m0) (fun _ _ => rfl) (by rw [rngI_len]; omega), List.map_const', rngI_len]
  have hj2 : gJoin (" " : Str) (("row" : Str) :: (row ++ List.replicate (41 - row.length) m0)) = some (Txt.join (" " : Str) (("row" : Str) :: (row ++ List.replicate (41 - row.length) m0))) := gJoin_ok (B := 8) (fun w hw => by
    rcases List.mem_cons.mp hw with rfl | hw
    · omega
    · rcases List.mem_append.mp hw with hw | hw
      · exact isMk_len (hrm w hw)
      · rw [List.eq_of_mem_replicate hw]; exact isMk_len hm0k) (by rw [List.length_cons, List.length_append, List.length_replicate, l1]; omega)
  have hw0 : f_p_read_thing (.str (Txt.join (" " : Str) (("row" : Str) :: (row ++ List.replicate (41 - row.length) m0)))) = M.exc 7 := by
    refine rd_wds (rs := row ++ List.replicate (41 - row.length) m0) (.inl rfl) (by rw [Sl_join]; rfl) (fun w hw => ?_) (by rw [List.length_append, List.length_replicate]; omega) fun _ h2 => ng_row h2 (.inl (by rw [List.length_append, List.length_replicate]; omega))
    rcases List.mem_append.mp hw with hw | hw
    · exact (wd_mk (hrm w hw)).1
    · rw [List.eq_of_mem_replicate hw]; exact (wd_mk hm0k).1
  simp only [NFL, gCatL_ok (x := [("row" : Str)]) (y := row) (by simp; omega), List.singleton_append, hj1, cell_at_ok (ns := ns) (show 0 ≤ (2 : Int) by omega), i0, gR1_ok (j := (41 : Int) - ((List.length row : Nat) : Int)) (by omega), show ((41 : Int) - ((List.length row : Nat) : Int)).toNat = 41 - row.length by omega, hrep]
  simp only [NFL, gCatL_ok (x := ("row" : Str) :: row) (y := List.replicate (41 - row.length) m0) (by rw [List.length_cons, List.length_replicate]; omega), List.cons_append, hj2]
  have hrow := row_part hrm (by omega) hw0
  refine Ret.bindO (P := Rt3) ?_ ?_
  · refine Ret.ite (fun _ => ?_) (fun _ => ⟨_, rfl, _, rfl, hrow⟩)
    obtain ⟨w, hw, hw2⟩ : ∃ w : Nat, (1 : Int) + cell ns 2 / 7 % 3 = (w : Int) ∧ 1 ≤ w ∧ w ≤ 3 := ⟨((1 : Int) + cell ns 2 / 7 % 3).toNat, by omega, by omega⟩
    obtain ⟨ls, el, hl1, hl2, hl3⟩ := cut_lines hrm (by omega) hw2
    rw [hw]
    simp only [NFL, gR3_ok (i := 0) (j := (((row.length : Nat) : Int) - (w : Int)) + 1) (c := (w : Int)) (by omega), el]
    refine Ret.bindO (P := fun ls => ∃ w, Tl ls w) ?_ ?_
    · by_cases h0 : ls = []
      · have d : decide (((List.length ls : Nat) : Int) = 0) = true := by rw [h0]; rfl
        have := hl3 h0
        simp only [NFL, d, if_true]
        exact ⟨_, rfl, _, rfl, row.length, ⟨by omega, by simp, by simp, fun l hl => by rw [List.mem_singleton.mp hl]; exact ⟨rfl, hrm⟩, by simp; omega⟩⟩
      · have hp := List.length_pos_iff.mpr h0
        have d : decide (((List.length ls : Nat) : Int) = 0) = false := decide_eq_false (by omega)
        simp only [NFL, d, Bool.false_eq_true, if_false]
        refine ⟨_, rfl, _, rfl, w, ⟨hw2, h0, ?_, hl1, hl2⟩⟩
        have := Nat.le_mul_of_pos_right ls.length (show 0 < w by omega)
        omega
    · rintro ls ⟨w, tl⟩
      obtain ⟨w1, w3⟩ := tl.w1
      have hln := tl.n
      obtain ⟨y, ey, hy⟩ := wt_ok tl hm0k (cell ns 2)
      obtain ⟨l0, r, hls⟩ : ∃ l0 r, ls = l0 :: r := by
        cases h : ls with
        | nil => exact absurd h tl.ne
        | cons a b => exact ⟨a, b, rfl⟩
      have j0 : gIx ls (0 : Int) = some l0 := by rw [hls]; exact gIx_some (n := 0) rfl rfl
      have h0 := tl.li l0 (by rw [hls]; simp)
      have et := lines_text tl.ne (fun l hl => ⟨by rw [(tl.li l hl).1]; exact w1, by rw [(tl.li l hl).1]; omega, (tl.li l hl).2⟩) (by omega) w
      have ei : lcO (fun (_ : List Str) => M.pure true) (fun x36 => M.pure x36) ls [] = M.pure ls := by
        rw [lc_map' (fun x => x) (fun _ _ => rfl) (by omega), List.map_id']
      simp only [NFL, et, j0, ei, ey, h0.1]
      exact ⟨_, rfl, _, rfl, table_part tl hy⟩
  rintro s30 hs30
  refine Ret.bindO (P := Rt3) ?_ ?_
  · refine Ret.ite (fun _ => ?_) (fun _ => ⟨_, rfl, _, rfl, hs30⟩)
    refine Ret.bind (nodes_len hml hm (by omega)) fun l hl => ?_
    obtain ⟨nd, rfl, hnd, hnl⟩ := hl
    have hne : nd ≠ [] := fun e => by rw [e] at hnl; simp at hnl; omega
    have hd := NdOk.le (by omega) hnd
    obtain ⟨et, hfl⟩ := forest_text (ns := nd) (fun n hn => ⟨(hd n hn).1, by have := (hd n hn).2; omega⟩) (by omega) hne
    obtain ⟨y, ey, hy⟩ := wf_ok hnd hne (by omega) hm0k (cell ns 2)
    simp only [NFL, et, gCatS_ok (x := ("forest " : Str)) (y := ft nd) (by rw [show ("forest " : Str).length = 7 by decide +kernel]; omega), ey]
    exact ⟨_, rfl, _, rfl, forest_part hnd hne (by omega) hy⟩
  rintro s48 ⟨⟨h, R, tw⟩, hw, d, f, e1, e2, e3⟩
  refine Ret.bindO (P := fun d => f_p_read_thing d = M.exc 7) ?_ ?_
  · refine Ret.ite (fun _ => ?_) (fun _ => ⟨_, rfl, _, rfl, hw⟩)
    obtain ⟨x, ex, hx⟩ := wa_ok tw hm0k (cell ns 2)
    simp only [NFL, ex]
    exact ⟨_, rfl, _, rfl, hx⟩
  rintro x hx
  simp only [NFL, refused_ok hx, Bool.not_true, Bool.false_eq_true, if_false, e1, e2, e3]
  exact ⟨_, rfl, _, rfl, rfl⟩

end PM
set_option maxHeartbeats 4000000
namespace PM
open PySem PySem.Spec PyProof.Rows L2
def top (i : Nat) : Stmt := PySem.Challenge.pw_shrinkhouse_k36_no_things_texts.main.body.getD i (.Pass ⟨0, 0, 0, 0⟩)
structure Fs (P : Program) (w : World) (K : PySem.W.Frag) (mg : Str → Option Value) (cl : ClsP) : Type where
  hP : cl.P = P
  hw : cl.w = w
  n_isinstance : mg "isinstance" = none
  n_int : mg "int" = none
  n_bool : mg "bool" = none
  n_str : mg "str" = none
  n_len : mg "len" = none
  n_list : mg "list" = none
  n_tuple : mg "tuple" = none
  n_min : mg "min" = none
  n_range : mg "range" = none
  n_ValueError : mg "ValueError" = none
  k_LETTERS : ∃ u, mg "LETTERS" = some u ∧ RelV (.str "abcdefghijklmnopqrstuvwxyz") u
  k_MOST_LETTERS : ∃ u, mg "MOST_LETTERS" = some u ∧ RelV (.int 8) u
  k_MOST_PLACES : ∃ u, mg "MOST_PLACES" = some u ∧ RelV (.int 40) u
  k_MOST_DEEP : ∃ u, mg "MOST_DEEP" = some u ∧ RelV (.int 12) u
  k_MOST_LINES : ∃ u, mg "MOST_LINES" = some u ∧ RelV (.int 12) u
  a_p_is_whole : Addr
  d_p_is_whole : FuncData
  F_p_is_whole : Fun K "is_whole" "is_whole" (top 14) a_p_is_whole d_p_is_whole
  b_p_is_whole : Binds K d_p_is_whole ["thing"] []
  g_p_is_whole : mg "is_whole" = some (.ref a_p_is_whole)
  a_p_is_mark : Addr
  d_p_is_mark : FuncData
  F_p_is_mark : Fun K "is_mark" "is_mark" (top 15) a_p_is_mark d_p_is_mark
  b_p_is_mark : Binds K d_p_is_mark ["thing"] []
  g_p_is_mark : mg "is_mark" = some (.ref a_p_is_mark)
  a_p_are_marks : Addr
  d_p_are_marks : FuncData
  F_p_are_marks : Fun K "are_marks" "are_marks" (top 20) a_p_are_marks d_p_are_marks
  b_p_are_marks : Binds K d_p_are_marks ["some", "most"] []
  g_p_are_marks : mg "are_marks" = some (.ref a_p_are_marks)
  a_p_are_nodes : Addr
  d_p_are_nodes : FuncData
  F_p_are_nodes : Fun K "are_nodes" "are_nodes" (top 21) a_p_are_nodes d_p_are_nodes
  b_p_are_nodes : Binds K d_p_are_nodes ["some"] []
  g_p_are_nodes : mg "are_nodes" = some (.ref a_p_are_nodes)
  a_p_are_lines : Addr
  d_p_are_lines : FuncData
  F_p_are_lines : Fun K "are_lines" "are_lines" (top 22) a_p_are_lines d_p_are_lines
  b_p_are_lines : Binds K d_p_are_lines ["some"] []
  g_p_are_lines : mg "are_lines" = some (.ref a_p_are_lines)
  a_p_Row_init : Addr
  d_p_Row_init : FuncData
  F_p_Row_init : Fun K "__init__" "Row.__init__" (inClass (top 24) 0) a_p_Row_init d_p_Row_init
  b_p_Row_init : Binds K d_p_Row_init ["self", "marks"] []
  a_p_Row_form : Addr
  d_p_Row_form : FuncData
  F_p_Row_form : Fun K "form" "Row.form" (inClass (top 24) 4) a_p_Row_form d_p_Row_form
  b_p_Row_form : Binds K d_p_Row_form ["self"] []
  a_p_Forest_init : Addr
  d_p_Forest_init : FuncData
  F_p_Forest_init : Fun K "__init__" "Forest.__init__" (inClass (top 25) 0) a_p_Forest_init d_p_Forest_init
  b_p_Forest_init : Binds K d_p_Forest_init ["self", "nodes"] []
  a_p_Forest_form : Addr
  d_p_Forest_form : FuncData
  F_p_Forest_form : Fun K "form" "Forest.form" (inClass (top 25) 4) a_p_Forest_form d_p_Forest_form
  b_p_Forest_form : Binds K d_p_Forest_form ["self"] []
  a_p_Table_init : Addr
  d_p_Table_init : FuncData
  F_p_Table_init : Fun K "__init__" "Table.__init__" (inClass (top 26) 0) a_p_Table_init d_p_Table_init
  b_p_Table_init : Binds K d_p_Table_init ["self", "lines"] []
  a_p_Table_form : Addr
  d_p_Table_form : FuncData
  F_p_Table_form : Fun K "form" "Table.form" (inClass (top 26) 4) a_p_Table_form d_p_Table_form
  b_p_Table_form : Binds K d_p_Table_form ["self"] []
  a_p_read_line : Addr
  d_p_read_line : FuncData
  F_p_read_line : Fun K "read_line" "read_line" (top 28) a_p_read_line d_p_read_line
  b_p_read_line : Binds K d_p_read_line ["words"] []
  g_p_read_line : mg "read_line" = some (.ref a_p_read_line)
  a_p_read_lines : Addr
  d_p_read_lines : FuncData
  F_p_read_lines : Fun K "read_lines" "read_lines" (top 29) a_p_read_lines d_p_read_lines
  b_p_read_lines : Binds K d_p_read_lines ["words"] []
  g_p_read_lines : mg "read_lines" = some (.ref a_p_read_lines)
  a_p_read_nodes : Addr
  d_p_read_nodes : FuncData
  F_p_read_nodes : Fun K "read_nodes" "read_nodes" (top 30) a_p_read_nodes d_p_read_nodes
  b_p_read_nodes : Binds K d_p_read_nodes ["text"] []
  g_p_read_nodes : mg "read_nodes" = some (.ref a_p_read_nodes)
  a_p_thing_of : Addr
  d_p_thing_of : FuncData
  F_p_thing_of : Fun K "thing_of" "thing_of" (top 31) a_p_thing_of d_p_thing_of
  b_p_thing_of : Binds K d_p_thing_of ["words"] []
  g_p_thing_of : mg "thing_of" = some (.ref a_p_thing_of)
  a_p_read_thing : Addr
  d_p_read_thing : FuncData
  F_p_read_thing : Fun K "read_thing" "read_thing" (top 32) a_p_read_thing d_p_read_thing
  b_p_read_thing : Binds K d_p_read_thing ["text"] []
  g_p_read_thing : mg "read_thing" = some (.ref a_p_read_thing)
  a_l_cell_at : Addr
  d_l_cell_at : FuncData
  F_l_cell_at : Fun K "_law_cell_at" "_law_cell_at" (top 34) a_l_cell_at d_l_cell_at
  b_l_cell_at : Binds K d_l_cell_at ["_law_script", "_law_k"] []
  g_l_cell_at : mg "_law_cell_at" = some (.ref a_l_cell_at)
  a_l_how_many : Addr
  d_l_how_many : FuncData
  F_l_how_many : Fun K "_law_how_many" "_law_how_many" (top 36) a_l_how_many d_l_how_many
  b_l_how_many : Binds K d_l_how_many ["_law_number"] []
  g_l_how_many : mg "_law_how_many" = some (.ref a_l_how_many)
  a_l_marks : Addr
  d_l_marks : FuncData
  F_l_marks : Fun K "_law_marks" "_law_marks" (top 37) a_l_marks d_l_marks
  b_l_marks : Binds K d_l_marks ["_law_cell", "_law_many"] []
  g_l_marks : mg "_law_marks" = some (.ref a_l_marks)
  a_l_pick : Addr
  d_l_pick : FuncData
  F_l_pick : Fun K "_law_pick" "_law_pick" (top 38) a_l_pick d_l_pick
  b_l_pick : Binds K d_l_pick ["_law_cell", "_law_marks_here"] []
  g_l_pick : mg "_law_pick" = some (.ref a_l_pick)
  a_l_nodes : Addr
  d_l_nodes : FuncData
  F_l_nodes : Fun K "_law_nodes" "_law_nodes" (top 39) a_l_nodes d_l_nodes
  b_l_nodes : Binds K d_l_nodes ["_law_cells", "_law_marks_here"] []
  g_l_nodes : mg "_law_nodes" = some (.ref a_l_nodes)
  a_l_forest_text : Addr
  d_l_forest_text : FuncData
  F_l_forest_text : Fun K "_law_forest_text" "_law_forest_text" (top 40) a_l_forest_text d_l_forest_text
  b_l_forest_text : Binds K d_l_forest_text ["_law_nodes_here"] []
  g_l_forest_text : mg "_law_forest_text" = some (.ref a_l_forest_text)
  a_l_refused : Addr
  d_l_refused : FuncData
  F_l_refused : Fun K "_law_refused" "_law_refused" (top 41) a_l_refused d_l_refused
  b_l_refused : Binds K d_l_refused ["_law_text"] []
  g_l_refused : mg "_law_refused" = some (.ref a_l_refused)
  a_l_wrong_by_any : Addr
  d_l_wrong_by_any : FuncData
  F_l_wrong_by_any : Fun K "_law_wrong_by_any" "_law_wrong_by_any" (top 42) a_l_wrong_by_any d_l_wrong_by_any
  b_l_wrong_by_any : Binds K d_l_wrong_by_any ["_law_text", "_law_cell", "_law_mark"] []
  g_l_wrong_by_any : mg "_law_wrong_by_any" = some (.ref a_l_wrong_by_any)
  a_l_lines_text : Addr
  d_l_lines_text : FuncData
  F_l_lines_text : Fun K "_law_lines_text" "_law_lines_text" (top 44) a_l_lines_text d_l_lines_text
  b_l_lines_text : Binds K d_l_lines_text ["_law_lines"] []
  g_l_lines_text : mg "_law_lines_text" = some (.ref a_l_lines_text)
  a_l_wrong_table : Addr
  d_l_wrong_table : FuncData
  F_l_wrong_table : Fun K "_law_wrong_table" "_law_wrong_table" (top 43) a_l_wrong_table d_l_wrong_table
  b_l_wrong_table : Binds K d_l_wrong_table ["_law_lines", "_law_cell", "_law_mark"] []
  g_l_wrong_table : mg "_law_wrong_table" = some (.ref a_l_wrong_table)
  a_l_wrong_forest : Addr
  d_l_wrong_forest : FuncData
  F_l_wrong_forest : Fun K "_law_wrong_forest" "_law_wrong_forest" (top 45) a_l_wrong_forest d_l_wrong_forest
  b_l_wrong_forest : Binds K d_l_wrong_forest ["_law_nodes_here", "_law_cell", "_law_mark"] []
  g_l_wrong_forest : mg "_law_wrong_forest" = some (.ref a_l_wrong_forest)
  a_p_law : Addr
  d_p_law : FuncData
  F_p_law : Fun K "law" "law" (top 46) a_p_law d_p_law
  b_p_law : Binds K d_p_law ["_law_script"] []
  g_p_law : mg "law" = some (.ref a_p_law)
  gc_ShrinkError : mg "ShrinkError" = some (.ref (cl 0))
  gc_NoThing : mg "NoThing" = some (.ref (cl 1))
  gc_NoPlace : mg "NoPlace" = some (.ref (cl 2))
  gc_NoFault : mg "NoFault" = some (.ref (cl 3))
  gc_NoRule : mg "NoRule" = some (.ref (cl 4))
  gc_Spent : mg "Spent" = some (.ref (cl 5))
  gc_Healthy : mg "Healthy" = some (.ref (cl 6))
  gc_NoText : mg "NoText" = some (.ref (cl 7))
  gc_NoRow : mg "NoRow" = some (.ref (cl 8))
  gc_Row : mg "Row" = some (.ref (cl 10))
  gc_Forest : mg "Forest" = some (.ref (cl 11))
  gc_Table : mg "Table" = some (.ref (cl 12))
  ex_NoThing : ExCls K (cl 1)
  ex_NoText : ExCls K (cl 7)
  hb_ShrinkError : PySem.W.subIn K (.ref (cl 0)) (.type "BaseException") = some true
  hd_ShrinkError : PySem.W.hasDictIn K (cl 0) = true
  ht_ShrinkError : PySem.W.typeIn K (.ref (cl 0)) = some (.type "type")
  hs_NoThing_ShrinkError : PySem.W.subIn K (.ref (cl 1)) (.ref (cl 0)) = some true
  hs_NoText_ShrinkError : PySem.W.subIn K (.ref (cl 7)) (.ref (cl 0)) = some true
  hb_NoThing : PySem.W.subIn K (.ref (cl 1)) (.type "BaseException") = some true
  hd_NoThing : PySem.W.hasDictIn K (cl 1) = true
  ht_NoThing : PySem.W.typeIn K (.ref (cl 1)) = some (.type "type")
  hs_NoThing_NoThing : PySem.W.subIn K (.ref (cl 1)) (.ref (cl 1)) = some true
  hs_NoText_NoThing : PySem.W.subIn K (.ref (cl 7)) (.ref (cl 1)) = some false
  xc_NoThing : ExcC K (cl 1)
  xc_NoText : ExcC K (cl 7)
  xk_NoThing_NoThing : PySem.W.kitOne K (.ref (cl 1)) (.ref (cl 1)) = some true
  xk_NoText_NoThing : PySem.W.kitOne K (.ref (cl 7)) (.ref (cl 1)) = some false
  xk_NoThing_NoPlace : PySem.W.kitOne K (.ref (cl 1)) (.ref (cl 2)) = some false
  xk_NoText_NoPlace : PySem.W.kitOne K (.ref (cl 7)) (.ref (cl 2)) = some false
  xk_NoThing_NoFault : PySem.W.kitOne K (.ref (cl 1)) (.ref (cl 3)) = some false
  xk_NoText_NoFault : PySem.W.kitOne K (.ref (cl 7)) (.ref (cl 3)) = some false
  xk_NoThing_NoRule : PySem.W.kitOne K (.ref (cl 1)) (.ref (cl 4)) = some false
  xk_NoText_NoRule : PySem.W.kitOne K (.ref (cl 7)) (.ref (cl 4)) = some false
  xk_NoThing_Spent : PySem.W.kitOne K (.ref (cl 1)) (.ref (cl 5)) = some false
  xk_NoText_Spent : PySem.W.kitOne K (.ref (cl 7)) (.ref (cl 5)) = some false
  xk_NoThing_Healthy : PySem.W.kitOne K (.ref (cl 1)) (.ref (cl 6)) = some false
  xk_NoText_Healthy : PySem.W.kitOne K (.ref (cl 7)) (.ref (cl 6)) = some false
  xk_NoThing_NoText : PySem.W.kitOne K (.ref (cl 1)) (.ref (cl 7)) = some false
  xk_NoText_NoText : PySem.W.kitOne K (.ref (cl 7)) (.ref (cl 7)) = some true
  xk_NoThing_NoRow : PySem.W.kitOne K (.ref (cl 1)) (.ref (cl 8)) = some false
  xk_NoText_NoRow : PySem.W.kitOne K (.ref (cl 7)) (.ref (cl 8)) = some false
  xk_NoThing_ValueError : PySem.W.kitOne K (.ref (cl 1)) (.type "ValueError") = some true
  xk_NoText_ValueError : PySem.W.kitOne K (.ref (cl 7)) (.type "ValueError") = some true
  cls_Row : Cls K (cl 10)
  mk_Row : Mk K (cl 10) a_p_Row_init
  na_Row_row : NoAttr K (cl 10) "row"
  cls_Forest : Cls K (cl 11)
  mk_Forest : Mk K (cl 11) a_p_Forest_init
  na_Forest_nodes : NoAttr K (cl 11) "nodes"
  cls_Table : Cls K (cl 12)
  mk_Table : Mk K (cl 12) a_p_Table_init
  na_Table_lines : NoAttr K (cl 12) "lines"
  na_Table_wide : NoAttr K (cl 12) "wide"
  me_Row_form : Meth K (cl 10) "form" a_p_Row_form
  me_Forest_form : Meth K (cl 11) "form" a_p_Forest_form
  me_Table_form : Meth K (cl 12) "form" a_p_Table_form
theorem info {P : Program} {w : World} {K : PySem.W.Frag} {mg : Str → Option Value} {cl : ClsP} (T : Fs P w K mg cl) : CInfo K cl fl := by
  intro c f h
  simp only [fl, Bool.or_eq_true, Bool.and_eq_true, beq_iff_eq] at h
  rcases h with ((⟨rfl, rfl⟩ | ⟨rfl, rfl⟩) | ⟨rfl, rfl⟩) | ⟨rfl, rfl⟩
  · exact ⟨T.cls_Row, T.na_Row_row⟩
  · exact ⟨T.cls_Forest, T.na_Forest_nodes⟩
  · exact ⟨T.cls_Table, T.na_Table_lines⟩
  · exact ⟨T.cls_Table, T.na_Table_wide⟩
theorem hit_ok_ShrinkError {P : Program} {w : World} {K : PySem.W.Frag} {mg : Str → Option Value} {cl : ClsP} (T : Fs P w K mg cl) : HitOk K cl hit_ShrinkError (.ref (cl 0)) := by
  intro n b h
  unfold hit_ShrinkError at h
  split at h
  · rename_i e; subst e; cases h; exact PySem.W.exm_ref T.hb_ShrinkError T.hd_ShrinkError T.ht_ShrinkError T.hs_NoThing_ShrinkError
  split at h
  · rename_i e; subst e; cases h; exact PySem.W.exm_ref T.hb_ShrinkError T.hd_ShrinkError T.ht_ShrinkError T.hs_NoText_ShrinkError
  cases h
theorem hit_ok_NoThing {P : Program} {w : World} {K : PySem.W.Frag} {mg : Str → Option Value} {cl : ClsP} (T : Fs P w K mg cl) : HitOk K cl hit_NoThing (.ref (cl 1)) := by
  intro n b h
  unfold hit_NoThing at h
  split at h
  · rename_i e; subst e; cases h; exact PySem.W.exm_ref T.hb_NoThing T.hd_NoThing T.ht_NoThing T.hs_NoThing_NoThing
  split at h
  · rename_i e; subst e; cases h; exact PySem.W.exm_ref T.hb_NoThing T.hd_NoThing T.ht_NoThing T.hs_NoText_NoThing
  cases h
theorem isx_ok_NoThing {P : Program} {w : World} {K : PySem.W.Frag} {mg : Str → Option Value} {cl : ClsP} (T : Fs P w K mg cl) : IsXOk K cl isx_NoThing (.ref (cl 1)) := by
  intro n b h
  unfold isx_NoThing at h
  split at h
  · rename_i e; subst e; cases h; exact ⟨T.xc_NoThing, T.xk_NoThing_NoThing⟩
  split at h
  · rename_i e; subst e; cases h; exact ⟨T.xc_NoText, T.xk_NoText_NoThing⟩
  cases h
theorem isx_ok_NoPlace {P : Program} {w : World} {K : PySem.W.Frag} {mg : Str → Option Value} {cl : ClsP} (T : Fs P w K mg cl) : IsXOk K cl isx_NoPlace (.ref (cl 2)) := by
  intro n b h
  unfold isx_NoPlace at h
  split at h
  · rename_i e; subst e; cases h; exact ⟨T.xc_NoThing, T.xk_NoThing_NoPlace⟩
  split at h
  · rename_i e; subst e; cases h; exact ⟨T.xc_NoText, T.xk_NoText_NoPlace⟩
  cases h
theorem isx_ok_NoFault {P : Program} {w : World} {K : PySem.W.Frag} {mg : Str → Option Value} {cl : ClsP} (T : Fs P w K mg cl) : IsXOk K cl isx_NoFault (.ref (cl 3)) := by
  intro n b h
  unfold isx_NoFault at h
  split at h
  · rename_i e; subst e; cases h; exact ⟨T.xc_NoThing, T.xk_NoThing_NoFault⟩
  split at h
  · rename_i e; subst e; cases h; exact ⟨T.xc_NoText, T.xk_NoText_NoFault⟩
  cases h
theorem isx_ok_NoRule {P : Program} {w : World} {K : PySem.W.Frag} {mg : Str → Option Value} {cl : ClsP} (T : Fs P w K mg cl) : IsXOk K cl isx_NoRule (.ref (cl 4)) := by
  intro n b h
  unfold isx_NoRule at h
  split at h
  · rename_i e; subst e; cases h; exact ⟨T.xc_NoThing, T.xk_NoThing_NoRule⟩
  split at h
  · rename_i e; subst e; cases h; exact ⟨T.xc_NoText, T.xk_NoText_NoRule⟩
  cases h
theorem isx_ok_Spent {P : Program} {w : World} {K : PySem.W.Frag} {mg : Str → Option Value} {cl : ClsP} (T : Fs P w K mg cl) : IsXOk K cl isx_Spent (.ref (cl 5)) := by
  intro n b h
  unfold isx_Spent at h
  split at h
  · rename_i e; subst e; cases h; exact ⟨T.xc_NoThing, T.xk_NoThing_Spent⟩
  split at h
  · rename_i e; subst e; cases h; exact ⟨T.xc_NoText, T.xk_NoText_Spent⟩
  cases h
theorem isx_ok_Healthy {P : Program} {w : World} {K : PySem.W.Frag} {mg : Str → Option Value} {cl : ClsP} (T : Fs P w K mg cl) : IsXOk K cl isx_Healthy (.ref (cl 6)) := by
  intro n b h
  unfold isx_Healthy at h
  split at h
  · rename_i e; subst e; cases h; exact ⟨T.xc_NoThing, T.xk_NoThing_Healthy⟩
  split at h
  · rename_i e; subst e; cases h; exact ⟨T.xc_NoText, T.xk_NoText_Healthy⟩
  cases h
theorem isx_ok_NoText {P : Program} {w : World} {K : PySem.W.Frag} {mg : Str → Option Value} {cl : ClsP} (T : Fs P w K mg cl) : IsXOk K cl isx_NoText (.ref (cl 7)) := by
  intro n b h
  unfold isx_NoText at h
  split at h
  · rename_i e; subst e; cases h; exact ⟨T.xc_NoThing, T.xk_NoThing_NoText⟩
  split at h
  · rename_i e; subst e; cases h; exact ⟨T.xc_NoText, T.xk_NoText_NoText⟩
  cases h
theorem isx_ok_NoRow {P : Program} {w : World} {K : PySem.W.Frag} {mg : Str → Option Value} {cl : ClsP} (T : Fs P w K mg cl) : IsXOk K cl isx_NoRow (.ref (cl 8)) := by
  intro n b h
  unfold isx_NoRow at h
  split at h
  · rename_i e; subst e; cases h; exact ⟨T.xc_NoThing, T.xk_NoThing_NoRow⟩
  split at h
  · rename_i e; subst e; cases h; exact ⟨T.xc_NoText, T.xk_NoText_NoRow⟩
  cases h
theorem isx_ok_ValueError {P : Program} {w : World} {K : PySem.W.Frag} {mg : Str → Option Value} {cl : ClsP} (T : Fs P w K mg cl) : IsXOk K cl isx_ValueError (.type "ValueError") := by
  intro n b h
  unfold isx_ValueError at h
  split at h
  · rename_i e; subst e; cases h; exact ⟨T.xc_NoThing, T.xk_NoThing_ValueError⟩
  split at h
  · rename_i e; subst e; cases h; exact ⟨T.xc_NoText, T.xk_NoText_ValueError⟩
  cases h
theorem k_LETTERS_rep {K : PySem.W.Frag} {cl : ClsP} (mu : List Addr) (Z : Hp) : Rep K cl mu Z (.str "abcdefghijklmnopqrstuvwxyz") D.k_LETTERS := by exact .str _
theorem k_MOST_LETTERS_rep {K : PySem.W.Frag} {cl : ClsP} (mu : List Addr) (Z : Hp) : Rep K cl mu Z (.int 8) D.k_MOST_LETTERS := by exact .int _
theorem k_MOST_PLACES_rep {K : PySem.W.Frag} {cl : ClsP} (mu : List Addr) (Z : Hp) : Rep K cl mu Z (.int 40) D.k_MOST_PLACES := by exact .int _
theorem k_MOST_DEEP_rep {K : PySem.W.Frag} {cl : ClsP} (mu : List Addr) (Z : Hp) : Rep K cl mu Z (.int 12) D.k_MOST_DEEP := by exact .int _
theorem k_MOST_LINES_rep {K : PySem.W.Frag} {cl : ClsP} (mu : List Addr) (Z : Hp) : Rep K cl mu Z (.int 12) D.k_MOST_LINES := by exact .int _
theorem sc_p_is_whole : FnScope ["thing"] ["thing"] (defScope (top 14)) := ⟨rfl, rfl, rfl, by decide +kernel, rfl, by decide +kernel, by decide +kernel⟩
theorem ok_p_is_whole {P : Program} {w : World} {K : PySem.W.Frag} {mg : Str → Option Value} {base : Heap} {cl : ClsP} (T : Fs P w K mg cl) : FnOk P w K mg base (L2N.CX P w) 1 T.a_p_is_whole T.d_p_is_whole ["thing"] (spOf K cl [true] m_p_is_whole) := by
  have nd := sc_p_is_whole.nd
  refine fn_ok (k := 0) (body := c_p_is_whole) T.F_p_is_whole sc_p_is_whole rfl rfl fun cdv A outer s H E hr tk => ?_
  refine ss_cons ?_ ?_
  refine ss_ret ?_
  refine se_and ?_ ?_
  refine SE.toB ?_
  refine se_isT (by decide) (by rfl) T.n_isinstance (by decide +kernel) ?_ (by rfl) T.n_int (by decide +kernel)
  exact sb_v (pv 0)
  refine se_one ?_
  refine se_not ?_
  refine SE.toB ?_
  refine se_isT (by decide) (by rfl) T.n_isinstance (by decide +kernel) ?_ (by rfl) T.n_bool (by decide +kernel)
  exact sb_v (pv 0)
  exact ss_nil
theorem sc_p_is_mark : FnScope ["thing", "sign"] ["thing"] (defScope (top 15)) := ⟨rfl, rfl, rfl, by decide +kernel, rfl, by decide +kernel, by decide +kernel⟩
theorem ok_p_is_mark {P : Program} {w : World} {K : PySem.W.Frag} {mg : Str → Option Value} {base : Heap} {cl : ClsP} (T : Fs P w K mg cl) : FnOk P w K mg base (L2N.CX P w) 1 T.a_p_is_mark T.d_p_is_mark ["thing"] (spOf K cl [true] m_p_is_mark) := by
  have nd := sc_p_is_mark.nd
  refine fn_ok (k := 1) (body := c_p_is_mark) T.F_p_is_mark sc_p_is_mark rfl rfl fun cdv A outer s H E hr tk => ?_
  refine ss_cons ?_ ?_
  refine ss_if ?_ ?_ ?_
  refine st_w ?_
  refine sw_or ?_ ?_
  refine st_not ?_
  refine st_val ?_ (fun _ => rfl)
  refine SE.toB ?_
  refine se_isT (by decide) (by rfl) T.n_isinstance (by decide +kernel) ?_ (by rfl) T.n_str (by decide +kernel)
  exact sb_v (pv 0)
  refine sw_or ?_ ?_
  refine st_eq hr.units ?_ ?_
  exact sb_v (pv 0)
  refine SE.toB ?_
  exact se_str
  refine sw_or1 ?_
  refine st_gt ?_ ?_
  refine SE.toB ?_
  refine sx_callB pfM call_len cs_len (by rfl) T.n_len (by decide +kernel) ?_
  refine sa_b ?_ ?_
  exact sb_v (pv 0)
  exact sa_nil
  refine SE.toB ?_
  exact se_glE (by rfl) T.k_MOST_LETTERS k_MOST_LETTERS_rep
  refine ss_cons ?_ ?_
  refine ss_ret ?_
  exact se_bl
  exact ss_nil
  exact ss_nil
  refine ss_wipe ?_
  refine ss_cons ?_ ?_
  refine ss_for (by exact passes_of rfl) (by rfl) ?_ (pg_name (i := 1) nd (by rfl) (by first | exact Or.inl rfl | exact Or.inr rfl)) (tg_name) ?_
  refine si_str ?_
  exact sb_v (pv 0)
  refine ss_cons ?_ ?_
  refine ss_if ?_ ?_ ?_
  refine st_nin hr.u65 ?_ ?_ (by rfl)
  exact sb_v (pv 1)
  refine SE.toB ?_
  exact se_glE (by rfl) T.k_LETTERS k_LETTERS_rep
  refine ss_cons ?_ ?_
  refine ss_ret ?_
  exact se_bl
  exact ss_nil
  exact ss_nil
  refine ss_wipe ?_
  exact ss_nil
  refine ss_cons ?_ ?_
  refine ss_ret ?_
  exact se_bl
  exact ss_nil
theorem sc_p_are_marks : FnScope ["some", "most", "mark"] ["some", "most"] (defScope (top 20)) := ⟨rfl, rfl, rfl, by decide +kernel, rfl, by decide +kernel, by decide +kernel⟩
theorem ok_p_are_marks {P : Program} {w : World} {K : PySem.W.Frag} {mg : Str → Option Value} {base : Heap} {cl : ClsP} (T : Fs P w K mg cl) : FnOk P w K mg base (L2N.CX P w) 2 T.a_p_are_marks T.d_p_are_marks ["some", "most"] (spOf K cl [true, true] m_p_are_marks) := by
  have nd := sc_p_are_marks.nd
  refine fn_ok (k := 1) (body := c_p_are_marks) T.F_p_are_marks sc_p_are_marks rfl rfl fun cdv A outer s H E hr tk => ?_
  refine ss_cons ?_ ?_
  refine ss_if ?_ ?_ ?_
  refine st_w ?_
  refine sw_or ?_ ?_
  refine st_not ?_
  refine st_val ?_ (fun _ => rfl)
  refine SE.toB ?_
  refine se_isT (by decide) (by rfl) T.n_isinstance (by decide +kernel) ?_ (by rfl) T.n_list (by decide +kernel)
  exact sb_v (pv 0)
  refine sw_or1 ?_
  refine st_gt ?_ ?_
  refine SE.toB ?_
  refine sx_callB pfM call_len cs_len (by rfl) T.n_len (by decide +kernel) ?_
  refine sa_b ?_ ?_
  exact sb_v (pv 0)
  exact sa_nil
  exact sb_v (pv 1)
  refine ss_cons ?_ ?_
  refine ss_ret ?_
  exact se_bl
  exact ss_nil
  exact ss_nil
  refine ss_wipe ?_
  refine ss_cons ?_ ?_
  refine ss_for (by exact passes_of rfl) (by rfl) ?_ (pg_name (i := 2) nd (by rfl) (by first | exact Or.inl rfl | exact Or.inr rfl)) (tg_name) ?_
  exact si_bor (pv 0)
  refine ss_cons ?_ ?_
  refine ss_if ?_ ?_ ?_
  refine st_not ?_
  refine st_val ?_ (fun _ => rfl)
  refine SE.toB ?_
  refine se_call (ok_p_is_mark T) (hr.mono (by decide)) (by rfl) T.g_p_is_mark T.F_p_is_mark.kp T.b_p_is_mark tk ?_
  refine sa_b ?_ ?_
  exact sb_v (pv 2)
  exact sa_nil
  refine ss_cons ?_ ?_
  refine ss_ret ?_
  exact se_bl
  exact ss_nil
  exact ss_nil
  refine ss_wipe ?_
  exact ss_nil
  refine ss_cons ?_ ?_
  refine ss_ret ?_
  exact se_bl
  exact ss_nil
theorem sc_p_are_nodes : FnScope ["some", "deepest", "node"] ["some"] (defScope (top 21)) := ⟨rfl, rfl, rfl, by decide +kernel, rfl, by decide +kernel, by decide +kernel⟩
theorem ok_p_are_nodes {P : Program} {w : World} {K : PySem.W.Frag} {mg : Str → Option Value} {base : Heap} {cl : ClsP} (T : Fs P w K mg cl) : FnOk P w K mg base (L2N.CX P w) 2 T.a_p_are_nodes T.d_p_are_nodes ["some"] (spOf K cl [true] m_p_are_nodes) := by
  have nd := sc_p_are_nodes.nd
  refine fn_ok (k := 2) (body := c_p_are_nodes) T.F_p_are_nodes sc_p_are_nodes rfl rfl fun cdv A outer s H E hr tk => ?_
  refine ss_cons ?_ ?_
  refine ss_if ?_ ?_ ?_
  refine st_w ?_
  refine sw_or ?_ ?_
  refine st_not ?_
  refine st_val ?_ (fun _ => rfl)
  refine SE.toB ?_
  refine se_isT (by decide) (by rfl) T.n_isinstance (by decide +kernel) ?_ (by rfl) T.n_list (by decide +kernel)
  exact sb_v (pv 0)
  refine sw_or1 ?_
  refine st_gt ?_ ?_
  refine SE.toB ?_
  refine sx_callB pfM call_len cs_len (by rfl) T.n_len (by decide +kernel) ?_
  refine sa_b ?_ ?_
  exact sb_v (pv 0)
  exact sa_nil
  refine SE.toB ?_
  exact se_glE (by rfl) T.k_MOST_PLACES k_MOST_PLACES_rep
  refine ss_cons ?_ ?_
  refine ss_ret ?_
  exact se_bl
  exact ss_nil
  exact ss_nil
  refine ss_cons ?_ ?_
  refine ss_set (i := 1) nd (by rfl) (Or.inl rfl) ?_
  exact se_int
  refine ss_wipe ?_
  refine ss_cons ?_ ?_
  refine ss_for (by exact passes_of rfl) (by rfl) ?_ (pg_name (i := 2) nd (by rfl) (by first | exact Or.inl rfl | exact Or.inr rfl)) (tg_name) ?_
  exact si_bor (pv 0)
  refine ss_cons ?_ ?_
  refine ss_if ?_ ?_ ?_
  refine st_w ?_
  refine sw_or ?_ ?_
  refine st_not ?_
  refine st_val ?_ (fun _ => rfl)
  refine SE.toB ?_
  refine se_isT (by decide) (by rfl) T.n_isinstance (by decide +kernel) ?_ (by rfl) T.n_tuple (by decide +kernel)
  exact sb_v (pv 2)
  refine sw_or1 ?_
  refine st_ne hr.units ?_ ?_
  refine SE.toB ?_
  refine sx_callB pfM call_len cs_len (by rfl) T.n_len (by decide +kernel) ?_
  refine sa_b ?_ ?_
  exact sb_v (pv 2)
  exact sa_nil
  refine SE.toB ?_
  exact se_int
  refine ss_cons ?_ ?_
  refine ss_ret ?_
  exact se_bl
  exact ss_nil
  exact ss_nil
  refine ss_cons ?_ ?_
  refine ss_if ?_ ?_ ?_
  refine st_w ?_
  refine sw_or ?_ ?_
  refine st_not ?_
  refine st_val ?_ (fun _ => rfl)
  refine SE.toB ?_
  refine se_call (ok_p_is_mark T) (hr.mono (by decide)) (by rfl) T.g_p_is_mark T.F_p_is_mark.kp T.b_p_is_mark tk ?_
  refine sa_b ?_ ?_
  refine SE.toB ?_
  refine se_ix ?_ ?_
  exact sb_v (pv 2)
  refine SE.toB ?_
  exact se_int
  exact sa_nil
  refine sw_or ?_ ?_
  refine st_not ?_
  refine st_val ?_ (fun _ => rfl)
  refine SE.toB ?_
  refine se_call (ok_p_is_whole T) (hr.mono (by decide)) (by rfl) T.g_p_is_whole T.F_p_is_whole.kp T.b_p_is_whole tk ?_
  refine sa_b ?_ ?_
  refine SE.toB ?_
  refine se_ix ?_ ?_
  exact sb_v (pv 2)
  refine SE.toB ?_
  exact se_int
  exact sa_nil
  refine sw_or1 ?_
  refine st_not ?_
  refine st_ch bls_I op_le op_le os_le os_le ?_ ?_ ?_
  refine SE.toB ?_
  exact se_int
  refine SE.toB ?_
  refine se_ix ?_ ?_
  exact sb_v (pv 2)
  refine SE.toB ?_
  exact se_int
  exact sb_v (pv 1)
  refine ss_cons ?_ ?_
  refine ss_ret ?_
  exact se_bl
  exact ss_nil
  exact ss_nil
  refine ss_cons ?_ ?_
  refine ss_set (i := 1) nd (by rfl) (Or.inl rfl) ?_
  refine sx_callB pfM (call_min2 rfl) cs_min2 (by rfl) T.n_min (by decide +kernel) ?_
  refine sa_b ?_ ?_
  refine SE.toB ?_
  refine se_add ?_ ?_
  refine SE.toB ?_
  refine se_ix ?_ ?_
  exact sb_v (pv 2)
  refine SE.toB ?_
  exact se_int
  refine SE.toB ?_
  exact se_int
  refine sa_b ?_ ?_
  refine SE.toB ?_
  exact se_glE (by rfl) T.k_MOST_DEEP k_MOST_DEEP_rep
  exact sa_nil
  refine ss_wipe ?_
  exact ss_nil
  refine ss_cons ?_ ?_
  refine ss_ret ?_
  exact se_bl
  exact ss_nil
theorem sc_p_are_lines : FnScope ["some", "line"] ["some"] (defScope (top 22)) := ⟨rfl, rfl, rfl, by decide +kernel, rfl, by decide +kernel, by decide +kernel⟩
theorem ok_p_are_lines {P : Program} {w : World} {K : PySem.W.Frag} {mg : Str → Option Value} {base : Heap} {cl : ClsP} (T : Fs P w K mg cl) : FnOk P w K mg base (L2N.CX P w) 3 T.a_p_are_lines T.d_p_are_lines ["some"] (spOf K cl [true] m_p_are_lines) := by
  have nd := sc_p_are_lines.nd
  refine fn_ok (k := 1) (body := c_p_are_lines) T.F_p_are_lines sc_p_are_lines rfl rfl fun cdv A outer s H E hr tk => ?_
  refine ss_cons ?_ ?_
  refine ss_if ?_ ?_ ?_
  refine st_w ?_
  refine sw_or ?_ ?_
  refine st_not ?_
  refine st_val ?_ (fun _ => rfl)
  refine SE.toB ?_
  refine se_isT (by decide) (by rfl) T.n_isinstance (by decide +kernel) ?_ (by rfl) T.n_list (by decide +kernel)
  exact sb_v (pv 0)
  refine sw_or1 ?_
  refine st_gt ?_ ?_
  refine SE.toB ?_
  refine sx_callB pfM call_len cs_len (by rfl) T.n_len (by decide +kernel) ?_
  refine sa_b ?_ ?_
  exact sb_v (pv 0)
  exact sa_nil
  refine SE.toB ?_
  exact se_glE (by rfl) T.k_MOST_LINES k_MOST_LINES_rep
  refine ss_cons ?_ ?_
  refine ss_ret ?_
  exact se_bl
  exact ss_nil
  exact ss_nil
  refine ss_wipe ?_
  refine ss_cons ?_ ?_
  refine ss_for (by exact passes_of rfl) (by rfl) ?_ (pg_name (i := 1) nd (by rfl) (by first | exact Or.inl rfl | exact Or.inr rfl)) (tg_name) ?_
  exact si_bor (pv 0)
  refine ss_cons ?_ ?_
  refine ss_if ?_ ?_ ?_
  refine st_w ?_
  refine sw_or ?_ ?_
  refine st_not ?_
  refine st_val ?_ (fun _ => rfl)
  refine SE.toB ?_
  refine se_call (ok_p_are_marks T) (hr.mono (by decide)) (by rfl) T.g_p_are_marks T.F_p_are_marks.kp T.b_p_are_marks tk ?_
  refine sa_b ?_ ?_
  exact sb_v (pv 1)
  refine sa_b ?_ ?_
  refine SE.toB ?_
  exact se_glE (by rfl) T.k_MOST_LINES k_MOST_LINES_rep
  exact sa_nil
  refine sw_or1 ?_
  refine st_ne hr.units ?_ ?_
  refine SE.toB ?_
  refine sx_callB pfM call_len cs_len (by rfl) T.n_len (by decide +kernel) ?_
  refine sa_b ?_ ?_
  exact sb_v (pv 1)
  exact sa_nil
  refine SE.toB ?_
  refine sx_callB pfM call_len cs_len (by rfl) T.n_len (by decide +kernel) ?_
  refine sa_b ?_ ?_
  refine SE.toB ?_
  refine se_ix ?_ ?_
  exact sb_v (pv 0)
  refine SE.toB ?_
  exact se_int
  exact sa_nil
  refine ss_cons ?_ ?_
  refine ss_ret ?_
  exact se_bl
  exact ss_nil
  exact ss_nil
  refine ss_wipe ?_
  exact ss_nil
  refine ss_cons ?_ ?_
  refine ss_ret ?_
  exact se_bl
  exact ss_nil
theorem sc_p_Row_init : FnScope ["self", "marks"] ["self", "marks"] (defScope (inClass (top 24) 0)) := ⟨rfl, rfl, rfl, by decide +kernel, rfl, by decide +kernel, by decide +kernel⟩
theorem ok_p_Row_init {P : Program} {w : World} {K : PySem.W.Frag} {mg : Str → Option Value} {base : Heap} {cl : ClsP} (T : Fs P w K mg cl) (c : Nat) : FnOk P w K mg base (L2N.CX P w) 3 T.a_p_Row_init T.d_p_Row_init ["self", "marks"] (spIni K cl c [true] m_p_Row_init) := by
  have nd := sc_p_Row_init.nd
  refine ini_ok (k := 0) (body := c_p_Row_init) T.F_p_Row_init sc_p_Row_init rfl rfl fun cdv A outer s H E hr tk => ?_
  refine ss_cons ?_ ?_
  refine ss_if ?_ ?_ ?_
  refine st_not ?_
  refine st_val ?_ (fun _ => rfl)
  refine SE.toB ?_
  refine se_call (ok_p_are_marks T) (hr.mono (by decide)) (by rfl) T.g_p_are_marks T.F_p_are_marks.kp T.b_p_are_marks tk ?_
  refine sa_b ?_ ?_
  exact sb_v (pv 1)
  refine sa_b ?_ ?_
  refine SE.toB ?_
  exact se_glE (by rfl) T.k_MOST_PLACES k_MOST_PLACES_rep
  exact sa_nil
  refine ss_cons ?_ ?_
  exact ss_raise (by rfl) tk T.ex_NoThing T.gc_NoThing (by rfl)
  exact ss_nil
  exact ss_nil
  refine ss_cons ?_ ?_
  refine ss_fldMe (info T) (pv 0) ?_
  refine SN.toE ?_
  refine sx_callTy pnM call_list_of cs_list (by rfl) T.n_list (by decide +kernel) ?_
  refine sa_b ?_ ?_
  exact sb_v (pv 1)
  exact sa_nil
  refine ss_wipe ?_
  exact ss_nil
theorem sc_p_Row_form : FnScope ["self"] ["self"] (defScope (inClass (top 24) 4)) := ⟨rfl, rfl, rfl, by decide +kernel, rfl, by decide +kernel, by decide +kernel⟩
theorem ok_p_Row_form {P : Program} {w : World} {K : PySem.W.Frag} {mg : Str → Option Value} {base : Heap} {cl : ClsP} (T : Fs P w K mg cl) : FnOk P w K mg base (L2N.CX P w) 1 T.a_p_Row_form T.d_p_Row_form ["self"] (spOf K cl [true] m_p_Row_form) := by
  have nd := sc_p_Row_form.nd
  refine fn_ok (k := 0) (body := c_p_Row_form) T.F_p_Row_form sc_p_Row_form rfl rfl fun cdv A outer s H E hr tk => ?_
  refine ss_cons ?_ ?_
  refine ss_ret ?_
  refine se_tup (bm := [false, false]) ?_
  refine sa_f ?_ ?_
  exact se_str
  refine sa_f ?_ ?_
  refine sx_callTy pfM call_tuple_of cs_tuple (by rfl) T.n_tuple (by decide +kernel) ?_
  refine sa_b ?_ ?_
  refine SE.toB ?_
  refine se_fld (info T) ?_
  exact sb_v (pv 0)
  exact sa_nil
  exact sa_nil
  exact ss_nil
theorem sc_p_Forest_init : FnScope ["self", "nodes"] ["self", "nodes"] (defScope (inClass (top 25) 0)) := ⟨rfl, rfl, rfl, by decide +kernel, rfl, by decide +kernel, by decide +kernel⟩
theorem ok_p_Forest_init {P : Program} {w : World} {K : PySem.W.Frag} {mg : Str → Option Value} {base : Heap} {cl : ClsP} (T : Fs P w K mg cl) (c : Nat) : FnOk P w K mg base (L2N.CX P w) 3 T.a_p_Forest_init T.d_p_Forest_init ["self", "nodes"] (spIni K cl c [true] m_p_Forest_init) := by
  have nd := sc_p_Forest_init.nd
  refine ini_ok (k := 0) (body := c_p_Forest_init) T.F_p_Forest_init sc_p_Forest_init rfl rfl fun cdv A outer s H E hr tk => ?_
  refine ss_cons ?_ ?_
  refine ss_if ?_ ?_ ?_
  refine st_not ?_
  refine st_val ?_ (fun _ => rfl)
  refine SE.toB ?_
  refine se_call (ok_p_are_nodes T) (hr.mono (by decide)) (by rfl) T.g_p_are_nodes T.F_p_are_nodes.kp T.b_p_are_nodes tk ?_
  refine sa_b ?_ ?_
  exact sb_v (pv 1)
  exact sa_nil
  refine ss_cons ?_ ?_
  exact ss_raise (by rfl) tk T.ex_NoThing T.gc_NoThing (by rfl)
  exact ss_nil
  exact ss_nil
  refine ss_cons ?_ ?_
  refine ss_fldMe (info T) (pv 0) ?_
  refine SN.toE ?_
  refine sx_callTy pnM call_list_of cs_list (by rfl) T.n_list (by decide +kernel) ?_
  refine sa_b ?_ ?_
  exact sb_v (pv 1)
  exact sa_nil
  refine ss_wipe ?_
  exact ss_nil
theorem sc_p_Forest_form : FnScope ["self"] ["self"] (defScope (inClass (top 25) 4)) := ⟨rfl, rfl, rfl, by decide +kernel, rfl, by decide +kernel, by decide +kernel⟩
theorem ok_p_Forest_form {P : Program} {w : World} {K : PySem.W.Frag} {mg : Str → Option Value} {base : Heap} {cl : ClsP} (T : Fs P w K mg cl) : FnOk P w K mg base (L2N.CX P w) 1 T.a_p_Forest_form T.d_p_Forest_form ["self"] (spOf K cl [true] m_p_Forest_form) := by
  have nd := sc_p_Forest_form.nd
  refine fn_ok (k := 0) (body := c_p_Forest_form) T.F_p_Forest_form sc_p_Forest_form rfl rfl fun cdv A outer s H E hr tk => ?_
  refine ss_cons ?_ ?_
  refine ss_ret ?_
  refine se_tup (bm := [false, false]) ?_
  refine sa_f ?_ ?_
  exact se_str
  refine sa_f ?_ ?_
  refine sx_callTy pfM call_tuple_of cs_tuple (by rfl) T.n_tuple (by decide +kernel) ?_
  refine sa_b ?_ ?_
  refine SE.toB ?_
  refine se_fld (info T) ?_
  exact sb_v (pv 0)
  exact sa_nil
  exact sa_nil
  exact ss_nil
theorem sc_p_Table_init : FnScope ["self", "lines", "line"] ["self", "lines"] (defScope (inClass (top 26) 0)) := ⟨rfl, rfl, rfl, by decide +kernel, rfl, by decide +kernel, by decide +kernel⟩
theorem ok_p_Table_init {P : Program} {w : World} {K : PySem.W.Frag} {mg : Str → Option Value} {base : Heap} {cl : ClsP} (T : Fs P w K mg cl) (c : Nat) : FnOk P w K mg base (L2N.CX P w) 4 T.a_p_Table_init T.d_p_Table_init ["self", "lines"] (spIni K cl c [true] m_p_Table_init) := by
  have nd := sc_p_Table_init.nd
  refine ini_ok (k := 1) (body := c_p_Table_init) T.F_p_Table_init sc_p_Table_init rfl rfl fun cdv A outer s H E hr tk => ?_
  refine ss_cons ?_ ?_
  refine ss_if ?_ ?_ ?_
  refine st_not ?_
  refine st_val ?_ (fun _ => rfl)
  refine SE.toB ?_
  refine se_call (ok_p_are_lines T) (hr.mono (by decide)) (by rfl) T.g_p_are_lines T.F_p_are_lines.kp T.b_p_are_lines tk ?_
  refine sa_b ?_ ?_
  exact sb_v (pv 1)
  exact sa_nil
  refine ss_cons ?_ ?_
  exact ss_raise (by rfl) tk T.ex_NoThing T.gc_NoThing (by rfl)
  exact ss_nil
  exact ss_nil
  refine ss_cons ?_ ?_
  refine ss_fldMe (info T) (pv 0) ?_
  refine SN.toE ?_
  refine sn_lc (own := [("line", 2)]) rfl nd ?_ ?_ (fun _ _ _ _ _ => pg_name (i := 2) nd (by rfl) (by first | exact Or.inl rfl | exact Or.inr rfl)) (tg_name) (tgo_name (by decide)) ?_ ?_
  exact si_bor (pv 1)
  exact blkOk_by (N := ["self", "lines", "line"]) (sc := defScope (inClass (top 26) 0)) (own := [("line", 2)]) (by decide +kernel)
  intro _ _ _ _ _
  exact sts_nil
  intro _ _ _ _ _
  refine SN.toE ?_
  refine sx_callTy pnM call_list_of cs_list (by rfl) T.n_list (by decide +kernel) ?_
  refine sa_b ?_ ?_
  exact sb_v (pv 2)
  exact sa_nil
  refine ss_cons ?_ ?_
  refine ss_fldMe (info T) (pv 0) ?_
  exact se_int
  refine ss_cons ?_ ?_
  refine ss_if ?_ ?_ ?_
  refine st_gt ?_ ?_
  refine SE.toB ?_
  refine sx_callB pfM call_len cs_len (by rfl) T.n_len (by decide +kernel) ?_
  refine sa_b ?_ ?_
  exact sb_v (pv 1)
  exact sa_nil
  refine SE.toB ?_
  exact se_int
  refine ss_cons ?_ ?_
  refine ss_fldMe (info T) (pv 0) ?_
  refine sx_callB pfM call_len cs_len (by rfl) T.n_len (by decide +kernel) ?_
  refine sa_b ?_ ?_
  refine SE.toB ?_
  refine se_ix ?_ ?_
  exact sb_v (pv 1)
  refine SE.toB ?_
  exact se_int
  exact sa_nil
  exact ss_nil
  exact ss_nil
  refine ss_wipe ?_
  exact ss_nil
theorem sc_p_Table_form : FnScope ["self", "line"] ["self"] (defScope (inClass (top 26) 4)) := ⟨rfl, rfl, rfl, by decide +kernel, rfl, by decide +kernel, by decide +kernel⟩
theorem ok_p_Table_form {P : Program} {w : World} {K : PySem.W.Frag} {mg : Str → Option Value} {base : Heap} {cl : ClsP} (T : Fs P w K mg cl) : FnOk P w K mg base (L2N.CX P w) 1 T.a_p_Table_form T.d_p_Table_form ["self"] (spOf K cl [true] m_p_Table_form) := by
  have nd := sc_p_Table_form.nd
  refine fn_ok (k := 1) (body := c_p_Table_form) T.F_p_Table_form sc_p_Table_form rfl rfl fun cdv A outer s H E hr tk => ?_
  refine ss_cons ?_ ?_
  refine ss_ret ?_
  refine se_tup (bm := [false, false, false]) ?_
  refine sa_f ?_ ?_
  exact se_str
  refine sa_f ?_ ?_
  refine se_fld (info T) ?_
  exact sb_v (pv 0)
  refine sa_f ?_ ?_
  refine sx_callTy pfM call_tuple_of cs_tuple (by rfl) T.n_tuple (by decide +kernel) ?_
  refine sa_b ?_ ?_
  refine SE.toB ?_
  refine SN.toE ?_
  refine sn_lc (own := [("line", 1)]) rfl nd ?_ ?_ (fun _ _ _ _ _ => pg_name (i := 1) nd (by rfl) (by first | exact Or.inl rfl | exact Or.inr rfl)) (tg_name) (tgo_name (by decide)) ?_ ?_
  refine si_list ?_
  refine se_fld (info T) ?_
  exact sb_v (pv 0)
  exact blkOk_by (N := ["self", "line"]) (sc := defScope (inClass (top 26) 4)) (own := [("line", 1)]) (by decide +kernel)
  intro _ _ _ _ _
  exact sts_nil
  intro _ _ _ _ _
  refine sx_callTy pfM call_tuple_of cs_tuple (by rfl) T.n_tuple (by decide +kernel) ?_
  refine sa_b ?_ ?_
  exact sb_v (pv 1)
  exact sa_nil
  exact sa_nil
  exact sa_nil
  exact ss_nil
theorem sc_p_read_line : FnScope ["words"] ["words"] (defScope (top 28)) := ⟨rfl, rfl, rfl, by decide +kernel, rfl, by decide +kernel, by decide +kernel⟩
theorem ok_p_read_line {P : Program} {w : World} {K : PySem.W.Frag} {mg : Str → Option Value} {base : Heap} {cl : ClsP} (T : Fs P w K mg cl) : FnOk P w K mg base (L2N.CX P w) 1 T.a_p_read_line T.d_p_read_line ["words"] (spOf K cl [false] m_p_read_line) := by
  have nd := sc_p_read_line.nd
  refine fn_ok (k := 0) (body := c_p_read_line) T.F_p_read_line sc_p_read_line rfl rfl fun cdv A outer s H E hr tk => ?_
  refine ss_cons ?_ ?_
  refine ss_if ?_ ?_ ?_
  refine st_eq hr.units ?_ ?_
  refine SE.toB ?_
  refine sx_callB pfM call_len cs_len (by rfl) T.n_len (by decide +kernel) ?_
  refine sa_b ?_ ?_
  exact sb_v (pv 0)
  exact sa_nil
  refine SE.toB ?_
  exact se_int
  refine ss_cons ?_ ?_
  exact ss_raise (by rfl) tk T.ex_NoText T.gc_NoText (by rfl)
  exact ss_nil
  exact ss_nil
  refine ss_cons ?_ ?_
  refine ss_if ?_ ?_ ?_
  refine st_eq hr.units ?_ ?_
  exact sb_v (pv 0)
  refine SE.toB ?_
  refine SN.toE ?_
  refine sn_lst (bm := [false]) ?_
  refine sa_f ?_ ?_
  exact se_str
  exact sa_nil
  refine ss_cons ?_ ?_
  refine ss_retN ?_
  refine sn_lst (bm := []) ?_
  exact sa_nil
  exact ss_nil
  exact ss_nil
  refine ss_cons ?_ ?_
  refine ss_ret ?_
  exact se_v (pv 0)
  exact ss_nil
theorem sc_p_read_lines : FnScope ["words", "lines", "line", "word"] ["words"] (defScope (top 29)) := ⟨rfl, rfl, rfl, by decide +kernel, rfl, by decide +kernel, by decide +kernel⟩
theorem ok_p_read_lines {P : Program} {w : World} {K : PySem.W.Frag} {mg : Str → Option Value} {base : Heap} {cl : ClsP} (T : Fs P w K mg cl) : FnOk P w K mg base (L2N.CX P w) 2 T.a_p_read_lines T.d_p_read_lines ["words"] (spOf K cl [true] m_p_read_lines) := by
  have nd := sc_p_read_lines.nd
  refine fn_ok (k := 3) (body := c_p_read_lines) T.F_p_read_lines sc_p_read_lines rfl rfl fun cdv A outer s H E hr tk => ?_
  refine ss_cons ?_ ?_
  refine ss_setN (i := 1) nd (by rfl) (Or.inl rfl) ?_
  refine sn_lst (bm := []) ?_
  exact sa_nil
  refine ss_cons ?_ ?_
  refine ss_setN (i := 2) nd (by rfl) (Or.inl rfl) ?_
  refine sn_lst (bm := []) ?_
  exact sa_nil
  refine ss_wipe ?_
  refine ss_cons ?_ ?_
  refine ss_for (by exact passes_of rfl) (by rfl) ?_ (pg_name (i := 3) nd (by rfl) (by first | exact Or.inl rfl | exact Or.inr rfl)) (tg_name) ?_
  exact si_bor (pv 0)
  refine ss_cons ?_ ?_
  refine ss_if ?_ ?_ ?_
  refine st_eq hr.units ?_ ?_
  exact sb_v (pv 3)
  refine SE.toB ?_
  exact se_str
  refine ss_fz ?_
  refine ss_cons ?_ ?_
  refine ss_lm PySem.F.slot_list_append PySem.F.type_list_append mt_append lm_append (pv 1) ?_
  refine sa_f ?_ ?_
  refine se_call (ok_p_read_line T) (hr.mono (by decide)) (by rfl) T.g_p_read_line T.F_p_read_line.kp T.b_p_read_line tk ?_
  refine sa_f ?_ ?_
  exact se_v (pv 2)
  exact sa_nil
  exact sa_nil
  refine ss_cons ?_ ?_
  refine ss_setN (i := 2) nd (by rfl) (Or.inl rfl) ?_
  refine sn_lst (bm := []) ?_
  exact sa_nil
  exact ss_nil
  refine ss_cons ?_ ?_
  refine ss_lm PySem.F.slot_list_append PySem.F.type_list_append mt_append lm_append (pv 2) ?_
  refine sa_f ?_ ?_
  exact se_v (pv 3)
  exact sa_nil
  exact ss_nil
  refine ss_wipe ?_
  exact ss_nil
  refine ss_cons ?_ ?_
  refine ss_if ?_ ?_ ?_
  refine st_gt ?_ ?_
  refine SE.toB ?_
  refine sx_callB pfM call_len cs_len (by rfl) T.n_len (by decide +kernel) ?_
  refine sa_b ?_ ?_
  exact sb_v (pv 0)
  exact sa_nil
  refine SE.toB ?_
  exact se_int
  refine ss_fz ?_
  refine ss_cons ?_ ?_
  refine ss_lm PySem.F.slot_list_append PySem.F.type_list_append mt_append lm_append (pv 1) ?_
  refine sa_f ?_ ?_
  refine se_call (ok_p_read_line T) (hr.mono (by decide)) (by rfl) T.g_p_read_line T.F_p_read_line.kp T.b_p_read_line tk ?_
  refine sa_f ?_ ?_
  exact se_v (pv 2)
  exact sa_nil
  exact sa_nil
  refine ss_wipe ?_
  exact ss_nil
  refine ss_wipe ?_
  exact ss_nil
  refine ss_cons ?_ ?_
  exact ss_retV (pv 1)
  exact ss_nil
theorem sc_p_read_nodes : FnScope ["text", "nodes", "depth", "mark", "closed", "sign"] ["text"] (defScope (top 30)) := ⟨rfl, rfl, rfl, by decide +kernel, rfl, by decide +kernel, by decide +kernel⟩
theorem ok_p_read_nodes {P : Program} {w : World} {K : PySem.W.Frag} {mg : Str → Option Value} {base : Heap} {cl : ClsP} (T : Fs P w K mg cl) : FnOk P w K mg base (L2N.CX P w) 1 T.a_p_read_nodes T.d_p_read_nodes ["text"] (spOf K cl [true] m_p_read_nodes) := by
  have nd := sc_p_read_nodes.nd
  refine fn_ok (k := 5) (body := c_p_read_nodes) T.F_p_read_nodes sc_p_read_nodes rfl rfl fun cdv A outer s H E hr tk => ?_
  refine ss_cons ?_ ?_
  refine ss_setN (i := 1) nd (by rfl) (Or.inl rfl) ?_
  refine sn_lst (bm := []) ?_
  exact sa_nil
  refine ss_cons ?_ ?_
  refine ss_set (i := 2) nd (by rfl) (Or.inl rfl) ?_
  exact se_int
  refine ss_cons ?_ ?_
  refine ss_set (i := 3) nd (by rfl) (Or.inl rfl) ?_
  exact se_str
  refine ss_cons ?_ ?_
  refine ss_set (i := 4) nd (by rfl) (Or.inl rfl) ?_
  exact se_bl
  refine ss_wipe ?_
  refine ss_cons ?_ ?_
  refine ss_for (by exact passes_of rfl) (by rfl) ?_ (pg_name (i := 5) nd (by rfl) (by first | exact Or.inl rfl | exact Or.inr rfl)) (tg_name) ?_
  refine si_str ?_
  refine SE.toB ?_
  refine se_add ?_ ?_
  exact sb_v (pv 0)
  refine SE.toB ?_
  exact se_str
  refine ss_cons ?_ ?_
  refine ss_if ?_ ?_ ?_
  refine st_w ?_
  refine sw_and ?_ ?_
  refine st_in hr.u65 ?_ ?_ (by rfl)
  exact sb_v (pv 5)
  refine SE.toB ?_
  exact se_glE (by rfl) T.k_LETTERS k_LETTERS_rep
  refine sw_and1 ?_
  refine st_not ?_
  refine st_val ?_ (fun _ => rfl)
  exact sb_v (pv 4)
  refine ss_cons ?_ ?_
  refine ss_set (i := 3) nd (by rfl) (Or.inl rfl) ?_
  refine se_add ?_ ?_
  exact sb_v (pv 3)
  exact sb_v (pv 5)
  refine ss_wipe ?_
  refine ss_cons ?_ ?_
  exact ss_cnt
  exact ss_nil
  exact ss_nil
  refine ss_cons ?_ ?_
  refine ss_if ?_ ?_ ?_
  refine st_nin hr.u65 ?_ ?_ (by rfl)
  exact sb_v (pv 5)
  refine SE.toB ?_
  exact se_str
  refine ss_cons ?_ ?_
  exact ss_raise (by rfl) tk T.ex_NoText T.gc_NoText (by rfl)
  exact ss_nil
  exact ss_nil
  refine ss_cons ?_ ?_
  refine ss_if ?_ ?_ ?_
  refine st_ne hr.units ?_ ?_
  exact sb_v (pv 3)
  refine SE.toB ?_
  exact se_str
  refine ss_cons ?_ ?_
  refine ss_lm PySem.F.slot_list_append PySem.F.type_list_append mt_append lm_append (pv 1) ?_
  refine sa_f ?_ ?_
  refine se_tup (bm := [false, false]) ?_
  refine sa_f ?_ ?_
  exact se_v (pv 3)
  refine sa_f ?_ ?_
  exact se_v (pv 2)
  exact sa_nil
  exact sa_nil
  refine ss_wipe ?_
  exact ss_nil
  refine ss_cons ?_ ?_
  refine ss_if ?_ ?_ ?_
  refine st_w ?_
  refine sw_or ?_ ?_
  refine st_not ?_
  refine st_val ?_ (fun _ => rfl)
  exact sb_v (pv 4)
  refine sw_or1 ?_
  refine st_eq hr.units ?_ ?_
  exact sb_v (pv 5)
  refine SE.toB ?_
  exact se_str
  refine ss_cons ?_ ?_
  exact ss_raise (by rfl) tk T.ex_NoText T.gc_NoText (by rfl)
  exact ss_nil
  exact ss_nil
  refine ss_wipe ?_
  exact ss_nil
  refine ss_cons ?_ ?_
  refine ss_set (i := 3) nd (by rfl) (Or.inl rfl) ?_
  exact se_str
  refine ss_cons ?_ ?_
  refine ss_set (i := 4) nd (by rfl) (Or.inl rfl) ?_
  refine se_eq hr.units ?_ ?_
  exact sb_v (pv 5)
  refine SE.toB ?_
  exact se_str
  refine ss_cons ?_ ?_
  refine ss_if ?_ ?_ ?_
  refine st_eq hr.units ?_ ?_
  exact sb_v (pv 5)
  refine SE.toB ?_
  exact se_str
  refine ss_cons ?_ ?_
  refine ss_aug (i := 2) nd (by rfl) (Or.inl rfl) ?_ ip_add is_add
  refine SE.toB ?_
  exact se_int
  refine ss_wipe ?_
  exact ss_nil
  refine ss_wipe ?_
  exact ss_nil
  refine ss_cons ?_ ?_
  refine ss_if ?_ ?_ ?_
  refine st_val ?_ (fun _ => rfl)
  exact sb_v (pv 4)
  refine ss_cons ?_ ?_
  refine ss_aug (i := 2) nd (by rfl) (Or.inl rfl) ?_ ip_sub is_sub
  refine SE.toB ?_
  exact se_int
  refine ss_wipe ?_
  exact ss_nil
  refine ss_wipe ?_
  exact ss_nil
  refine ss_cons ?_ ?_
  refine ss_if ?_ ?_ ?_
  refine st_lt ?_ ?_
  exact sb_v (pv 2)
  refine SE.toB ?_
  exact se_int
  refine ss_cons ?_ ?_
  exact ss_raise (by rfl) tk T.ex_NoText T.gc_NoText (by rfl)
  exact ss_nil
  exact ss_nil
  refine ss_wipe ?_
  exact ss_nil
  refine ss_cons ?_ ?_
  refine ss_if ?_ ?_ ?_
  refine st_ne hr.units ?_ ?_
  exact sb_v (pv 2)
  refine SE.toB ?_
  exact se_int
  refine ss_cons ?_ ?_
  exact ss_raise (by rfl) tk T.ex_NoText T.gc_NoText (by rfl)
  exact ss_nil
  exact ss_nil
  refine ss_cons ?_ ?_
  exact ss_retV (pv 1)
  exact ss_nil
theorem sc_p_thing_of : FnScope ["words"] ["words"] (defScope (top 31)) := ⟨rfl, rfl, rfl, by decide +kernel, rfl, by decide +kernel, by decide +kernel⟩
theorem ok_p_thing_of {P : Program} {w : World} {K : PySem.W.Frag} {mg : Str → Option Value} {base : Heap} {cl : ClsP} (T : Fs P w K mg cl) : FnOk P w K mg base (L2N.CX P w) 6 T.a_p_thing_of T.d_p_thing_of ["words"] (spOf K cl [true] m_p_thing_of) := by
  have nd := sc_p_thing_of.nd
  refine fn_ok (k := 0) (body := c_p_thing_of) T.F_p_thing_of sc_p_thing_of rfl rfl fun cdv A outer s H E hr tk => ?_
  refine ss_cons ?_ ?_
  refine ss_if ?_ ?_ ?_
  refine st_eq hr.units ?_ ?_
  refine SE.toB ?_
  refine se_ix ?_ ?_
  exact sb_v (pv 0)
  refine SE.toB ?_
  exact se_int
  refine SE.toB ?_
  exact se_str
  refine ss_cons ?_ ?_
  refine ss_retN ?_
  refine sn_make T.mk_Row (ok_p_Row_init T 10) (hr.mono (by decide)) (by rfl) T.gc_Row T.b_p_Row_init tk ?_
  refine sa_b ?_ ?_
  refine SE.toB ?_
  refine se_cut ?_ ?_ ?_
  exact sb_v (pv 0)
  refine so_at ?_
  refine SE.toB ?_
  exact se_int
  exact so_no
  exact sa_nil
  exact ss_nil
  exact ss_nil
  refine ss_cons ?_ ?_
  refine ss_if ?_ ?_ ?_
  refine st_eq hr.units ?_ ?_
  refine SE.toB ?_
  refine se_ix ?_ ?_
  exact sb_v (pv 0)
  refine SE.toB ?_
  exact se_int
  refine SE.toB ?_
  exact se_str
  refine ss_cons ?_ ?_
  refine ss_retN ?_
  refine sn_make T.mk_Table (ok_p_Table_init T 12) (hr.mono (by decide)) (by rfl) T.gc_Table T.b_p_Table_init tk ?_
  refine sa_b ?_ ?_
  refine SE.toB ?_
  refine se_call (ok_p_read_lines T) (hr.mono (by decide)) (by rfl) T.g_p_read_lines T.F_p_read_lines.kp T.b_p_read_lines tk ?_
  refine sa_b ?_ ?_
  refine SE.toB ?_
  refine se_cut ?_ ?_ ?_
  exact sb_v (pv 0)
  refine so_at ?_
  refine SE.toB ?_
  exact se_int
  exact so_no
  exact sa_nil
  exact sa_nil
  exact ss_nil
  exact ss_nil
  refine ss_cons ?_ ?_
  refine ss_if ?_ ?_ ?_
  refine st_w ?_
  refine sw_or ?_ ?_
  refine st_ne hr.units ?_ ?_
  refine SE.toB ?_
  refine se_ix ?_ ?_
  exact sb_v (pv 0)
  refine SE.toB ?_
  exact se_int
  refine SE.toB ?_
  exact se_str
  refine sw_or1 ?_
  refine st_gt ?_ ?_
  refine SE.toB ?_
  refine sx_callB pfM call_len cs_len (by rfl) T.n_len (by decide +kernel) ?_
  refine sa_b ?_ ?_
  exact sb_v (pv 0)
  exact sa_nil
  refine SE.toB ?_
  exact se_int
  refine ss_cons ?_ ?_
  exact ss_raise (by rfl) tk T.ex_NoText T.gc_NoText (by rfl)
  exact ss_nil
  exact ss_nil
  refine ss_cons ?_ ?_
  refine ss_if ?_ ?_ ?_
  refine st_eq hr.units ?_ ?_
  refine SE.toB ?_
  refine sx_callB pfM call_len cs_len (by rfl) T.n_len (by decide +kernel) ?_
  refine sa_b ?_ ?_
  exact sb_v (pv 0)
  exact sa_nil
  refine SE.toB ?_
  exact se_int
  refine ss_cons ?_ ?_
  refine ss_retN ?_
  refine sn_make T.mk_Forest (ok_p_Forest_init T 11) (hr.mono (by decide)) (by rfl) T.gc_Forest T.b_p_Forest_init tk ?_
  refine sa_b ?_ ?_
  refine SE.toB ?_
  refine SN.toE ?_
  refine sn_lst (bm := []) ?_
  exact sa_nil
  exact sa_nil
  exact ss_nil
  exact ss_nil
  refine ss_cons ?_ ?_
  refine ss_retN ?_
  refine sn_make T.mk_Forest (ok_p_Forest_init T 11) (hr.mono (by decide)) (by rfl) T.gc_Forest T.b_p_Forest_init tk ?_
  refine sa_b ?_ ?_
  refine SE.toB ?_
  refine se_call (ok_p_read_nodes T) (hr.mono (by decide)) (by rfl) T.g_p_read_nodes T.F_p_read_nodes.kp T.b_p_read_nodes tk ?_
  refine sa_b ?_ ?_
  refine SE.toB ?_
  refine se_ix ?_ ?_
  exact sb_v (pv 0)
  refine SE.toB ?_
  exact se_int
  exact sa_nil
  exact sa_nil
  exact ss_nil
theorem sc_p_read_thing : FnScope ["text", "found"] ["text"] (defScope (top 32)) := ⟨rfl, rfl, rfl, by decide +kernel, rfl, by decide +kernel, by decide +kernel⟩
namespace E
theorem ok_p_read_thing {P : Program} {w : World} {K : PySem.W.Frag} {mg : Str → Option Value} {base : Heap} {cl : ClsP} (T : Fs P w K mg cl) : FnOk P w K mg base (L2B.CX P w) 7 T.a_p_read_thing T.d_p_read_thing ["text"] (spOf K cl [true] m_p_read_thing) := by
  have nd := sc_p_read_thing.nd
  refine fn_ok (k := 1) (body := c_p_read_thing) T.F_p_read_thing sc_p_read_thing rfl rfl fun cdv A outer s H E hr tk => ?_
  refine ss_cons ?_ ?_
  refine ss_if ?_ ?_ ?_
  refine st_not ?_
  refine st_val ?_ (fun _ => rfl)
  refine SE.toB ?_
  refine se_isT (by decide) (by rfl) T.n_isinstance (by decide +kernel) ?_ (by rfl) T.n_str (by decide +kernel)
  exact sb_v (pv 0)
  refine ss_cons ?_ ?_
  exact ss_raise (by rfl) tk T.ex_NoText T.gc_NoText (by rfl)
  exact ss_nil
  exact ss_nil
  refine ss_cons ?_ ?_
  refine ss_tryR tk ⟨by rfl, by decide, .inl T.gc_NoThing⟩ (hit_ok_NoThing T) (by exact L2H.passesAt_of rfl) ?_ ?_
  intro e oe pn tk hot
  refine ss_cons ?_ ?_
  exact ss_raiseH hot rfl tk T.ex_NoText T.gc_NoText (by rfl)
  exact ss_nil
  intro W pn xe tk ps
  refine ss_cons ?_ ?_
  exact ss_set (i := 1) nd (by rfl) (Or.inl rfl) (PM.se_call (PM.ok_p_thing_of T) (hr.mono (by decide)) (by rfl) T.g_p_thing_of T.F_p_thing_of.kp T.b_p_thing_of tk (sa_b (SE.toB (SN.toE (sn_split (sb_v (pv 0)) (SE.toB (se_str))))) (sa_nil)))
  refine ss_wipe ?_
  exact ss_nil
  refine ss_cons ?_ ?_
  refine ss_ret ?_
  exact se_v (pv 1)
  exact ss_nil
end E
theorem sc_l_cell_at : FnScope ["_law_script", "_law_k"] ["_law_script", "_law_k"] (defScope (top 34)) := ⟨rfl, rfl, rfl, by decide +kernel, rfl, by decide +kernel, by decide +kernel⟩
theorem ok_l_cell_at {P : Program} {w : World} {K : PySem.W.Frag} {mg : Str → Option Value} {base : Heap} {cl : ClsP} (T : Fs P w K mg cl) : FnOk P w K mg base (L2N.CX P w) 1 T.a_l_cell_at T.d_l_cell_at ["_law_script", "_law_k"] (spOf K cl [true, true] m_l_cell_at) := by
  have nd := sc_l_cell_at.nd
  refine fn_ok (k := 0) (body := c_l_cell_at) T.F_l_cell_at sc_l_cell_at rfl rfl fun cdv A outer s H E hr tk => ?_
  refine ss_cons ?_ ?_
  refine ss_if ?_ ?_ ?_
  refine st_lt ?_ ?_
  exact sb_v (pv 1)
  refine SE.toB ?_
  refine sx_callB pfM call_len cs_len (by rfl) T.n_len (by decide +kernel) ?_
  refine sa_b ?_ ?_
  exact sb_v (pv 0)
  exact sa_nil
  refine ss_cons ?_ ?_
  refine ss_ret ?_
  refine se_ix ?_ ?_
  exact sb_v (pv 0)
  exact sb_v (pv 1)
  exact ss_nil
  exact ss_nil
  refine ss_cons ?_ ?_
  refine ss_ret ?_
  exact se_int
  exact ss_nil
theorem sc_l_how_many : FnScope ["_law_number"] ["_law_number"] (defScope (top 36)) := ⟨rfl, rfl, rfl, by decide +kernel, rfl, by decide +kernel, by decide +kernel⟩
theorem ok_l_how_many {P : Program} {w : World} {K : PySem.W.Frag} {mg : Str → Option Value} {base : Heap} {cl : ClsP} (T : Fs P w K mg cl) : FnOk P w K mg base (L2N.CX P w) 1 T.a_l_how_many T.d_l_how_many ["_law_number"] (spOf K cl [true] m_l_how_many) := by
  have nd := sc_l_how_many.nd
  refine fn_ok (k := 0) (body := c_l_how_many) T.F_l_how_many sc_l_how_many rfl rfl fun cdv A outer s H E hr tk => ?_
  refine ss_cons ?_ ?_
  refine ss_if ?_ ?_ ?_
  refine st_eq hr.units ?_ ?_
  refine SE.toB ?_
  refine se_mod ?_ ?_
  refine SE.toB ?_
  refine se_div ?_ ?_
  exact sb_v (pv 0)
  refine SE.toB ?_
  exact se_int
  refine SE.toB ?_
  exact se_int
  refine SE.toB ?_
  exact se_int
  refine ss_cons ?_ ?_
  refine ss_ret ?_
  refine se_add ?_ ?_
  refine SE.toB ?_
  exact se_int
  refine SE.toB ?_
  refine se_mod ?_ ?_
  refine SE.toB ?_
  refine se_div ?_ ?_
  exact sb_v (pv 0)
  refine SE.toB ?_
  exact se_int
  refine SE.toB ?_
  exact se_int
  exact ss_nil
  exact ss_nil
  refine ss_cons ?_ ?_
  refine ss_ret ?_
  refine se_add ?_ ?_
  refine SE.toB ?_
  exact se_int
  refine SE.toB ?_
  refine se_mod ?_ ?_
  exact sb_v (pv 0)
  refine SE.toB ?_
  exact se_int
  exact ss_nil
theorem sc_l_marks : FnScope ["_law_cell", "_law_many", "_law_letters", "_law_base", "_law_at", "_law_first", "_law_step", "_law_k"] ["_law_cell", "_law_many"] (defScope (top 37)) := ⟨rfl, rfl, rfl, by decide +kernel, rfl, by decide +kernel, by decide +kernel⟩
theorem ok_l_marks {P : Program} {w : World} {K : PySem.W.Frag} {mg : Str → Option Value} {base : Heap} {cl : ClsP} (T : Fs P w K mg cl) : FnOk P w K mg base (L2N.CX P w) 1 T.a_l_marks T.d_l_marks ["_law_cell", "_law_many"] (spOf K cl [true, true] m_l_marks) := by
  have nd := sc_l_marks.nd
  refine fn_ok (k := 6) (body := c_l_marks) T.F_l_marks sc_l_marks rfl rfl fun cdv A outer s H E hr tk => ?_
  refine ss_cons ?_ ?_
  refine ss_set (i := 2) nd (by rfl) (Or.inr rfl) ?_
  exact se_str
  refine ss_cons ?_ ?_
  refine ss_set (i := 3) nd (by rfl) (Or.inr rfl) ?_
  refine se_cut ?_ ?_ ?_
  refine SE.toB ?_
  exact se_str
  exact so_no
  refine so_at ?_
  refine SE.toB ?_
  refine se_mod ?_ ?_
  exact sb_v (pv 0)
  refine SE.toB ?_
  exact se_int
  refine ss_cons ?_ ?_
  refine ss_set (i := 4) nd (by rfl) (Or.inr rfl) ?_
  refine se_mod ?_ ?_
  refine SE.toB ?_
  refine se_div ?_ ?_
  exact sb_v (pv 0)
  refine SE.toB ?_
  exact se_int
  refine SE.toB ?_
  refine se_add ?_ ?_
  refine SE.toB ?_
  refine sx_callB pfM call_len cs_len (by rfl) T.n_len (by decide +kernel) ?_
  refine sa_b ?_ ?_
  exact sb_v (pv 3)
  exact sa_nil
  refine SE.toB ?_
  exact se_int
  refine ss_cons ?_ ?_
  refine ss_set (i := 5) nd (by rfl) (Or.inr rfl) ?_
  refine se_mod ?_ ?_
  refine SE.toB ?_
  refine se_div ?_ ?_
  exact sb_v (pv 0)
  refine SE.toB ?_
  exact se_int
  refine SE.toB ?_
  exact se_int
  refine ss_cons ?_ ?_
  refine ss_set (i := 6) nd (by rfl) (Or.inr rfl) ?_
  refine se_add ?_ ?_
  refine SE.toB ?_
  exact se_int
  refine SE.toB ?_
  refine se_mod ?_ ?_
  refine SE.toB ?_
  refine se_div ?_ ?_
  exact sb_v (pv 0)
  refine SE.toB ?_
  exact se_int
  refine SE.toB ?_
  exact se_int
  refine ss_cons ?_ ?_
  refine ss_if ?_ ?_ ?_
  refine st_gt ?_ ?_
  exact sb_v (pv 1)
  refine SE.toB ?_
  exact se_int
  refine ss_cons ?_ ?_
  refine ss_set (i := 6) nd (by rfl) (Or.inr rfl) ?_
  exact se_int
  refine ss_wipe ?_
  exact ss_nil
  refine ss_wipe ?_
  exact ss_nil
  refine ss_cons ?_ ?_
  refine ss_retN ?_
  refine sn_lc (own := [("_law_k", 7)]) rfl nd ?_ ?_ (fun _ _ _ _ _ => pg_name (i := 7) nd (by rfl) (by first | exact Or.inl rfl | exact Or.inr rfl)) (tg_name) (tgo_name (by decide)) ?_ ?_
  refine si_range1 (by rfl) T.n_range ?_
  refine sa_b ?_ ?_
  exact sb_v (pv 1)
  exact sa_nil
  exact blkOk_by (N := ["_law_cell", "_law_many", "_law_letters", "_law_base", "_law_at", "_law_first", "_law_step", "_law_k"]) (sc := defScope (top 37)) (own := [("_law_k", 7)]) (by decide +kernel)
  intro _ _ _ _ _
  exact sts_nil
  intro _ _ _ _ _
  refine se_add ?_ ?_
  refine SE.toB ?_
  refine se_add ?_ ?_
  refine SE.toB ?_
  refine se_cut ?_ ?_ ?_
  exact sb_v (pv 3)
  exact so_no
  refine so_at ?_
  exact sb_v (pv 4)
  refine SE.toB ?_
  refine se_ix ?_ ?_
  exact sb_v (pv 2)
  refine SE.toB ?_
  refine se_mod ?_ ?_
  refine SE.toB ?_
  refine se_add ?_ ?_
  exact sb_v (pv 5)
  refine SE.toB ?_
  refine se_mul ?_ ?_
  exact sb_v (pv 7)
  exact sb_v (pv 6)
  refine SE.toB ?_
  exact se_int
  refine SE.toB ?_
  refine se_cut ?_ ?_ ?_
  exact sb_v (pv 3)
  refine so_at ?_
  exact sb_v (pv 4)
  exact so_no
  exact ss_nil
theorem sc_l_pick : FnScope ["_law_cell", "_law_marks_here"] ["_law_cell", "_law_marks_here"] (defScope (top 38)) := ⟨rfl, rfl, rfl, by decide +kernel, rfl, by decide +kernel, by decide +kernel⟩
theorem ok_l_pick {P : Program} {w : World} {K : PySem.W.Frag} {mg : Str → Option Value} {base : Heap} {cl : ClsP} (T : Fs P w K mg cl) : FnOk P w K mg base (L2N.CX P w) 1 T.a_l_pick T.d_l_pick ["_law_cell", "_law_marks_here"] (spOf K cl [true, true] m_l_pick) := by
  have nd := sc_l_pick.nd
  refine fn_ok (k := 0) (body := c_l_pick) T.F_l_pick sc_l_pick rfl rfl fun cdv A outer s H E hr tk => ?_
  refine ss_cons ?_ ?_
  refine ss_if ?_ ?_ ?_
  refine st_gt ?_ ?_
  refine SE.toB ?_
  refine sx_callB pfM call_len cs_len (by rfl) T.n_len (by decide +kernel) ?_
  refine sa_b ?_ ?_
  exact sb_v (pv 1)
  exact sa_nil
  refine SE.toB ?_
  exact se_int
  refine ss_cons ?_ ?_
  refine ss_ret ?_
  refine se_ix ?_ ?_
  exact sb_v (pv 1)
  refine SE.toB ?_
  refine se_mod ?_ ?_
  refine SE.toB ?_
  refine se_add ?_ ?_
  refine SE.toB ?_
  refine se_mul ?_ ?_
  refine SE.toB ?_
  exact se_int
  exact sb_v (pv 0)
  refine SE.toB ?_
  refine se_div ?_ ?_
  exact sb_v (pv 0)
  refine SE.toB ?_
  exact se_int
  refine SE.toB ?_
  refine sx_callB pfM call_len cs_len (by rfl) T.n_len (by decide +kernel) ?_
  refine sa_b ?_ ?_
  exact sb_v (pv 1)
  exact sa_nil
  exact ss_nil
  exact ss_nil
  refine ss_cons ?_ ?_
  refine ss_ret ?_
  refine se_ix ?_ ?_
  exact sb_v (pv 1)
  refine SE.toB ?_
  refine se_mod ?_ ?_
  refine SE.toB ?_
  refine se_mod ?_ ?_
  exact sb_v (pv 0)
  refine SE.toB ?_
  exact se_int
  refine SE.toB ?_
  refine sx_callB pfM call_len cs_len (by rfl) T.n_len (by decide +kernel) ?_
  refine sa_b ?_ ?_
  exact sb_v (pv 1)
  exact sa_nil
  exact ss_nil
theorem sc_l_nodes : FnScope ["_law_cells", "_law_marks_here", "_law_nodes_here", "_law_deepest", "_law_chain", "_law_cell", "_law_depth"] ["_law_cells", "_law_marks_here"] (defScope (top 39)) := ⟨rfl, rfl, rfl, by decide +kernel, rfl, by decide +kernel, by decide +kernel⟩
theorem ok_l_nodes {P : Program} {w : World} {K : PySem.W.Frag} {mg : Str → Option Value} {base : Heap} {cl : ClsP} (T : Fs P w K mg cl) : FnOk P w K mg base (L2N.CX P w) 2 T.a_l_nodes T.d_l_nodes ["_law_cells", "_law_marks_here"] (spOf K cl [true, true] m_l_nodes) := by
  have nd := sc_l_nodes.nd
  refine fn_ok (k := 5) (body := c_l_nodes) T.F_l_nodes sc_l_nodes rfl rfl fun cdv A outer s H E hr tk => ?_
  refine ss_cons ?_ ?_
  refine ss_setN (i := 2) nd (by rfl) (Or.inl rfl) ?_
  refine sn_lst (bm := []) ?_
  exact sa_nil
  refine ss_cons ?_ ?_
  refine ss_set (i := 3) nd (by rfl) (Or.inl rfl) ?_
  exact se_int
  refine ss_cons ?_ ?_
  refine ss_set (i := 4) nd (by rfl) (Or.inl rfl) ?_
  refine se_and ?_ ?_
  refine SE.toB ?_
  refine se_gt ?_ ?_
  refine SE.toB ?_
  refine sx_callB pfM call_len cs_len (by rfl) T.n_len (by decide +kernel) ?_
  refine sa_b ?_ ?_
  exact sb_v (pv 0)
  exact sa_nil
  refine SE.toB ?_
  exact se_int
  refine se_one ?_
  refine se_eq hr.units ?_ ?_
  refine SE.toB ?_
  refine se_mod ?_ ?_
  refine SE.toB ?_
  refine se_ix ?_ ?_
  exact sb_v (pv 0)
  refine SE.toB ?_
  exact se_int
  refine SE.toB ?_
  exact se_int
  refine SE.toB ?_
  exact se_int
  refine ss_wipe ?_
  refine ss_cons ?_ ?_
  refine ss_for (by exact passes_of rfl) (by rfl) ?_ (pg_name (i := 5) nd (by rfl) (by first | exact Or.inl rfl | exact Or.inr rfl)) (tg_name) ?_
  exact si_bor (pv 0)
  refine ss_cons ?_ ?_
  refine ss_set (i := 6) nd (by rfl) (Or.inl rfl) ?_
  refine se_mod ?_ ?_
  refine SE.toB ?_
  refine se_div ?_ ?_
  exact sb_v (pv 5)
  refine SE.toB ?_
  exact se_int
  refine SE.toB ?_
  refine se_add ?_ ?_
  exact sb_v (pv 3)
  refine SE.toB ?_
  exact se_int
  refine ss_cons ?_ ?_
  refine ss_if ?_ ?_ ?_
  refine st_w ?_
  refine sw_or ?_ ?_
  refine st_val ?_ (fun _ => rfl)
  exact sb_v (pv 4)
  refine sw_or1 ?_
  refine st_eq hr.units ?_ ?_
  refine SE.toB ?_
  refine se_mod ?_ ?_
  refine SE.toB ?_
  refine se_div ?_ ?_
  exact sb_v (pv 5)
  refine SE.toB ?_
  exact se_int
  refine SE.toB ?_
  exact se_int
  refine SE.toB ?_
  exact se_int
  refine ss_cons ?_ ?_
  refine ss_set (i := 6) nd (by rfl) (Or.inl rfl) ?_
  exact se_v (pv 3)
  refine ss_wipe ?_
  exact ss_nil
  refine ss_wipe ?_
  exact ss_nil
  refine ss_cons ?_ ?_
  refine ss_lm PySem.F.slot_list_append PySem.F.type_list_append mt_append lm_append (pv 2) ?_
  refine sa_f ?_ ?_
  refine se_tup (bm := [false, false]) ?_
  refine sa_f ?_ ?_
  refine se_call (ok_l_pick T) (hr.mono (by decide)) (by rfl) T.g_l_pick T.F_l_pick.kp T.b_l_pick tk ?_
  refine sa_b ?_ ?_
  exact sb_v (pv 5)
  refine sa_b ?_ ?_
  exact sb_v (pv 1)
  exact sa_nil
  refine sa_f ?_ ?_
  exact se_v (pv 6)
  exact sa_nil
  exact sa_nil
  refine ss_cons ?_ ?_
  refine ss_set (i := 3) nd (by rfl) (Or.inl rfl) ?_
  refine sx_callB pfM (call_min2 rfl) cs_min2 (by rfl) T.n_min (by decide +kernel) ?_
  refine sa_b ?_ ?_
  refine SE.toB ?_
  refine se_add ?_ ?_
  exact sb_v (pv 6)
  refine SE.toB ?_
  exact se_int
  refine sa_b ?_ ?_
  refine SE.toB ?_
  exact se_int
  exact sa_nil
  refine ss_wipe ?_
  exact ss_nil
  refine ss_cons ?_ ?_
  exact ss_retV (pv 2)
  exact ss_nil
theorem sc_l_forest_text : FnScope ["_law_nodes_here", "_law_text", "_law_k", "_law_step"] ["_law_nodes_here"] (defScope (top 40)) := ⟨rfl, rfl, rfl, by decide +kernel, rfl, by decide +kernel, by decide +kernel⟩
theorem ok_l_forest_text {P : Program} {w : World} {K : PySem.W.Frag} {mg : Str → Option Value} {base : Heap} {cl : ClsP} (T : Fs P w K mg cl) : FnOk P w K mg base (L2N.CX P w) 1 T.a_l_forest_text T.d_l_forest_text ["_law_nodes_here"] (spOf K cl [true] m_l_forest_text) := by
  have nd := sc_l_forest_text.nd
  refine fn_ok (k := 3) (body := c_l_forest_text) T.F_l_forest_text sc_l_forest_text rfl rfl fun cdv A outer s H E hr tk => ?_
  refine ss_cons ?_ ?_
  refine ss_set (i := 1) nd (by rfl) (Or.inl rfl) ?_
  exact se_str
  refine ss_wipe ?_
  refine ss_cons ?_ ?_
  refine ss_for (by exact passes_of rfl) (by rfl) ?_ (pg_name (i := 2) nd (by rfl) (by first | exact Or.inl rfl | exact Or.inr rfl)) (tg_name) ?_
  refine si_range1 (by rfl) T.n_range ?_
  refine sa_b ?_ ?_
  refine SE.toB ?_
  refine sx_callB pfM call_len cs_len (by rfl) T.n_len (by decide +kernel) ?_
  refine sa_b ?_ ?_
  exact sb_v (pv 0)
  exact sa_nil
  exact sa_nil
  refine ss_cons ?_ ?_
  refine ss_if ?_ ?_ ?_
  refine st_w ?_
  refine sw_and ?_ ?_
  refine st_gt ?_ ?_
  exact sb_v (pv 2)
  refine SE.toB ?_
  exact se_int
  refine sw_and1 ?_
  refine st_gt ?_ ?_
  refine SE.toB ?_
  refine se_ix ?_ ?_
  refine SE.toB ?_
  refine se_ix ?_ ?_
  exact sb_v (pv 0)
  exact sb_v (pv 2)
  refine SE.toB ?_
  exact se_int
  refine SE.toB ?_
  refine se_ix ?_ ?_
  refine SE.toB ?_
  refine se_ix ?_ ?_
  exact sb_v (pv 0)
  refine SE.toB ?_
  refine se_sub ?_ ?_
  exact sb_v (pv 2)
  refine SE.toB ?_
  exact se_int
  refine SE.toB ?_
  exact se_int
  refine ss_cons ?_ ?_
  refine ss_set (i := 1) nd (by rfl) (Or.inl rfl) ?_
  refine se_add ?_ ?_
  exact sb_v (pv 1)
  refine SE.toB ?_
  exact se_str
  refine ss_wipe ?_
  exact ss_nil
  refine ss_wipe ?_
  exact ss_nil
  refine ss_cons ?_ ?_
  refine ss_if ?_ ?_ ?_
  refine st_w ?_
  refine sw_and ?_ ?_
  refine st_gt ?_ ?_
  exact sb_v (pv 2)
  refine SE.toB ?_
  exact se_int
  refine sw_and1 ?_
  refine st_le ?_ ?_
  refine SE.toB ?_
  refine se_ix ?_ ?_
  refine SE.toB ?_
  refine se_ix ?_ ?_
  exact sb_v (pv 0)
  exact sb_v (pv 2)
  refine SE.toB ?_
  exact se_int
  refine SE.toB ?_
  refine se_ix ?_ ?_
  refine SE.toB ?_
  refine se_ix ?_ ?_
  exact sb_v (pv 0)
  refine SE.toB ?_
  refine se_sub ?_ ?_
  exact sb_v (pv 2)
  refine SE.toB ?_
  exact se_int
  refine SE.toB ?_
  exact se_int
  refine ss_wipe ?_
  refine ss_cons ?_ ?_
  refine ss_for (by exact passes_of rfl) (by rfl) ?_ (pg_name (i := 3) nd (by rfl) (by first | exact Or.inl rfl | exact Or.inr rfl)) (tg_name) ?_
  refine si_range1 (by rfl) T.n_range ?_
  refine sa_b ?_ ?_
  refine SE.toB ?_
  refine se_sub ?_ ?_
  refine SE.toB ?_
  refine se_ix ?_ ?_
  refine SE.toB ?_
  refine se_ix ?_ ?_
  exact sb_v (pv 0)
  refine SE.toB ?_
  refine se_sub ?_ ?_
  exact sb_v (pv 2)
  refine SE.toB ?_
  exact se_int
  refine SE.toB ?_
  exact se_int
  refine SE.toB ?_
  refine se_ix ?_ ?_
  refine SE.toB ?_
  refine se_ix ?_ ?_
  exact sb_v (pv 0)
  exact sb_v (pv 2)
  refine SE.toB ?_
  exact se_int
  exact sa_nil
  refine ss_cons ?_ ?_
  refine ss_set (i := 1) nd (by rfl) (Or.inl rfl) ?_
  refine se_add ?_ ?_
  exact sb_v (pv 1)
  refine SE.toB ?_
  exact se_str
  refine ss_wipe ?_
  exact ss_nil
  refine ss_cons ?_ ?_
  refine ss_set (i := 1) nd (by rfl) (Or.inl rfl) ?_
  refine se_add ?_ ?_
  exact sb_v (pv 1)
  refine SE.toB ?_
  exact se_str
  refine ss_wipe ?_
  exact ss_nil
  refine ss_wipe ?_
  exact ss_nil
  refine ss_cons ?_ ?_
  refine ss_set (i := 1) nd (by rfl) (Or.inl rfl) ?_
  refine se_add ?_ ?_
  exact sb_v (pv 1)
  refine SE.toB ?_
  refine se_ix ?_ ?_
  refine SE.toB ?_
  refine se_ix ?_ ?_
  exact sb_v (pv 0)
  exact sb_v (pv 2)
  refine SE.toB ?_
  exact se_int
  refine ss_wipe ?_
  exact ss_nil
  refine ss_cons ?_ ?_
  refine ss_if ?_ ?_ ?_
  refine st_gt ?_ ?_
  refine SE.toB ?_
  refine sx_callB pfM call_len cs_len (by rfl) T.n_len (by decide +kernel) ?_
  refine sa_b ?_ ?_
  exact sb_v (pv 0)
  exact sa_nil
  refine SE.toB ?_
  exact se_int
  refine ss_wipe ?_
  refine ss_cons ?_ ?_
  refine ss_for (by exact passes_of rfl) (by rfl) ?_ (pg_name (i := 3) nd (by rfl) (by first | exact Or.inl rfl | exact Or.inr rfl)) (tg_name) ?_
  refine si_range1 (by rfl) T.n_range ?_
  refine sa_b ?_ ?_
  refine SE.toB ?_
  refine se_ix ?_ ?_
  refine SE.toB ?_
  refine se_ix ?_ ?_
  exact sb_v (pv 0)
  refine SE.toB ?_
  refine se_neg ?_
  refine SE.toB ?_
  exact se_int
  refine SE.toB ?_
  exact se_int
  exact sa_nil
  refine ss_cons ?_ ?_
  refine ss_set (i := 1) nd (by rfl) (Or.inl rfl) ?_
  refine se_add ?_ ?_
  exact sb_v (pv 1)
  refine SE.toB ?_
  exact se_str
  refine ss_wipe ?_
  exact ss_nil
  refine ss_wipe ?_
  exact ss_nil
  refine ss_wipe ?_
  exact ss_nil
  refine ss_cons ?_ ?_
  refine ss_ret ?_
  exact se_v (pv 1)
  exact ss_nil
theorem sc_l_refused : FnScope ["_law_text", "e", "_law_other"] ["_law_text"] (defScope (top 41)) := ⟨rfl, rfl, rfl, by decide +kernel, rfl, by decide +kernel, by decide +kernel⟩
namespace E
theorem ok_l_refused {P : Program} {w : World} {K : PySem.W.Frag} {mg : Str → Option Value} {base : Heap} {cl : ClsP} (T : Fs P w K mg cl) : FnOk P w K mg base (L2B.CX P w) 8 T.a_l_refused T.d_l_refused ["_law_text"] (spOf K cl [true] m_l_refused) := by
  have nd := sc_l_refused.nd
  refine fn_ok (k := 2) (body := c_l_refused) T.F_l_refused sc_l_refused rfl rfl fun cdv A outer s H E hr tk => ?_
  refine ss_cons ?_ ?_
  refine ss_tryTK nd (by rfl) (by rfl) ⟨by rfl, by decide, .inl T.gc_ShrinkError⟩ tk (hit_ok_ShrinkError T) ?_ ?_
  intro W pn xe tk ps
  refine ss_cons ?_ ?_
  refine ss_drop (P := PF K cl) ?_
  refine se_call (ok_p_read_thing T) (hr.mono (by decide)) (by rfl) T.g_p_read_thing T.F_p_read_thing.kp T.b_p_read_thing tk ?_
  refine sa_b ?_ ?_
  exact sb_v (pv 0)
  exact sa_nil
  refine ss_wipe ?_
  exact ss_nil
  intro e pn cx hcp
  refine ss_forK hcp (by decide) ?_ (pg_name (i := 2) nd (by rfl) (by first | exact Or.inl rfl | exact Or.inr rfl)) (pv 2) ?_ ?_
  refine SN.toE ?_
  refine sn_lst (bm := [false, false, false, false]) ?_
  refine sa_f ?_ ?_
  refine se_isX (isx_ok_NoThing T) (by rfl) T.n_isinstance (by decide +kernel) ?_ (by rfl) T.gc_NoThing
  exact sb_v (pv 1)
  refine sa_f ?_ ?_
  refine se_isX (isx_ok_NoPlace T) (by rfl) T.n_isinstance (by decide +kernel) ?_ (by rfl) T.gc_NoPlace
  exact sb_v (pv 1)
  refine sa_f ?_ ?_
  refine se_isX (isx_ok_NoFault T) (by rfl) T.n_isinstance (by decide +kernel) ?_ (by rfl) T.gc_NoFault
  exact sb_v (pv 1)
  refine sa_f ?_ ?_
  refine se_isX (isx_ok_NoRule T) (by rfl) T.n_isinstance (by decide +kernel) ?_ (by rfl) T.gc_NoRule
  exact sb_v (pv 1)
  exact sa_nil
  refine ss_ret ?_
  exact se_bl
  refine ss_cons ?_ ?_
  refine ss_if ?_ ?_ ?_
  refine st_w ?_
  refine sw_or ?_ ?_
  refine st_val ?_ (fun _ => rfl)
  refine SE.toB ?_
  refine se_isX (isx_ok_Spent T) (by rfl) T.n_isinstance (by decide +kernel) ?_ (by rfl) T.gc_Spent
  exact sb_v (pv 1)
  refine sw_or ?_ ?_
  refine st_val ?_ (fun _ => rfl)
  refine SE.toB ?_
  refine se_isX (isx_ok_Healthy T) (by rfl) T.n_isinstance (by decide +kernel) ?_ (by rfl) T.gc_Healthy
  exact sb_v (pv 1)
  refine sw_or1 ?_
  refine st_val ?_ (fun _ => rfl)
  refine SE.toB ?_
  refine se_isX (isx_ok_NoRow T) (by rfl) T.n_isinstance (by decide +kernel) ?_ (by rfl) T.gc_NoRow
  exact sb_v (pv 1)
  refine ss_cons ?_ ?_
  refine ss_ret ?_
  exact se_bl
  exact ss_nil
  exact ss_nil
  refine ss_cons ?_ ?_
  refine ss_ret ?_
  refine se_and ?_ ?_
  refine SE.toB ?_
  refine se_isX (isx_ok_NoText T) (by rfl) T.n_isinstance (by decide +kernel) ?_ (by rfl) T.gc_NoText
  exact sb_v (pv 1)
  refine se_one ?_
  refine se_isXv (isx_ok_ValueError T) (by rfl) T.n_isinstance (by decide +kernel) ?_ (by rfl) T.n_ValueError (by decide +kernel)
  exact sb_v (pv 1)
  exact ss_nil
  refine ss_cons ?_ ?_
  refine ss_ret ?_
  exact se_bl
  exact ss_nil
end E
theorem sc_l_wrong_by_any : FnScope ["_law_text", "_law_cell", "_law_mark", "_law_way", "_law_at", "_law_spot", "_law_some", "_law_odd"] ["_law_text", "_law_cell", "_law_mark"] (defScope (top 42)) := ⟨rfl, rfl, rfl, by decide +kernel, rfl, by decide +kernel, by decide +kernel⟩
theorem ok_l_wrong_by_any {P : Program} {w : World} {K : PySem.W.Frag} {mg : Str → Option Value} {base : Heap} {cl : ClsP} (T : Fs P w K mg cl) : FnOk P w K mg base (L2N.CX P w) 1 T.a_l_wrong_by_any T.d_l_wrong_by_any ["_law_text", "_law_cell", "_law_mark"] (spOf K cl [false, true, true] m_l_wrong_by_any) := by
  have nd := sc_l_wrong_by_any.nd
  refine fn_ok (k := 5) (body := c_l_wrong_by_any) T.F_l_wrong_by_any sc_l_wrong_by_any rfl rfl fun cdv A outer s H E hr tk => ?_
  refine ss_cons ?_ ?_
  refine ss_set (i := 3) nd (by rfl) (Or.inl rfl) ?_
  refine se_mod ?_ ?_
  exact sb_v (pv 1)
  refine SE.toB ?_
  exact se_int
  refine ss_cons ?_ ?_
  refine ss_if ?_ ?_ ?_
  refine st_eq hr.units ?_ ?_
  exact sb_v (pv 3)
  refine SE.toB ?_
  exact se_int
  refine ss_cons ?_ ?_
  refine ss_set (i := 6) nd (by rfl) (Or.inl rfl) ?_
  refine SN.toE ?_
  refine sn_lst (bm := [false, false, false, false, false, false, false, false, false, false, false, false]) ?_
  refine sa_f ?_ ?_
  exact se_non
  refine sa_f ?_ ?_
  exact se_int
  refine sa_f ?_ ?_
  exact se_bl
  refine sa_f ?_ ?_
  refine SN.toE ?_
  refine sn_lst (bm := [false]) ?_
  refine sa_f ?_ ?_
  exact se_v (pv 0)
  exact sa_nil
  refine sa_f ?_ ?_
  refine se_tup (bm := [false]) ?_
  refine sa_f ?_ ?_
  exact se_v (pv 0)
  exact sa_nil
  refine sa_f ?_ ?_
  exact se_str
  refine sa_f ?_ ?_
  exact se_str
  refine sa_f ?_ ?_
  exact se_str
  refine sa_f ?_ ?_
  exact se_str
  refine sa_f ?_ ?_
  exact se_str
  refine sa_f ?_ ?_
  exact se_str
  refine sa_f ?_ ?_
  exact se_str
  exact sa_nil
  refine ss_cons ?_ ?_
  refine ss_ret ?_
  refine se_ix ?_ ?_
  exact sb_v (pv 6)
  refine SE.toB ?_
  refine se_mod ?_ ?_
  refine SE.toB ?_
  refine se_div ?_ ?_
  exact sb_v (pv 1)
  refine SE.toB ?_
  exact se_int
  refine SE.toB ?_
  exact se_int
  exact ss_nil
  exact ss_nil
  refine ss_cons ?_ ?_
  refine ss_if ?_ ?_ ?_
  refine st_eq hr.units ?_ ?_
  exact sb_v (pv 3)
  refine SE.toB ?_
  exact se_int
  refine ss_cons ?_ ?_
  refine ss_ret ?_
  refine se_add ?_ ?_
  refine SE.toB ?_
  refine se_upper0 ?_
  refine SE.toB ?_
  refine se_cut ?_ ?_ ?_
  exact sb_v (pv 0)
  exact so_no
  refine so_at ?_
  refine SE.toB ?_
  exact se_int
  refine SE.toB ?_
  refine se_cut ?_ ?_ ?_
  exact sb_v (pv 0)
  refine so_at ?_
  refine SE.toB ?_
  exact se_int
  exact so_no
  exact ss_nil
  exact ss_nil
  refine ss_cons ?_ ?_
  refine ss_if ?_ ?_ ?_
  refine st_eq hr.units ?_ ?_
  exact sb_v (pv 3)
  refine SE.toB ?_
  exact se_int
  refine ss_cons ?_ ?_
  refine ss_ret ?_
  refine se_add ?_ ?_
  exact sb_v (pv 0)
  refine SE.toB ?_
  refine se_ix ?_ ?_
  refine SE.toB ?_
  refine SN.toE ?_
  refine sn_lst (bm := [false, false, false, false, false, false, false, false]) ?_
  refine sa_f ?_ ?_
  exact se_str
  refine sa_f ?_ ?_
  exact se_str
  refine sa_f ?_ ?_
  exact se_str
  refine sa_f ?_ ?_
  exact se_str
  refine sa_f ?_ ?_
  refine se_add ?_ ?_
  refine SE.toB ?_
  refine se_add ?_ ?_
  refine SE.toB ?_
  exact se_str
  exact sb_v (pv 2)
  refine SE.toB ?_
  exact se_str
  refine sa_f ?_ ?_
  exact se_str
  refine sa_f ?_ ?_
  exact se_str
  refine sa_f ?_ ?_
  exact se_str
  exact sa_nil
  refine SE.toB ?_
  refine se_mod ?_ ?_
  refine SE.toB ?_
  refine se_div ?_ ?_
  exact sb_v (pv 1)
  refine SE.toB ?_
  exact se_int
  refine SE.toB ?_
  exact se_int
  exact ss_nil
  exact ss_nil
  refine ss_cons ?_ ?_
  refine ss_set (i := 4) nd (by rfl) (Or.inl rfl) ?_
  refine se_add ?_ ?_
  refine SE.toB ?_
  refine se_find1 ?_ ?_
  exact sb_v (pv 0)
  refine SE.toB ?_
  exact se_str
  refine SE.toB ?_
  exact se_int
  refine ss_cons ?_ ?_
  refine ss_set (i := 5) nd (by rfl) (Or.inl rfl) ?_
  refine se_add ?_ ?_
  exact sb_v (pv 4)
  refine SE.toB ?_
  refine se_mod ?_ ?_
  refine SE.toB ?_
  refine se_div ?_ ?_
  exact sb_v (pv 1)
  refine SE.toB ?_
  exact se_int
  refine SE.toB ?_
  refine se_add ?_ ?_
  refine SE.toB ?_
  refine se_sub ?_ ?_
  refine SE.toB ?_
  refine sx_callB pfM call_len cs_len (by rfl) T.n_len (by decide +kernel) ?_
  refine sa_b ?_ ?_
  exact sb_v (pv 0)
  exact sa_nil
  exact sb_v (pv 4)
  refine SE.toB ?_
  exact se_int
  refine ss_cons ?_ ?_
  refine ss_if ?_ ?_ ?_
  refine st_w ?_
  refine sw_and ?_ ?_
  refine st_eq hr.units ?_ ?_
  exact sb_v (pv 3)
  refine SE.toB ?_
  exact se_int
  refine sw_and1 ?_
  refine st_ne hr.units ?_ ?_
  refine SE.toB ?_
  refine se_cut ?_ ?_ ?_
  exact sb_v (pv 0)
  exact so_no
  refine so_at ?_
  refine SE.toB ?_
  exact se_int
  refine SE.toB ?_
  exact se_str
  refine ss_cons ?_ ?_
  refine ss_set (i := 5) nd (by rfl) (Or.inl rfl) ?_
  exact se_v (pv 4)
  refine ss_wipe ?_
  exact ss_nil
  refine ss_wipe ?_
  exact ss_nil
  refine ss_cons ?_ ?_
  refine ss_if ?_ ?_ ?_
  refine st_eq hr.units ?_ ?_
  exact sb_v (pv 3)
  refine SE.toB ?_
  exact se_int
  refine ss_cons ?_ ?_
  refine ss_ret ?_
  refine se_add ?_ ?_
  refine SE.toB ?_
  refine se_add ?_ ?_
  refine SE.toB ?_
  refine se_cut ?_ ?_ ?_
  exact sb_v (pv 0)
  exact so_no
  refine so_at ?_
  exact sb_v (pv 5)
  refine SE.toB ?_
  exact se_str
  refine SE.toB ?_
  refine se_cut ?_ ?_ ?_
  exact sb_v (pv 0)
  refine so_at ?_
  exact sb_v (pv 5)
  exact so_no
  exact ss_nil
  exact ss_nil
  refine ss_cons ?_ ?_
  refine ss_if ?_ ?_ ?_
  refine st_eq hr.units ?_ ?_
  exact sb_v (pv 3)
  refine SE.toB ?_
  exact se_int
  refine ss_cons ?_ ?_
  refine ss_set (i := 7) nd (by rfl) (Or.inl rfl) ?_
  refine se_ix ?_ ?_
  refine SE.toB ?_
  refine SN.toE ?_
  refine sn_lst (bm := [false, false, false, false, false, false, false, false, false]) ?_
  refine sa_f ?_ ?_
  exact se_str
  refine sa_f ?_ ?_
  exact se_str
  refine sa_f ?_ ?_
  exact se_str
  refine sa_f ?_ ?_
  exact se_str
  refine sa_f ?_ ?_
  exact se_str
  refine sa_f ?_ ?_
  exact se_str
  refine sa_f ?_ ?_
  exact se_str
  refine sa_f ?_ ?_
  exact se_str
  refine sa_f ?_ ?_
  exact se_str
  exact sa_nil
  refine SE.toB ?_
  refine se_mod ?_ ?_
  refine SE.toB ?_
  refine se_div ?_ ?_
  exact sb_v (pv 1)
  refine SE.toB ?_
  exact se_int
  refine SE.toB ?_
  exact se_int
  refine ss_cons ?_ ?_
  refine ss_ret ?_
  refine se_add ?_ ?_
  refine SE.toB ?_
  refine se_add ?_ ?_
  refine SE.toB ?_
  refine se_cut ?_ ?_ ?_
  exact sb_v (pv 0)
  exact so_no
  refine so_at ?_
  exact sb_v (pv 5)
  exact sb_v (pv 7)
  refine SE.toB ?_
  refine se_cut ?_ ?_ ?_
  exact sb_v (pv 0)
  refine so_at ?_
  exact sb_v (pv 5)
  exact so_no
  exact ss_nil
  exact ss_nil
  refine ss_cons ?_ ?_
  refine ss_ret ?_
  refine se_ix ?_ ?_
  refine SE.toB ?_
  refine SN.toE ?_
  refine sn_lst (bm := [false, false, false]) ?_
  refine sa_rep (y := " ") (z := "  ") ?_ ?_ ?_ (by decide +kernel)
  exact sb_v (pv 0)
  exact sb_v (pv 0)
  refine sa_f ?_ ?_
  refine se_add ?_ ?_
  refine SE.toB ?_
  refine se_add ?_ ?_
  refine SE.toB ?_
  refine se_cut ?_ ?_ ?_
  exact sb_v (pv 0)
  exact so_no
  refine so_at ?_
  refine SE.toB ?_
  refine se_sub ?_ ?_
  exact sb_v (pv 4)
  refine SE.toB ?_
  exact se_int
  refine SE.toB ?_
  exact se_str
  refine SE.toB ?_
  refine se_cut ?_ ?_ ?_
  exact sb_v (pv 0)
  refine so_at ?_
  exact sb_v (pv 4)
  exact so_no
  exact sa_nil
  refine SE.toB ?_
  refine se_mod ?_ ?_
  refine SE.toB ?_
  refine se_div ?_ ?_
  exact sb_v (pv 1)
  refine SE.toB ?_
  exact se_int
  refine SE.toB ?_
  exact se_int
  exact ss_nil
theorem sc_l_lines_text : FnScope ["_law_lines", "_law_line"] ["_law_lines"] (defScope (top 44)) := ⟨rfl, rfl, rfl, by decide +kernel, rfl, by decide +kernel, by decide +kernel⟩
theorem ok_l_lines_text {P : Program} {w : World} {K : PySem.W.Frag} {mg : Str → Option Value} {base : Heap} {cl : ClsP} (T : Fs P w K mg cl) : FnOk P w K mg base (L2N.CX P w) 1 T.a_l_lines_text T.d_l_lines_text ["_law_lines"] (spOf K cl [true] m_l_lines_text) := by
  have nd := sc_l_lines_text.nd
  refine fn_ok (k := 1) (body := c_l_lines_text) T.F_l_lines_text sc_l_lines_text rfl rfl fun cdv A outer s H E hr tk => ?_
  refine ss_cons ?_ ?_
  refine ss_ret ?_
  refine se_add ?_ ?_
  refine SE.toB ?_
  exact se_str
  refine SE.toB ?_
  refine se_join ?_ ?_
  refine SE.toB ?_
  exact se_str
  refine SE.toB ?_
  refine SN.toE ?_
  refine sn_lc (own := [("_law_line", 1)]) rfl nd ?_ ?_ (fun _ _ _ _ _ => pg_name (i := 1) nd (by rfl) (by first | exact Or.inl rfl | exact Or.inr rfl)) (tg_name) (tgo_name (by decide)) ?_ ?_
  exact si_bor (pv 0)
  exact blkOk_by (N := ["_law_lines", "_law_line"]) (sc := defScope (top 44)) (own := [("_law_line", 1)]) (by decide +kernel)
  intro _ _ _ _ _
  exact sts_nil
  intro _ _ _ _ _
  refine se_join ?_ ?_
  refine SE.toB ?_
  exact se_str
  exact sb_v (pv 1)
  exact ss_nil
theorem sc_l_wrong_table : FnScope ["_law_lines", "_law_cell", "_law_mark", "_law_text", "_law_way", "_law_k"] ["_law_lines", "_law_cell", "_law_mark"] (defScope (top 43)) := ⟨rfl, rfl, rfl, by decide +kernel, rfl, by decide +kernel, by decide +kernel⟩
theorem ok_l_wrong_table {P : Program} {w : World} {K : PySem.W.Frag} {mg : Str → Option Value} {base : Heap} {cl : ClsP} (T : Fs P w K mg cl) : FnOk P w K mg base (L2N.CX P w) 2 T.a_l_wrong_table T.d_l_wrong_table ["_law_lines", "_law_cell", "_law_mark"] (spOf K cl [true, true, false] m_l_wrong_table) := by
  have nd := sc_l_wrong_table.nd
  refine fn_ok (k := 3) (body := c_l_wrong_table) T.F_l_wrong_table sc_l_wrong_table rfl rfl fun cdv A outer s H E hr tk => ?_
  refine ss_cons ?_ ?_
  refine ss_set (i := 3) nd (by rfl) (Or.inl rfl) ?_
  refine se_call (ok_l_lines_text T) (hr.mono (by decide)) (by rfl) T.g_l_lines_text T.F_l_lines_text.kp T.b_l_lines_text tk ?_
  refine sa_b ?_ ?_
  exact sb_v (pv 0)
  exact sa_nil
  refine ss_cons ?_ ?_
  refine ss_set (i := 4) nd (by rfl) (Or.inl rfl) ?_
  refine se_mod ?_ ?_
  exact sb_v (pv 1)
  refine SE.toB ?_
  exact se_int
  refine ss_cons ?_ ?_
  refine ss_if ?_ ?_ ?_
  refine st_eq hr.units ?_ ?_
  exact sb_v (pv 4)
  refine SE.toB ?_
  exact se_int
  refine ss_cons ?_ ?_
  refine ss_ret ?_
  refine se_add ?_ ?_
  refine SE.toB ?_
  exact se_str
  refine SE.toB ?_
  refine se_join ?_ ?_
  refine SE.toB ?_
  exact se_str
  refine SE.toB ?_
  refine SN.toE ?_
  refine sn_lc (own := [("_law_k", 5)]) rfl nd ?_ ?_ (fun _ _ _ _ _ => pg_name (i := 5) nd (by rfl) (by first | exact Or.inl rfl | exact Or.inr rfl)) (tg_name) (tgo_name (by decide)) ?_ ?_
  refine si_range1 (by rfl) T.n_range ?_
  refine sa_b ?_ ?_
  refine SE.toB ?_
  exact se_int
  exact sa_nil
  exact blkOk_by (N := ["_law_lines", "_law_cell", "_law_mark", "_law_text", "_law_way", "_law_k"]) (sc := defScope (top 43)) (own := [("_law_k", 5)]) (by decide +kernel)
  intro _ _ _ _ _
  exact sts_nil
  intro _ _ _ _ _
  exact se_v (pv 2)
  exact ss_nil
  exact ss_nil
  refine ss_cons ?_ ?_
  refine ss_if ?_ ?_ ?_
  refine st_eq hr.units ?_ ?_
  exact sb_v (pv 4)
  refine SE.toB ?_
  exact se_int
  refine ss_cons ?_ ?_
  refine ss_ret ?_
  refine se_add ?_ ?_
  exact sb_v (pv 3)
  refine SE.toB ?_
  exact se_str
  exact ss_nil
  exact ss_nil
  refine ss_cons ?_ ?_
  refine ss_if ?_ ?_ ?_
  refine st_eq hr.units ?_ ?_
  exact sb_v (pv 4)
  refine SE.toB ?_
  exact se_int
  refine ss_cons ?_ ?_
  refine ss_ret ?_
  refine se_add ?_ ?_
  refine SE.toB ?_
  refine se_add ?_ ?_
  exact sb_v (pv 3)
  refine SE.toB ?_
  exact se_str
  refine SE.toB ?_
  refine se_join ?_ ?_
  refine SE.toB ?_
  exact se_str
  refine SE.toB ?_
  refine SN.toE ?_
  refine sn_lc (own := [("_law_k", 5)]) rfl nd ?_ ?_ (fun _ _ _ _ _ => pg_name (i := 5) nd (by rfl) (by first | exact Or.inl rfl | exact Or.inr rfl)) (tg_name) (tgo_name (by decide)) ?_ ?_
  refine si_range1 (by rfl) T.n_range ?_
  refine sa_b ?_ ?_
  refine SE.toB ?_
  refine se_add ?_ ?_
  refine SE.toB ?_
  refine sx_callB pfM call_len cs_len (by rfl) T.n_len (by decide +kernel) ?_
  refine sa_b ?_ ?_
  refine SE.toB ?_
  refine se_ix ?_ ?_
  exact sb_v (pv 0)
  refine SE.toB ?_
  exact se_int
  exact sa_nil
  refine SE.toB ?_
  exact se_int
  exact sa_nil
  exact blkOk_by (N := ["_law_lines", "_law_cell", "_law_mark", "_law_text", "_law_way", "_law_k"]) (sc := defScope (top 43)) (own := [("_law_k", 5)]) (by decide +kernel)
  intro _ _ _ _ _
  exact sts_nil
  intro _ _ _ _ _
  exact se_v (pv 2)
  exact ss_nil
  exact ss_nil
  refine ss_cons ?_ ?_
  refine ss_if ?_ ?_ ?_
  refine st_eq hr.units ?_ ?_
  exact sb_v (pv 4)
  refine SE.toB ?_
  exact se_int
  refine ss_cons ?_ ?_
  refine ss_ret ?_
  refine se_add ?_ ?_
  exact sb_v (pv 3)
  refine SE.toB ?_
  exact se_str
  exact ss_nil
  exact ss_nil
  refine ss_cons ?_ ?_
  refine ss_if ?_ ?_ ?_
  refine st_eq hr.units ?_ ?_
  exact sb_v (pv 4)
  refine SE.toB ?_
  exact se_int
  refine ss_cons ?_ ?_
  refine ss_ret ?_
  refine se_add ?_ ?_
  exact sb_v (pv 3)
  refine SE.toB ?_
  exact se_str
  exact ss_nil
  exact ss_nil
  refine ss_cons ?_ ?_
  refine ss_if ?_ ?_ ?_
  refine st_eq hr.units ?_ ?_
  exact sb_v (pv 4)
  refine SE.toB ?_
  exact se_int
  refine ss_cons ?_ ?_
  refine ss_ret ?_
  refine se_add ?_ ?_
  refine SE.toB ?_
  exact se_str
  refine SE.toB ?_
  refine se_cut ?_ ?_ ?_
  exact sb_v (pv 3)
  refine so_at ?_
  refine SE.toB ?_
  exact se_int
  exact so_no
  exact ss_nil
  exact ss_nil
  refine ss_cons ?_ ?_
  refine ss_if ?_ ?_ ?_
  refine st_eq hr.units ?_ ?_
  exact sb_v (pv 4)
  refine SE.toB ?_
  exact se_int
  refine ss_cons ?_ ?_
  refine ss_ret ?_
  refine se_add ?_ ?_
  refine SE.toB ?_
  refine se_add ?_ ?_
  exact sb_v (pv 3)
  refine SE.toB ?_
  exact se_str
  refine SE.toB ?_
  refine se_join ?_ ?_
  refine SE.toB ?_
  exact se_str
  refine SE.toB ?_
  refine se_ix ?_ ?_
  exact sb_v (pv 0)
  refine SE.toB ?_
  exact se_int
  exact ss_nil
  exact ss_nil
  refine ss_cons ?_ ?_
  refine ss_ret ?_
  refine se_add ?_ ?_
  refine SE.toB ?_
  exact se_str
  refine SE.toB ?_
  refine se_join ?_ ?_
  refine SE.toB ?_
  exact se_str
  refine SE.toB ?_
  refine SN.toE ?_
  refine sn_lc (own := [("_law_k", 5)]) rfl nd ?_ ?_ (fun _ _ _ _ _ => pg_name (i := 5) nd (by rfl) (by first | exact Or.inl rfl | exact Or.inr rfl)) (tg_name) (tgo_name (by decide)) ?_ ?_
  refine si_range1 (by rfl) T.n_range ?_
  refine sa_b ?_ ?_
  refine SE.toB ?_
  exact se_int
  exact sa_nil
  exact blkOk_by (N := ["_law_lines", "_law_cell", "_law_mark", "_law_text", "_law_way", "_law_k"]) (sc := defScope (top 43)) (own := [("_law_k", 5)]) (by decide +kernel)
  intro _ _ _ _ _
  exact sts_nil
  intro _ _ _ _ _
  refine se_join ?_ ?_
  refine SE.toB ?_
  exact se_str
  refine SE.toB ?_
  refine se_ix ?_ ?_
  exact sb_v (pv 0)
  refine SE.toB ?_
  exact se_int
  exact ss_nil
theorem sc_l_wrong_forest : FnScope ["_law_nodes_here", "_law_cell", "_law_mark", "_law_text", "_law_at", "_law_way", "_law_k"] ["_law_nodes_here", "_law_cell", "_law_mark"] (defScope (top 45)) := ⟨rfl, rfl, rfl, by decide +kernel, rfl, by decide +kernel, by decide +kernel⟩
theorem ok_l_wrong_forest {P : Program} {w : World} {K : PySem.W.Frag} {mg : Str → Option Value} {base : Heap} {cl : ClsP} (T : Fs P w K mg cl) : FnOk P w K mg base (L2N.CX P w) 2 T.a_l_wrong_forest T.d_l_wrong_forest ["_law_nodes_here", "_law_cell", "_law_mark"] (spOf K cl [true, true, false] m_l_wrong_forest) := by
  have nd := sc_l_wrong_forest.nd
  refine fn_ok (k := 4) (body := c_l_wrong_forest) T.F_l_wrong_forest sc_l_wrong_forest rfl rfl fun cdv A outer s H E hr tk => ?_
  refine ss_cons ?_ ?_
  refine ss_set (i := 3) nd (by rfl) (Or.inl rfl) ?_
  refine se_add ?_ ?_
  refine SE.toB ?_
  exact se_str
  refine SE.toB ?_
  refine se_call (ok_l_forest_text T) (hr.mono (by decide)) (by rfl) T.g_l_forest_text T.F_l_forest_text.kp T.b_l_forest_text tk ?_
  refine sa_b ?_ ?_
  exact sb_v (pv 0)
  exact sa_nil
  refine ss_cons ?_ ?_
  refine ss_set (i := 4) nd (by rfl) (Or.inl rfl) ?_
  refine se_add ?_ ?_
  refine SE.toB ?_
  exact se_int
  refine SE.toB ?_
  refine se_mod ?_ ?_
  refine SE.toB ?_
  refine se_div ?_ ?_
  exact sb_v (pv 1)
  refine SE.toB ?_
  exact se_int
  refine SE.toB ?_
  refine se_sub ?_ ?_
  refine SE.toB ?_
  refine sx_callB pfM call_len cs_len (by rfl) T.n_len (by decide +kernel) ?_
  refine sa_b ?_ ?_
  exact sb_v (pv 3)
  exact sa_nil
  refine SE.toB ?_
  exact se_int
  refine ss_cons ?_ ?_
  refine ss_set (i := 5) nd (by rfl) (Or.inl rfl) ?_
  refine se_mod ?_ ?_
  exact sb_v (pv 1)
  refine SE.toB ?_
  exact se_int
  refine ss_cons ?_ ?_
  refine ss_if ?_ ?_ ?_
  refine st_lt ?_ ?_
  exact sb_v (pv 5)
  refine SE.toB ?_
  exact se_int
  refine ss_cons ?_ ?_
  refine ss_ret ?_
  refine se_add ?_ ?_
  refine SE.toB ?_
  refine se_add ?_ ?_
  refine SE.toB ?_
  refine se_add ?_ ?_
  refine SE.toB ?_
  refine se_cut ?_ ?_ ?_
  exact sb_v (pv 3)
  exact so_no
  refine so_at ?_
  exact sb_v (pv 4)
  refine SE.toB ?_
  refine se_ix ?_ ?_
  refine SE.toB ?_
  exact se_str
  exact sb_v (pv 5)
  refine SE.toB ?_
  refine se_ix ?_ ?_
  refine SE.toB ?_
  exact se_str
  refine SE.toB ?_
  refine se_mod ?_ ?_
  refine SE.toB ?_
  refine se_div ?_ ?_
  exact sb_v (pv 1)
  refine SE.toB ?_
  exact se_int
  refine SE.toB ?_
  exact se_int
  refine SE.toB ?_
  refine se_cut ?_ ?_ ?_
  exact sb_v (pv 3)
  refine so_at ?_
  exact sb_v (pv 4)
  exact so_no
  exact ss_nil
  exact ss_nil
  refine ss_cons ?_ ?_
  refine ss_if ?_ ?_ ?_
  refine st_eq hr.units ?_ ?_
  exact sb_v (pv 5)
  refine SE.toB ?_
  exact se_int
  refine ss_cons ?_ ?_
  refine ss_ret ?_
  refine se_add ?_ ?_
  refine SE.toB ?_
  refine se_add ?_ ?_
  exact sb_v (pv 3)
  refine SE.toB ?_
  exact se_str
  exact sb_v (pv 2)
  exact ss_nil
  exact ss_nil
  refine ss_cons ?_ ?_
  refine ss_if ?_ ?_ ?_
  refine st_eq hr.units ?_ ?_
  exact sb_v (pv 5)
  refine SE.toB ?_
  exact se_int
  refine ss_cons ?_ ?_
  refine ss_ret ?_
  refine se_add ?_ ?_
  exact sb_v (pv 3)
  refine SE.toB ?_
  exact se_str
  exact ss_nil
  exact ss_nil
  refine ss_cons ?_ ?_
  refine ss_if ?_ ?_ ?_
  refine st_eq hr.units ?_ ?_
  exact sb_v (pv 5)
  refine SE.toB ?_
  exact se_int
  refine ss_cons ?_ ?_
  refine ss_ret ?_
  refine se_add ?_ ?_
  exact sb_v (pv 3)
  refine SE.toB ?_
  refine se_ix ?_ ?_
  refine SE.toB ?_
  refine SN.toE ?_
  refine sn_lst (bm := [false, false, false, false, false, false]) ?_
  refine sa_f ?_ ?_
  exact se_str
  refine sa_f ?_ ?_
  exact se_str
  refine sa_f ?_ ?_
  exact se_str
  refine sa_f ?_ ?_
  exact se_str
  refine sa_f ?_ ?_
  refine se_add ?_ ?_
  refine SE.toB ?_
  refine se_add ?_ ?_
  refine SE.toB ?_
  exact se_str
  exact sb_v (pv 2)
  refine SE.toB ?_
  exact se_str
  refine sa_f ?_ ?_
  refine se_add ?_ ?_
  refine SE.toB ?_
  refine se_add ?_ ?_
  refine SE.toB ?_
  refine se_add ?_ ?_
  refine SE.toB ?_
  exact se_str
  exact sb_v (pv 2)
  refine SE.toB ?_
  exact se_str
  exact sb_v (pv 2)
  exact sa_nil
  refine SE.toB ?_
  refine se_mod ?_ ?_
  refine SE.toB ?_
  refine se_div ?_ ?_
  exact sb_v (pv 1)
  refine SE.toB ?_
  exact se_int
  refine SE.toB ?_
  exact se_int
  exact ss_nil
  exact ss_nil
  refine ss_cons ?_ ?_
  refine ss_if ?_ ?_ ?_
  refine st_eq hr.units ?_ ?_
  exact sb_v (pv 5)
  refine SE.toB ?_
  exact se_int
  refine ss_cons ?_ ?_
  refine ss_ret ?_
  refine se_add ?_ ?_
  refine SE.toB ?_
  exact se_str
  refine SE.toB ?_
  refine se_ix ?_ ?_
  refine SE.toB ?_
  refine SN.toE ?_
  refine sn_lst (bm := [false, false, false, false, false, false]) ?_
  refine sa_f ?_ ?_
  exact se_str
  refine sa_f ?_ ?_
  exact se_str
  refine sa_f ?_ ?_
  exact se_str
  refine sa_f ?_ ?_
  exact se_str
  refine sa_f ?_ ?_
  refine se_add ?_ ?_
  refine SE.toB ?_
  exact se_str
  exact sb_v (pv 2)
  refine sa_f ?_ ?_
  refine se_add ?_ ?_
  refine SE.toB ?_
  refine se_add ?_ ?_
  refine SE.toB ?_
  exact se_str
  exact sb_v (pv 2)
  refine SE.toB ?_
  exact se_str
  exact sa_nil
  refine SE.toB ?_
  refine se_mod ?_ ?_
  refine SE.toB ?_
  refine se_div ?_ ?_
  exact sb_v (pv 1)
  refine SE.toB ?_
  exact se_int
  refine SE.toB ?_
  exact se_int
  exact ss_nil
  exact ss_nil
  refine ss_cons ?_ ?_
  refine ss_if ?_ ?_ ?_
  refine st_eq hr.units ?_ ?_
  exact sb_v (pv 5)
  refine SE.toB ?_
  exact se_int
  refine ss_cons ?_ ?_
  refine ss_ret ?_
  refine se_add ?_ ?_
  refine SE.toB ?_
  exact se_str
  refine SE.toB ?_
  refine se_call (ok_l_forest_text T) (hr.mono (by decide)) (by rfl) T.g_l_forest_text T.F_l_forest_text.kp T.b_l_forest_text tk ?_
  refine sa_b ?_ ?_
  refine SE.toB ?_
  refine SN.toE ?_
  refine sn_lc (own := [("_law_k", 6)]) rfl nd ?_ ?_ (fun _ _ _ _ _ => pg_name (i := 6) nd (by rfl) (by first | exact Or.inl rfl | exact Or.inr rfl)) (tg_name) (tgo_name (by decide)) ?_ ?_
  refine si_range1 (by rfl) T.n_range ?_
  refine sa_b ?_ ?_
  refine SE.toB ?_
  exact se_int
  exact sa_nil
  exact blkOk_by (N := ["_law_nodes_here", "_law_cell", "_law_mark", "_law_text", "_law_at", "_law_way", "_law_k"]) (sc := defScope (top 45)) (own := [("_law_k", 6)]) (by decide +kernel)
  intro _ _ _ _ _
  exact sts_nil
  intro _ _ _ _ _
  refine se_tup (bm := [false, false]) ?_
  refine sa_f ?_ ?_
  exact se_v (pv 2)
  refine sa_f ?_ ?_
  exact se_v (pv 6)
  exact sa_nil
  exact sa_nil
  exact ss_nil
  exact ss_nil
  refine ss_cons ?_ ?_
  refine ss_ret ?_
  refine se_add ?_ ?_
  refine SE.toB ?_
  exact se_str
  refine SE.toB ?_
  refine se_call (ok_l_forest_text T) (hr.mono (by decide)) (by rfl) T.g_l_forest_text T.F_l_forest_text.kp T.b_l_forest_text tk ?_
  refine sa_b ?_ ?_
  refine SE.toB ?_
  refine SN.toE ?_
  refine sn_lc (own := [("_law_k", 6)]) rfl nd ?_ ?_ (fun _ _ _ _ _ => pg_name (i := 6) nd (by rfl) (by first | exact Or.inl rfl | exact Or.inr rfl)) (tg_name) (tgo_name (by decide)) ?_ ?_
  refine si_range1 (by rfl) T.n_range ?_
  refine sa_b ?_ ?_
  refine SE.toB ?_
  exact se_int
  exact sa_nil
  exact blkOk_by (N := ["_law_nodes_here", "_law_cell", "_law_mark", "_law_text", "_law_at", "_law_way", "_law_k"]) (sc := defScope (top 45)) (own := [("_law_k", 6)]) (by decide +kernel)
  intro _ _ _ _ _
  exact sts_nil
  intro _ _ _ _ _
  refine se_tup (bm := [false, false]) ?_
  refine sa_f ?_ ?_
  exact se_v (pv 2)
  refine sa_f ?_ ?_
  refine se_mod ?_ ?_
  exact sb_v (pv 6)
  refine SE.toB ?_
  exact se_int
  exact sa_nil
  exact sa_nil
  exact ss_nil
theorem mtok_form {X : Cx} {cl : ClsP} (T : Fs X.prog X.w X.K X.mg cl) (hr : Room 1 X.A) : MtOk X cl "form" [] mt_form := by
  intro c fn h
  unfold mt_form at h
  split at h
  · rename_i e; subst e; cases h; exact ⟨_, _, 1, _, T.cls_Row, T.me_Row_form, ok_p_Row_form T, hr.mono (by decide), T.b_p_Row_form⟩
  split at h
  · rename_i e; subst e; cases h; exact ⟨_, _, 1, _, T.cls_Forest, T.me_Forest_form, ok_p_Forest_form T, hr.mono (by decide), T.b_p_Forest_form⟩
  split at h
  · rename_i e; subst e; cases h; exact ⟨_, _, 1, _, T.cls_Table, T.me_Table_form, ok_p_Table_form T, hr.mono (by decide), T.b_p_Table_form⟩
  cases h
theorem sc_p_law : FnScope ["_law_script", "_law_seed", "_law_marks_here", "_law_cells", "_law_row", "_law_text", "_law_form", "_law_cell", "_law_wrong", "_law_wide", "_law_lines", "_law_nodes_here", "_law_k", "_law_line"] ["_law_script"] (defScope (top 46)) := ⟨rfl, rfl, rfl, by decide +kernel, rfl, by decide +kernel, by decide +kernel⟩
namespace E
theorem ok_l_cell_at {P : Program} {w : World} {K : PySem.W.Frag} {mg : Str → Option Value} {base : Heap} {cl : ClsP} (T : Fs P w K mg cl) : FnOk P w K mg base (L2B.CX P w) 1 T.a_l_cell_at T.d_l_cell_at ["_law_script", "_law_k"] (spOf K cl [true, true] m_l_cell_at) := up (PM.ok_l_cell_at T)
theorem ok_l_forest_text {P : Program} {w : World} {K : PySem.W.Frag} {mg : Str → Option Value} {base : Heap} {cl : ClsP} (T : Fs P w K mg cl) : FnOk P w K mg base (L2B.CX P w) 1 T.a_l_forest_text T.d_l_forest_text ["_law_nodes_here"] (spOf K cl [true] m_l_forest_text) := up (PM.ok_l_forest_text T)
theorem ok_l_how_many {P : Program} {w : World} {K : PySem.W.Frag} {mg : Str → Option Value} {base : Heap} {cl : ClsP} (T : Fs P w K mg cl) : FnOk P w K mg base (L2B.CX P w) 1 T.a_l_how_many T.d_l_how_many ["_law_number"] (spOf K cl [true] m_l_how_many) := up (PM.ok_l_how_many T)
theorem ok_l_lines_text {P : Program} {w : World} {K : PySem.W.Frag} {mg : Str → Option Value} {base : Heap} {cl : ClsP} (T : Fs P w K mg cl) : FnOk P w K mg base (L2B.CX P w) 1 T.a_l_lines_text T.d_l_lines_text ["_law_lines"] (spOf K cl [true] m_l_lines_text) := up (PM.ok_l_lines_text T)
theorem ok_l_marks {P : Program} {w : World} {K : PySem.W.Frag} {mg : Str → Option Value} {base : Heap} {cl : ClsP} (T : Fs P w K mg cl) : FnOk P w K mg base (L2B.CX P w) 1 T.a_l_marks T.d_l_marks ["_law_cell", "_law_many"] (spOf K cl [true, true] m_l_marks) := up (PM.ok_l_marks T)
theorem ok_l_nodes {P : Program} {w : World} {K : PySem.W.Frag} {mg : Str → Option Value} {base : Heap} {cl : ClsP} (T : Fs P w K mg cl) : FnOk P w K mg base (L2B.CX P w) 2 T.a_l_nodes T.d_l_nodes ["_law_cells", "_law_marks_here"] (spOf K cl [true, true] m_l_nodes) := up (PM.ok_l_nodes T)
theorem ok_l_pick {P : Program} {w : World} {K : PySem.W.Frag} {mg : Str → Option Value} {base : Heap} {cl : ClsP} (T : Fs P w K mg cl) : FnOk P w K mg base (L2B.CX P w) 1 T.a_l_pick T.d_l_pick ["_law_cell", "_law_marks_here"] (spOf K cl [true, true] m_l_pick) := up (PM.ok_l_pick T)
theorem ok_l_wrong_by_any {P : Program} {w : World} {K : PySem.W.Frag} {mg : Str → Option Value} {base : Heap} {cl : ClsP} (T : Fs P w K mg cl) : FnOk P w K mg base (L2B.CX P w) 1 T.a_l_wrong_by_any T.d_l_wrong_by_any ["_law_text", "_law_cell", "_law_mark"] (spOf K cl [false, true, true] m_l_wrong_by_any) := up (PM.ok_l_wrong_by_any T)
theorem ok_l_wrong_forest {P : Program} {w : World} {K : PySem.W.Frag} {mg : Str → Option Value} {base : Heap} {cl : ClsP} (T : Fs P w K mg cl) : FnOk P w K mg base (L2B.CX P w) 2 T.a_l_wrong_forest T.d_l_wrong_forest ["_law_nodes_here", "_law_cell", "_law_mark"] (spOf K cl [true, true, false] m_l_wrong_forest) := up (PM.ok_l_wrong_forest T)
theorem ok_l_wrong_table {P : Program} {w : World} {K : PySem.W.Frag} {mg : Str → Option Value} {base : Heap} {cl : ClsP} (T : Fs P w K mg cl) : FnOk P w K mg base (L2B.CX P w) 2 T.a_l_wrong_table T.d_l_wrong_table ["_law_lines", "_law_cell", "_law_mark"] (spOf K cl [true, true, false] m_l_wrong_table) := up (PM.ok_l_wrong_table T)
theorem mtok_form {X : Cx} {cl : ClsP} (T : Fs X.prog X.w X.K X.mg cl) (hr : Room 1 X.A) : MtOk X cl "form" [] mt_form := mt_up (PM.mtok_form T hr)
theorem ok_p_law {P : Program} {w : World} {K : PySem.W.Frag} {mg : Str → Option Value} {base : Heap} {cl : ClsP} (T : Fs P w K mg cl) : FnOk P w K mg base (L2B.CX P w) 9 T.a_p_law T.d_p_law ["_law_script"] (spOf K cl [true] m_p_law) := by
  have nd := sc_p_law.nd
  refine fn_ok (k := 13) (body := c_p_law) T.F_p_law sc_p_law rfl rfl fun cdv A outer s H E hr tk => ?_
  refine ss_cons ?_ ?_
  refine ss_set (i := 1) nd (by rfl) (Or.inl rfl) ?_
  refine se_call (ok_l_cell_at T) (hr.mono (by decide)) (by rfl) T.g_l_cell_at T.F_l_cell_at.kp T.b_l_cell_at tk ?_
  refine sa_b ?_ ?_
  exact sb_v (pv 0)
  refine sa_b ?_ ?_
  refine SE.toB ?_
  exact se_int
  exact sa_nil
  refine ss_cons ?_ ?_
  refine ss_set (i := 2) nd (by rfl) (Or.inr rfl) ?_
  refine se_call (ok_l_marks T) (hr.mono (by decide)) (by rfl) T.g_l_marks T.F_l_marks.kp T.b_l_marks tk ?_
  refine sa_b ?_ ?_
  refine SE.toB ?_
  refine se_call (ok_l_cell_at T) (hr.mono (by decide)) (by rfl) T.g_l_cell_at T.F_l_cell_at.kp T.b_l_cell_at tk ?_
  refine sa_b ?_ ?_
  exact sb_v (pv 0)
  refine sa_b ?_ ?_
  refine SE.toB ?_
  exact se_int
  exact sa_nil
  refine sa_b ?_ ?_
  refine SE.toB ?_
  refine se_call (ok_l_how_many T) (hr.mono (by decide)) (by rfl) T.g_l_how_many T.F_l_how_many.kp T.b_l_how_many tk ?_
  refine sa_b ?_ ?_
  refine SE.toB ?_
  refine se_div ?_ ?_
  exact sb_v (pv 1)
  refine SE.toB ?_
  exact se_int
  exact sa_nil
  exact sa_nil
  refine ss_cons ?_ ?_
  refine ss_if ?_ ?_ ?_
  refine st_eq hr.units ?_ ?_
  refine SE.toB ?_
  refine se_mod ?_ ?_
  refine SE.toB ?_
  refine se_div ?_ ?_
  exact sb_v (pv 1)
  refine SE.toB ?_
  exact se_int
  refine SE.toB ?_
  exact se_int
  refine SE.toB ?_
  exact se_int
  refine ss_cons ?_ ?_
  refine ss_set (i := 2) nd (by rfl) (Or.inr rfl) ?_
  refine se_cut ?_ ?_ ?_
  refine SE.toB ?_
  refine SN.toE ?_
  refine sn_lst (bm := [false, false, false, false, false, false]) ?_
  refine sa_f ?_ ?_
  exact se_str
  refine sa_f ?_ ?_
  exact se_str
  refine sa_f ?_ ?_
  exact se_str
  refine sa_f ?_ ?_
  exact se_str
  refine sa_f ?_ ?_
  exact se_str
  refine sa_f ?_ ?_
  exact se_str
  exact sa_nil
  exact so_no
  refine so_at ?_
  refine SE.toB ?_
  refine sx_callB pfM call_len cs_len (by rfl) T.n_len (by decide +kernel) ?_
  refine sa_b ?_ ?_
  exact sb_v (pv 2)
  exact sa_nil
  refine ss_wipe ?_
  exact ss_nil
  refine ss_wipe ?_
  exact ss_nil
  refine ss_cons ?_ ?_
  refine ss_set (i := 3) nd (by rfl) (Or.inl rfl) ?_
  refine se_add ?_ ?_
  refine SE.toB ?_
  refine se_cut ?_ ?_ ?_
  exact sb_v (pv 0)
  refine so_at ?_
  refine SE.toB ?_
  exact se_int
  refine so_at ?_
  refine SE.toB ?_
  exact se_int
  refine SE.toB ?_
  refine SN.toE ?_
  refine sn_lst (bm := [false]) ?_
  refine sa_f ?_ ?_
  exact se_v (pv 1)
  exact sa_nil
  refine ss_cons ?_ ?_
  refine ss_set (i := 4) nd (by rfl) (Or.inr rfl) ?_
  refine SN.toE ?_
  refine sn_lc (own := [("_law_cell", 7)]) rfl nd ?_ ?_ (fun _ _ _ _ _ => pg_name (i := 7) nd (by rfl) (by first | exact Or.inl rfl | exact Or.inr rfl)) (tg_name) (tgo_name (by decide)) ?_ ?_
  refine si_list ?_
  exact se_v (pv 3)
  exact blkOk_by (N := ["_law_script", "_law_seed", "_law_marks_here", "_law_cells", "_law_row", "_law_text", "_law_form", "_law_cell", "_law_wrong", "_law_wide", "_law_lines", "_law_nodes_here", "_law_k", "_law_line"]) (sc := defScope (top 46)) (own := [("_law_cell", 7)]) (by decide +kernel)
  intro _ _ _ _ _
  exact sts_nil
  intro _ _ _ _ _
  refine se_call (ok_l_pick T) (hr.mono (by decide)) (by rfl) T.g_l_pick T.F_l_pick.kp T.b_l_pick takes0 ?_
  refine sa_b ?_ ?_
  exact sb_v (pv 7)
  refine sa_b ?_ ?_
  exact sb_v (pv 2)
  exact sa_nil
  refine ss_cons ?_ ?_
  refine ss_set (i := 5) nd (by rfl) (Or.inl rfl) ?_
  refine se_join ?_ ?_
  refine SE.toB ?_
  exact se_str
  refine SE.toB ?_
  refine se_add ?_ ?_
  refine SE.toB ?_
  refine SN.toE ?_
  refine sn_lst (bm := [false]) ?_
  refine sa_f ?_ ?_
  exact se_str
  exact sa_nil
  exact sb_v (pv 4)
  refine ss_cons ?_ ?_
  refine ss_set (i := 6) nd (by rfl) (Or.inl rfl) ?_
  refine se_tup (bm := [false, false]) ?_
  refine sa_f ?_ ?_
  exact se_str
  refine sa_f ?_ ?_
  refine sx_callTy pfM call_tuple_of cs_tuple (by rfl) T.n_tuple (by decide +kernel) ?_
  refine sa_b ?_ ?_
  exact sb_v (pv 4)
  exact sa_nil
  exact sa_nil
  refine ss_cons ?_ ?_
  refine ss_set (i := 7) nd (by rfl) (Or.inl rfl) ?_
  refine se_call (ok_l_cell_at T) (hr.mono (by decide)) (by rfl) T.g_l_cell_at T.F_l_cell_at.kp T.b_l_cell_at tk ?_
  refine sa_b ?_ ?_
  exact sb_v (pv 0)
  refine sa_b ?_ ?_
  refine SE.toB ?_
  exact se_int
  exact sa_nil
  refine ss_cons ?_ ?_
  refine ss_set (i := 8) nd (by rfl) (Or.inl rfl) ?_
  refine se_join ?_ ?_
  refine SE.toB ?_
  exact se_str
  refine SE.toB ?_
  refine se_add ?_ ?_
  refine SE.toB ?_
  refine se_add ?_ ?_
  refine SE.toB ?_
  refine SN.toE ?_
  refine sn_lst (bm := [false]) ?_
  refine sa_f ?_ ?_
  exact se_str
  exact sa_nil
  exact sb_v (pv 4)
  refine SE.toB ?_
  refine SN.toE ?_
  refine sn_lc (own := [("_law_k", 12)]) rfl nd ?_ ?_ (fun _ _ _ _ _ => pg_name (i := 12) nd (by rfl) (by first | exact Or.inl rfl | exact Or.inr rfl)) (tg_name) (tgo_name (by decide)) ?_ ?_
  refine si_range1 (by rfl) T.n_range ?_
  refine sa_b ?_ ?_
  refine SE.toB ?_
  refine se_sub ?_ ?_
  refine SE.toB ?_
  exact se_int
  refine SE.toB ?_
  refine sx_callB pfM call_len cs_len (by rfl) T.n_len (by decide +kernel) ?_
  refine sa_b ?_ ?_
  exact sb_v (pv 4)
  exact sa_nil
  exact sa_nil
  exact blkOk_by (N := ["_law_script", "_law_seed", "_law_marks_here", "_law_cells", "_law_row", "_law_text", "_law_form", "_law_cell", "_law_wrong", "_law_wide", "_law_lines", "_law_nodes_here", "_law_k", "_law_line"]) (sc := defScope (top 46)) (own := [("_law_k", 12)]) (by decide +kernel)
  intro _ _ _ _ _
  exact sts_nil
  intro _ _ _ _ _
  refine se_ix ?_ ?_
  exact sb_v (pv 2)
  refine SE.toB ?_
  exact se_int
  refine ss_cons ?_ ?_
  refine ss_if ?_ ?_ ?_
  refine st_eq hr.units ?_ ?_
  refine SE.toB ?_
  refine se_mod ?_ ?_
  exact sb_v (pv 1)
  refine SE.toB ?_
  exact se_int
  refine SE.toB ?_
  exact se_int
  refine ss_cons ?_ ?_
  refine ss_set (i := 9) nd (by rfl) (Or.inr rfl) ?_
  refine se_add ?_ ?_
  refine SE.toB ?_
  exact se_int
  refine SE.toB ?_
  refine se_mod ?_ ?_
  refine SE.toB ?_
  refine se_div ?_ ?_
  exact sb_v (pv 7)
  refine SE.toB ?_
  exact se_int
  refine SE.toB ?_
  exact se_int
  refine ss_cons ?_ ?_
  refine ss_setLc (own := [("_law_k", 12)]) rfl nd (i := 10) rfl rfl (sw_true rfl rfl rfl (by decide +kernel)) ?_ ?_ (fun _ _ _ _ _ => pg_name (i := 12) nd (by rfl) (by first | exact Or.inl rfl | exact Or.inr rfl)) (tg_name) (tgo_name (by decide)) ?_ ?_
  refine si_range3 (by rfl) T.n_range ?_
  refine sa_b ?_ ?_
  refine SE.toB ?_
  exact se_int
  refine sa_b ?_ ?_
  refine SE.toB ?_
  refine se_add ?_ ?_
  refine SE.toB ?_
  refine se_sub ?_ ?_
  refine SE.toB ?_
  refine sx_callB pfM call_len cs_len (by rfl) T.n_len (by decide +kernel) ?_
  refine sa_b ?_ ?_
  exact sb_v (pv 4)
  exact sa_nil
  exact sb_v (pv 9)
  refine SE.toB ?_
  exact se_int
  refine sa_b ?_ ?_
  exact sb_v (pv 9)
  exact sa_nil
  exact blkOk_by (N := ["_law_script", "_law_seed", "_law_marks_here", "_law_cells", "_law_row", "_law_text", "_law_form", "_law_cell", "_law_wrong", "_law_wide", "_law_lines", "_law_nodes_here", "_law_k", "_law_line"]) (sc := defScope (top 46)) (own := [("_law_k", 12)]) (by decide +kernel)
  intro _ _ _ _ _
  exact sts_nil
  intro _ _ _ _ _
  refine se_cut ?_ ?_ ?_
  exact sb_v (pv 4)
  refine so_at ?_
  exact sb_v (pv 12)
  refine so_at ?_
  refine SE.toB ?_
  refine se_add ?_ ?_
  exact sb_v (pv 12)
  exact sb_v (pv 9)
  refine ss_cons ?_ ?_
  refine ss_if ?_ ?_ ?_
  refine st_eq hr.units ?_ ?_
  refine SE.toB ?_
  refine sx_callB pfM call_len cs_len (by rfl) T.n_len (by decide +kernel) ?_
  refine sa_b ?_ ?_
  exact sb_v (pv 10)
  exact sa_nil
  refine SE.toB ?_
  exact se_int
  refine ss_cons ?_ ?_
  refine ss_set (i := 10) nd (by rfl) (Or.inl rfl) ?_
  refine SN.toE ?_
  refine sn_lst (bm := [false]) ?_
  refine sa_f ?_ ?_
  exact se_v (pv 4)
  exact sa_nil
  refine ss_wipe ?_
  exact ss_nil
  refine ss_wipe ?_
  exact ss_nil
  refine ss_cons ?_ ?_
  refine ss_set (i := 5) nd (by rfl) (Or.inl rfl) ?_
  refine se_call (ok_l_lines_text T) (hr.mono (by decide)) (by rfl) T.g_l_lines_text T.F_l_lines_text.kp T.b_l_lines_text tk ?_
  refine sa_b ?_ ?_
  exact sb_v (pv 10)
  exact sa_nil
  refine ss_cons ?_ ?_
  refine ss_set (i := 6) nd (by rfl) (Or.inl rfl) ?_
  refine se_tup (bm := [false, false, false]) ?_
  refine sa_f ?_ ?_
  exact se_str
  refine sa_f ?_ ?_
  refine sx_callB pfM call_len cs_len (by rfl) T.n_len (by decide +kernel) ?_
  refine sa_b ?_ ?_
  refine SE.toB ?_
  refine se_ix ?_ ?_
  exact sb_v (pv 10)
  refine SE.toB ?_
  exact se_int
  exact sa_nil
  refine sa_f ?_ ?_
  refine sx_callTy pfM call_tuple_of cs_tuple (by rfl) T.n_tuple (by decide +kernel) ?_
  refine sa_b ?_ ?_
  refine SE.toB ?_
  refine SN.toE ?_
  refine sn_lc (own := [("_law_line", 13)]) rfl nd ?_ ?_ (fun _ _ _ _ _ => pg_name (i := 13) nd (by rfl) (by first | exact Or.inl rfl | exact Or.inr rfl)) (tg_name) (tgo_name (by decide)) ?_ ?_
  refine si_list ?_
  exact se_v (pv 10)
  exact blkOk_by (N := ["_law_script", "_law_seed", "_law_marks_here", "_law_cells", "_law_row", "_law_text", "_law_form", "_law_cell", "_law_wrong", "_law_wide", "_law_lines", "_law_nodes_here", "_law_k", "_law_line"]) (sc := defScope (top 46)) (own := [("_law_line", 13)]) (by decide +kernel)
  intro _ _ _ _ _
  exact sts_nil
  intro _ _ _ _ _
  refine sx_callTy pfM call_tuple_of cs_tuple (by rfl) T.n_tuple (by decide +kernel) ?_
  refine sa_b ?_ ?_
  exact sb_v (pv 13)
  exact sa_nil
  exact sa_nil
  exact sa_nil
  refine ss_cons ?_ ?_
  refine ss_set (i := 8) nd (by rfl) (Or.inl rfl) ?_
  refine se_call (ok_l_wrong_table T) (hr.mono (by decide)) (by rfl) T.g_l_wrong_table T.F_l_wrong_table.kp T.b_l_wrong_table tk ?_
  refine sa_b ?_ ?_
  exact sb_v (pv 10)
  refine sa_b ?_ ?_
  exact sb_v (pv 7)
  refine sa_f ?_ ?_
  refine se_ix ?_ ?_
  exact sb_v (pv 2)
  refine SE.toB ?_
  exact se_int
  exact sa_nil
  refine ss_wipe ?_
  exact ss_nil
  refine ss_wipe ?_
  exact ss_nil
  refine ss_cons ?_ ?_
  refine ss_if ?_ ?_ ?_
  refine st_eq hr.units ?_ ?_
  refine SE.toB ?_
  refine se_mod ?_ ?_
  exact sb_v (pv 1)
  refine SE.toB ?_
  exact se_int
  refine SE.toB ?_
  exact se_int
  refine ss_cons ?_ ?_
  refine ss_set (i := 11) nd (by rfl) (Or.inl rfl) ?_
  refine se_call (ok_l_nodes T) (hr.mono (by decide)) (by rfl) T.g_l_nodes T.F_l_nodes.kp T.b_l_nodes tk ?_
  refine sa_b ?_ ?_
  exact sb_v (pv 3)
  refine sa_b ?_ ?_
  exact sb_v (pv 2)
  exact sa_nil
  refine ss_cons ?_ ?_
  refine ss_set (i := 5) nd (by rfl) (Or.inl rfl) ?_
  refine se_add ?_ ?_
  refine SE.toB ?_
  exact se_str
  refine SE.toB ?_
  refine se_call (ok_l_forest_text T) (hr.mono (by decide)) (by rfl) T.g_l_forest_text T.F_l_forest_text.kp T.b_l_forest_text tk ?_
  refine sa_b ?_ ?_
  exact sb_v (pv 11)
  exact sa_nil
  refine ss_cons ?_ ?_
  refine ss_set (i := 6) nd (by rfl) (Or.inl rfl) ?_
  refine se_tup (bm := [false, false]) ?_
  refine sa_f ?_ ?_
  exact se_str
  refine sa_f ?_ ?_
  refine sx_callTy pfM call_tuple_of cs_tuple (by rfl) T.n_tuple (by decide +kernel) ?_
  refine sa_b ?_ ?_
  exact sb_v (pv 11)
  exact sa_nil
  exact sa_nil
  refine ss_cons ?_ ?_
  refine ss_set (i := 8) nd (by rfl) (Or.inl rfl) ?_
  refine se_call (ok_l_wrong_forest T) (hr.mono (by decide)) (by rfl) T.g_l_wrong_forest T.F_l_wrong_forest.kp T.b_l_wrong_forest tk ?_
  refine sa_b ?_ ?_
  exact sb_v (pv 11)
  refine sa_b ?_ ?_
  exact sb_v (pv 7)
  refine sa_f ?_ ?_
  refine se_ix ?_ ?_
  exact sb_v (pv 2)
  refine SE.toB ?_
  exact se_int
  exact sa_nil
  refine ss_wipe ?_
  exact ss_nil
  refine ss_wipe ?_
  exact ss_nil
  refine ss_cons ?_ ?_
  refine ss_if ?_ ?_ ?_
  refine st_eq hr.units ?_ ?_
  refine SE.toB ?_
  refine se_mod ?_ ?_
  refine SE.toB ?_
  refine se_div ?_ ?_
  exact sb_v (pv 1)
  refine SE.toB ?_
  exact se_int
  refine SE.toB ?_
  exact se_int
  refine SE.toB ?_
  exact se_int
  refine ss_cons ?_ ?_
  refine ss_set (i := 8) nd (by rfl) (Or.inl rfl) ?_
  refine se_call (ok_l_wrong_by_any T) (hr.mono (by decide)) (by rfl) T.g_l_wrong_by_any T.F_l_wrong_by_any.kp T.b_l_wrong_by_any tk ?_
  refine sa_f ?_ ?_
  exact se_v (pv 5)
  refine sa_b ?_ ?_
  exact sb_v (pv 7)
  refine sa_b ?_ ?_
  refine SE.toB ?_
  refine se_ix ?_ ?_
  exact sb_v (pv 2)
  refine SE.toB ?_
  exact se_int
  exact sa_nil
  refine ss_wipe ?_
  exact ss_nil
  refine ss_wipe ?_
  exact ss_nil
  refine ss_cons ?_ ?_
  refine ss_if ?_ ?_ ?_
  refine st_not ?_
  refine st_val ?_ (fun _ => rfl)
  refine SE.toB ?_
  refine se_call (ok_l_refused T) (hr.mono (by decide)) (by rfl) T.g_l_refused T.F_l_refused.kp T.b_l_refused tk ?_
  refine sa_b ?_ ?_
  exact sb_v (pv 8)
  exact sa_nil
  refine ss_cons ?_ ?_
  refine ss_ret ?_
  exact se_bl
  exact ss_nil
  exact ss_nil
  refine ss_cons ?_ ?_
  refine ss_ret ?_
  refine se_eq hr.units ?_ ?_
  refine SE.toB ?_
  refine se_meth0 (mtok_form T (hr.mono (by decide))) ?_ tk
  refine SE.toB ?_
  refine se_call (ok_p_read_thing T) (hr.mono (by decide)) (by rfl) T.g_p_read_thing T.F_p_read_thing.kp T.b_p_read_thing tk ?_
  refine sa_b ?_ ?_
  exact sb_v (pv 5)
  exact sa_nil
  exact sb_v (pv 6)
  exact ss_nil
end E
theorem all_mk {l : PySem.W.OpenLaw} {w : World} {K : PySem.W.Frag} {h : Heap} {mg : Str → Option Value} {fa : Addr} (X : K.In h) (G : h.Ns mainGlobals mg) (hfa : mg "law" = some (.ref fa))
    {tk_LETTERS : Tok}
    {tk_MOST_LETTERS : Tok}
    {tk_MOST_PLACES : Tok}
    {tk_MOST_DEEP : Tok}
    {tk_MOST_LINES : Tok}
    {c_ShrinkError : Addr}
    {c_NoThing : Addr}
    {c_NoPlace : Addr}
    {c_NoFault : Addr}
    {c_NoRule : Addr}
    {c_Spent : Addr}
    {c_Healthy : Addr}
    {c_NoText : Addr}
    {c_NoRow : Addr}
    {c_Row : Addr}
    {c_Forest : Addr}
    {c_Table : Addr}
    {a_p_is_whole : Addr} {od_p_is_whole an_p_is_whole : Option Addr} {sl_p_is_whole : Array (Option Value)} {oc_p_is_whole kV_p_is_whole dc_p_is_whole pm_p_is_whole cd_p_is_whole ct_p_is_whole : Value}
    {a_p_is_mark : Addr} {od_p_is_mark an_p_is_mark : Option Addr} {sl_p_is_mark : Array (Option Value)} {oc_p_is_mark kV_p_is_mark dc_p_is_mark pm_p_is_mark cd_p_is_mark ct_p_is_mark : Value}
    {a_p_are_marks : Addr} {od_p_are_marks an_p_are_marks : Option Addr} {sl_p_are_marks : Array (Option Value)} {oc_p_are_marks kV_p_are_marks dc_p_are_marks pm_p_are_marks cd_p_are_marks ct_p_are_marks : Value}
    {a_p_are_nodes : Addr} {od_p_are_nodes an_p_are_nodes : Option Addr} {sl_p_are_nodes : Array (Option Value)} {oc_p_are_nodes kV_p_are_nodes dc_p_are_nodes pm_p_are_nodes cd_p_are_nodes ct_p_are_nodes : Value}
    {a_p_are_lines : Addr} {od_p_are_lines an_p_are_lines : Option Addr} {sl_p_are_lines : Array (Option Value)} {oc_p_are_lines kV_p_are_lines dc_p_are_lines pm_p_are_lines cd_p_are_lines ct_p_are_lines : Value}
    {a_p_Row_init : Addr} {od_p_Row_init an_p_Row_init : Option Addr} {sl_p_Row_init : Array (Option Value)} {oc_p_Row_init kV_p_Row_init dc_p_Row_init pm_p_Row_init cd_p_Row_init ct_p_Row_init : Value}
    {a_p_Row_form : Addr} {od_p_Row_form an_p_Row_form : Option Addr} {sl_p_Row_form : Array (Option Value)} {oc_p_Row_form kV_p_Row_form dc_p_Row_form pm_p_Row_form cd_p_Row_form ct_p_Row_form : Value}
    {a_p_Forest_init : Addr} {od_p_Forest_init an_p_Forest_init : Option Addr} {sl_p_Forest_init : Array (Option Value)} {oc_p_Forest_init kV_p_Forest_init dc_p_Forest_init pm_p_Forest_init cd_p_Forest_init ct_p_Forest_init : Value}
    {a_p_Forest_form : Addr} {od_p_Forest_form an_p_Forest_form : Option Addr} {sl_p_Forest_form : Array (Option Value)} {oc_p_Forest_form kV_p_Forest_form dc_p_Forest_form pm_p_Forest_form cd_p_Forest_form ct_p_Forest_form : Value}
    {a_p_Table_init : Addr} {od_p_Table_init an_p_Table_init : Option Addr} {sl_p_Table_init : Array (Option Value)} {oc_p_Table_init kV_p_Table_init dc_p_Table_init pm_p_Table_init cd_p_Table_init ct_p_Table_init : Value}
    {a_p_Table_form : Addr} {od_p_Table_form an_p_Table_form : Option Addr} {sl_p_Table_form : Array (Option Value)} {oc_p_Table_form kV_p_Table_form dc_p_Table_form pm_p_Table_form cd_p_Table_form ct_p_Table_form : Value}
    {a_p_read_line : Addr} {od_p_read_line an_p_read_line : Option Addr} {sl_p_read_line : Array (Option Value)} {oc_p_read_line kV_p_read_line dc_p_read_line pm_p_read_line cd_p_read_line ct_p_read_line : Value}
    {a_p_read_lines : Addr} {od_p_read_lines an_p_read_lines : Option Addr} {sl_p_read_lines : Array (Option Value)} {oc_p_read_lines kV_p_read_lines dc_p_read_lines pm_p_read_lines cd_p_read_lines ct_p_read_lines : Value}
    {a_p_read_nodes : Addr} {od_p_read_nodes an_p_read_nodes : Option Addr} {sl_p_read_nodes : Array (Option Value)} {oc_p_read_nodes kV_p_read_nodes dc_p_read_nodes pm_p_read_nodes cd_p_read_nodes ct_p_read_nodes : Value}
    {a_p_thing_of : Addr} {od_p_thing_of an_p_thing_of : Option Addr} {sl_p_thing_of : Array (Option Value)} {oc_p_thing_of kV_p_thing_of dc_p_thing_of pm_p_thing_of cd_p_thing_of ct_p_thing_of : Value}
    {a_p_read_thing : Addr} {od_p_read_thing an_p_read_thing : Option Addr} {sl_p_read_thing : Array (Option Value)} {oc_p_read_thing kV_p_read_thing dc_p_read_thing pm_p_read_thing cd_p_read_thing ct_p_read_thing : Value}
    {a_l_cell_at : Addr} {od_l_cell_at an_l_cell_at : Option Addr} {sl_l_cell_at : Array (Option Value)} {oc_l_cell_at kV_l_cell_at dc_l_cell_at pm_l_cell_at cd_l_cell_at ct_l_cell_at : Value}
    {a_l_how_many : Addr} {od_l_how_many an_l_how_many : Option Addr} {sl_l_how_many : Array (Option Value)} {oc_l_how_many kV_l_how_many dc_l_how_many pm_l_how_many cd_l_how_many ct_l_how_many : Value}
    {a_l_marks : Addr} {od_l_marks an_l_marks : Option Addr} {sl_l_marks : Array (Option Value)} {oc_l_marks kV_l_marks dc_l_marks pm_l_marks cd_l_marks ct_l_marks : Value}
    {a_l_pick : Addr} {od_l_pick an_l_pick : Option Addr} {sl_l_pick : Array (Option Value)} {oc_l_pick kV_l_pick dc_l_pick pm_l_pick cd_l_pick ct_l_pick : Value}
    {a_l_nodes : Addr} {od_l_nodes an_l_nodes : Option Addr} {sl_l_nodes : Array (Option Value)} {oc_l_nodes kV_l_nodes dc_l_nodes pm_l_nodes cd_l_nodes ct_l_nodes : Value}
    {a_l_forest_text : Addr} {od_l_forest_text an_l_forest_text : Option Addr} {sl_l_forest_text : Array (Option Value)} {oc_l_forest_text kV_l_forest_text dc_l_forest_text pm_l_forest_text cd_l_forest_text ct_l_forest_text : Value}
    {a_l_refused : Addr} {od_l_refused an_l_refused : Option Addr} {sl_l_refused : Array (Option Value)} {oc_l_refused kV_l_refused dc_l_refused pm_l_refused cd_l_refused ct_l_refused : Value}
    {a_l_wrong_by_any : Addr} {od_l_wrong_by_any an_l_wrong_by_any : Option Addr} {sl_l_wrong_by_any : Array (Option Value)} {oc_l_wrong_by_any kV_l_wrong_by_any dc_l_wrong_by_any pm_l_wrong_by_any cd_l_wrong_by_any ct_l_wrong_by_any : Value}
    {a_l_lines_text : Addr} {od_l_lines_text an_l_lines_text : Option Addr} {sl_l_lines_text : Array (Option Value)} {oc_l_lines_text kV_l_lines_text dc_l_lines_text pm_l_lines_text cd_l_lines_text ct_l_lines_text : Value}
    {a_l_wrong_table : Addr} {od_l_wrong_table an_l_wrong_table : Option Addr} {sl_l_wrong_table : Array (Option Value)} {oc_l_wrong_table kV_l_wrong_table dc_l_wrong_table pm_l_wrong_table cd_l_wrong_table ct_l_wrong_table : Value}
    {a_l_wrong_forest : Addr} {od_l_wrong_forest an_l_wrong_forest : Option Addr} {sl_l_wrong_forest : Array (Option Value)} {oc_l_wrong_forest kV_l_wrong_forest dc_l_wrong_forest pm_l_wrong_forest cd_l_wrong_forest ct_l_wrong_forest : Value}
    {a_p_law : Addr} {od_p_law an_p_law : Option Addr} {sl_p_law : Array (Option Value)} {oc_p_law kV_p_law dc_p_law pm_p_law cd_p_law ct_p_law : Value}
    (n_isinstance : PySem.W.nsIn K mainGlobals "isinstance" = some none)
    (n_int : PySem.W.nsIn K mainGlobals "int" = some none)
    (n_bool : PySem.W.nsIn K mainGlobals "bool" = some none)
    (n_str : PySem.W.nsIn K mainGlobals "str" = some none)
    (n_len : PySem.W.nsIn K mainGlobals "len" = some none)
    (n_list : PySem.W.nsIn K mainGlobals "list" = some none)
    (n_tuple : PySem.W.nsIn K mainGlobals "tuple" = some none)
    (n_min : PySem.W.nsIn K mainGlobals "min" = some none)
    (n_range : PySem.W.nsIn K mainGlobals "range" = some none)
    (n_ValueError : PySem.W.nsIn K mainGlobals "ValueError" = some none)
    (k_LETTERS : PySem.W.nsIn K mainGlobals "LETTERS" = some (some (.str "abcdefghijklmnopqrstuvwxyz" tk_LETTERS)))
    (k_MOST_LETTERS : PySem.W.nsIn K mainGlobals "MOST_LETTERS" = some (some (.int 8 tk_MOST_LETTERS)))
    (k_MOST_PLACES : PySem.W.nsIn K mainGlobals "MOST_PLACES" = some (some (.int 40 tk_MOST_PLACES)))
    (k_MOST_DEEP : PySem.W.nsIn K mainGlobals "MOST_DEEP" = some (some (.int 12 tk_MOST_DEEP)))
    (k_MOST_LINES : PySem.W.nsIn K mainGlobals "MOST_LINES" = some (some (.int 12 tk_MOST_LINES)))
    (gc_ShrinkError : PySem.W.nsIn K mainGlobals "ShrinkError" = some (some (.ref c_ShrinkError)))
    (gc_NoThing : PySem.W.nsIn K mainGlobals "NoThing" = some (some (.ref c_NoThing)))
    (gc_NoPlace : PySem.W.nsIn K mainGlobals "NoPlace" = some (some (.ref c_NoPlace)))
    (gc_NoFault : PySem.W.nsIn K mainGlobals "NoFault" = some (some (.ref c_NoFault)))
    (gc_NoRule : PySem.W.nsIn K mainGlobals "NoRule" = some (some (.ref c_NoRule)))
    (gc_Spent : PySem.W.nsIn K mainGlobals "Spent" = some (some (.ref c_Spent)))
    (gc_Healthy : PySem.W.nsIn K mainGlobals "Healthy" = some (some (.ref c_Healthy)))
    (gc_NoText : PySem.W.nsIn K mainGlobals "NoText" = some (some (.ref c_NoText)))
    (gc_NoRow : PySem.W.nsIn K mainGlobals "NoRow" = some (some (.ref c_NoRow)))
    (gc_Row : PySem.W.nsIn K mainGlobals "Row" = some (some (.ref c_Row)))
    (gc_Forest : PySem.W.nsIn K mainGlobals "Forest" = some (some (.ref c_Forest)))
    (gc_Table : PySem.W.nsIn K mainGlobals "Table" = some (some (.ref c_Table)))
    (g_p_is_whole : PySem.W.nsIn K mainGlobals "is_whole" = some (some (.ref a_p_is_whole)))
    (l_p_is_whole : K.lookup a_p_is_whole = some ⟨oc_p_is_whole, od_p_is_whole, .func (PySem.W.fnOf "is_whole" "is_whole" (defArgs (top 14)) (defBody (top 14)) (defScope (top 14)) .none kV_p_is_whole dc_p_is_whole pm_p_is_whole an_p_is_whole cd_p_is_whole ct_p_is_whole), sl_p_is_whole⟩)
    (c_p_is_whole : PySem.W.codeIn K cd_p_is_whole "is_whole" = true)
    (p_p_is_whole : PySem.W.keepIn K (.ref a_p_is_whole) = true)
    (g_p_is_mark : PySem.W.nsIn K mainGlobals "is_mark" = some (some (.ref a_p_is_mark)))
    (l_p_is_mark : K.lookup a_p_is_mark = some ⟨oc_p_is_mark, od_p_is_mark, .func (PySem.W.fnOf "is_mark" "is_mark" (defArgs (top 15)) (defBody (top 15)) (defScope (top 15)) .none kV_p_is_mark dc_p_is_mark pm_p_is_mark an_p_is_mark cd_p_is_mark ct_p_is_mark), sl_p_is_mark⟩)
    (c_p_is_mark : PySem.W.codeIn K cd_p_is_mark "is_mark" = true)
    (p_p_is_mark : PySem.W.keepIn K (.ref a_p_is_mark) = true)
    (g_p_are_marks : PySem.W.nsIn K mainGlobals "are_marks" = some (some (.ref a_p_are_marks)))
    (l_p_are_marks : K.lookup a_p_are_marks = some ⟨oc_p_are_marks, od_p_are_marks, .func (PySem.W.fnOf "are_marks" "are_marks" (defArgs (top 20)) (defBody (top 20)) (defScope (top 20)) .none kV_p_are_marks dc_p_are_marks pm_p_are_marks an_p_are_marks cd_p_are_marks ct_p_are_marks), sl_p_are_marks⟩)
    (c_p_are_marks : PySem.W.codeIn K cd_p_are_marks "are_marks" = true)
    (p_p_are_marks : PySem.W.keepIn K (.ref a_p_are_marks) = true)
    (g_p_are_nodes : PySem.W.nsIn K mainGlobals "are_nodes" = some (some (.ref a_p_are_nodes)))
    (l_p_are_nodes : K.lookup a_p_are_nodes = some ⟨oc_p_are_nodes, od_p_are_nodes, .func (PySem.W.fnOf "are_nodes" "are_nodes" (defArgs (top 21)) (defBody (top 21)) (defScope (top 21)) .none kV_p_are_nodes dc_p_are_nodes pm_p_are_nodes an_p_are_nodes cd_p_are_nodes ct_p_are_nodes), sl_p_are_nodes⟩)
    (c_p_are_nodes : PySem.W.codeIn K cd_p_are_nodes "are_nodes" = true)
    (p_p_are_nodes : PySem.W.keepIn K (.ref a_p_are_nodes) = true)
    (g_p_are_lines : PySem.W.nsIn K mainGlobals "are_lines" = some (some (.ref a_p_are_lines)))
    (l_p_are_lines : K.lookup a_p_are_lines = some ⟨oc_p_are_lines, od_p_are_lines, .func (PySem.W.fnOf "are_lines" "are_lines" (defArgs (top 22)) (defBody (top 22)) (defScope (top 22)) .none kV_p_are_lines dc_p_are_lines pm_p_are_lines an_p_are_lines cd_p_are_lines ct_p_are_lines), sl_p_are_lines⟩)
    (c_p_are_lines : PySem.W.codeIn K cd_p_are_lines "are_lines" = true)
    (p_p_are_lines : PySem.W.keepIn K (.ref a_p_are_lines) = true)
    (in_Row : PySem.W.findIn K (.ref c_Row) "__init__" = some (some (.ref a_p_Row_init)))
    (fn_p_Row_init : PySem.W.isFn K (.ref a_p_Row_init) = true)
    (l_p_Row_init : K.lookup a_p_Row_init = some ⟨oc_p_Row_init, od_p_Row_init, .func (PySem.W.fnOf "__init__" "Row.__init__" (defArgs (inClass (top 24) 0)) (defBody (inClass (top 24) 0)) (defScope (inClass (top 24) 0)) .none kV_p_Row_init dc_p_Row_init pm_p_Row_init an_p_Row_init cd_p_Row_init ct_p_Row_init), sl_p_Row_init⟩)
    (c_p_Row_init : PySem.W.codeIn K cd_p_Row_init "Row.__init__" = true)
    (p_p_Row_init : PySem.W.keepIn K (.ref a_p_Row_init) = true)
    (me_Row_form : PySem.W.findIn K (.ref c_Row) "form" = some (some (.ref a_p_Row_form)))
    (fn_p_Row_form : PySem.W.isFn K (.ref a_p_Row_form) = true)
    (l_p_Row_form : K.lookup a_p_Row_form = some ⟨oc_p_Row_form, od_p_Row_form, .func (PySem.W.fnOf "form" "Row.form" (defArgs (inClass (top 24) 4)) (defBody (inClass (top 24) 4)) (defScope (inClass (top 24) 4)) .none kV_p_Row_form dc_p_Row_form pm_p_Row_form an_p_Row_form cd_p_Row_form ct_p_Row_form), sl_p_Row_form⟩)
    (c_p_Row_form : PySem.W.codeIn K cd_p_Row_form "Row.form" = true)
    (p_p_Row_form : PySem.W.keepIn K (.ref a_p_Row_form) = true)
    (in_Forest : PySem.W.findIn K (.ref c_Forest) "__init__" = some (some (.ref a_p_Forest_init)))
    (fn_p_Forest_init : PySem.W.isFn K (.ref a_p_Forest_init) = true)
    (l_p_Forest_init : K.lookup a_p_Forest_init = some ⟨oc_p_Forest_init, od_p_Forest_init, .func (PySem.W.fnOf "__init__" "Forest.__init__" (defArgs (inClass (top 25) 0)) (defBody (inClass (top 25) 0)) (defScope (inClass (top 25) 0)) .none kV_p_Forest_init dc_p_Forest_init pm_p_Forest_init an_p_Forest_init cd_p_Forest_init ct_p_Forest_init), sl_p_Forest_init⟩)
    (c_p_Forest_init : PySem.W.codeIn K cd_p_Forest_init "Forest.__init__" = true)
    (p_p_Forest_init : PySem.W.keepIn K (.ref a_p_Forest_init) = true)
    (me_Forest_form : PySem.W.findIn K (.ref c_Forest) "form" = some (some (.ref a_p_Forest_form)))
    (fn_p_Forest_form : PySem.W.isFn K (.ref a_p_Forest_form) = true)
    (l_p_Forest_form : K.lookup a_p_Forest_form = some ⟨oc_p_Forest_form, od_p_Forest_form, .func (PySem.W.fnOf "form" "Forest.form" (defArgs (inClass (top 25) 4)) (defBody (inClass (top 25) 4)) (defScope (inClass (top 25) 4)) .none kV_p_Forest_form dc_p_Forest_form pm_p_Forest_form an_p_Forest_form cd_p_Forest_form ct_p_Forest_form), sl_p_Forest_form⟩)
    (c_p_Forest_form : PySem.W.codeIn K cd_p_Forest_form "Forest.form" = true)
    (p_p_Forest_form : PySem.W.keepIn K (.ref a_p_Forest_form) = true)
    (in_Table : PySem.W.findIn K (.ref c_Table) "__init__" = some (some (.ref a_p_Table_init)))
    (fn_p_Table_init : PySem.W.isFn K (.ref a_p_Table_init) = true)
    (l_p_Table_init : K.lookup a_p_Table_init = some ⟨oc_p_Table_init, od_p_Table_init, .func (PySem.W.fnOf "__init__" "Table.__init__" (defArgs (inClass (top 26) 0)) (defBody (inClass (top 26) 0)) (defScope (inClass (top 26) 0)) .none kV_p_Table_init dc_p_Table_init pm_p_Table_init an_p_Table_init cd_p_Table_init ct_p_Table_init), sl_p_Table_init⟩)
    (c_p_Table_init : PySem.W.codeIn K cd_p_Table_init "Table.__init__" = true)
    (p_p_Table_init : PySem.W.keepIn K (.ref a_p_Table_init) = true)
    (me_Table_form : PySem.W.findIn K (.ref c_Table) "form" = some (some (.ref a_p_Table_form)))
    (fn_p_Table_form : PySem.W.isFn K (.ref a_p_Table_form) = true)
    (l_p_Table_form : K.lookup a_p_Table_form = some ⟨oc_p_Table_form, od_p_Table_form, .func (PySem.W.fnOf "form" "Table.form" (defArgs (inClass (top 26) 4)) (defBody (inClass (top 26) 4)) (defScope (inClass (top 26) 4)) .none kV_p_Table_form dc_p_Table_form pm_p_Table_form an_p_Table_form cd_p_Table_form ct_p_Table_form), sl_p_Table_form⟩)
    (c_p_Table_form : PySem.W.codeIn K cd_p_Table_form "Table.form" = true)
    (p_p_Table_form : PySem.W.keepIn K (.ref a_p_Table_form) = true)
    (g_p_read_line : PySem.W.nsIn K mainGlobals "read_line" = some (some (.ref a_p_read_line)))
    (l_p_read_line : K.lookup a_p_read_line = some ⟨oc_p_read_line, od_p_read_line, .func (PySem.W.fnOf "read_line" "read_line" (defArgs (top 28)) (defBody (top 28)) (defScope (top 28)) .none kV_p_read_line dc_p_read_line pm_p_read_line an_p_read_line cd_p_read_line ct_p_read_line), sl_p_read_line⟩)
    (c_p_read_line : PySem.W.codeIn K cd_p_read_line "read_line" = true)
    (p_p_read_line : PySem.W.keepIn K (.ref a_p_read_line) = true)
    (g_p_read_lines : PySem.W.nsIn K mainGlobals "read_lines" = some (some (.ref a_p_read_lines)))
    (l_p_read_lines : K.lookup a_p_read_lines = some ⟨oc_p_read_lines, od_p_read_lines, .func (PySem.W.fnOf "read_lines" "read_lines" (defArgs (top 29)) (defBody (top 29)) (defScope (top 29)) .none kV_p_read_lines dc_p_read_lines pm_p_read_lines an_p_read_lines cd_p_read_lines ct_p_read_lines), sl_p_read_lines⟩)
    (c_p_read_lines : PySem.W.codeIn K cd_p_read_lines "read_lines" = true)
    (p_p_read_lines : PySem.W.keepIn K (.ref a_p_read_lines) = true)
    (g_p_read_nodes : PySem.W.nsIn K mainGlobals "read_nodes" = some (some (.ref a_p_read_nodes)))
    (l_p_read_nodes : K.lookup a_p_read_nodes = some ⟨oc_p_read_nodes, od_p_read_nodes, .func (PySem.W.fnOf "read_nodes" "read_nodes" (defArgs (top 30)) (defBody (top 30)) (defScope (top 30)) .none kV_p_read_nodes dc_p_read_nodes pm_p_read_nodes an_p_read_nodes cd_p_read_nodes ct_p_read_nodes), sl_p_read_nodes⟩)
    (c_p_read_nodes : PySem.W.codeIn K cd_p_read_nodes "read_nodes" = true)
    (p_p_read_nodes : PySem.W.keepIn K (.ref a_p_read_nodes) = true)
    (g_p_thing_of : PySem.W.nsIn K mainGlobals "thing_of" = some (some (.ref a_p_thing_of)))
    (l_p_thing_of : K.lookup a_p_thing_of = some ⟨oc_p_thing_of, od_p_thing_of, .func (PySem.W.fnOf "thing_of" "thing_of" (defArgs (top 31)) (defBody (top 31)) (defScope (top 31)) .none kV_p_thing_of dc_p_thing_of pm_p_thing_of an_p_thing_of cd_p_thing_of ct_p_thing_of), sl_p_thing_of⟩)
    (c_p_thing_of : PySem.W.codeIn K cd_p_thing_of "thing_of" = true)
    (p_p_thing_of : PySem.W.keepIn K (.ref a_p_thing_of) = true)
    (g_p_read_thing : PySem.W.nsIn K mainGlobals "read_thing" = some (some (.ref a_p_read_thing)))
    (l_p_read_thing : K.lookup a_p_read_thing = some ⟨oc_p_read_thing, od_p_read_thing, .func (PySem.W.fnOf "read_thing" "read_thing" (defArgs (top 32)) (defBody (top 32)) (defScope (top 32)) .none kV_p_read_thing dc_p_read_thing pm_p_read_thing an_p_read_thing cd_p_read_thing ct_p_read_thing), sl_p_read_thing⟩)
    (c_p_read_thing : PySem.W.codeIn K cd_p_read_thing "read_thing" = true)
    (p_p_read_thing : PySem.W.keepIn K (.ref a_p_read_thing) = true)
    (g_l_cell_at : PySem.W.nsIn K mainGlobals "_law_cell_at" = some (some (.ref a_l_cell_at)))
    (l_l_cell_at : K.lookup a_l_cell_at = some ⟨oc_l_cell_at, od_l_cell_at, .func (PySem.W.fnOf "_law_cell_at" "_law_cell_at" (defArgs (top 34)) (defBody (top 34)) (defScope (top 34)) .none kV_l_cell_at dc_l_cell_at pm_l_cell_at an_l_cell_at cd_l_cell_at ct_l_cell_at), sl_l_cell_at⟩)
    (c_l_cell_at : PySem.W.codeIn K cd_l_cell_at "_law_cell_at" = true)
    (p_l_cell_at : PySem.W.keepIn K (.ref a_l_cell_at) = true)
    (g_l_how_many : PySem.W.nsIn K mainGlobals "_law_how_many" = some (some (.ref a_l_how_many)))
    (l_l_how_many : K.lookup a_l_how_many = some ⟨oc_l_how_many, od_l_how_many, .func (PySem.W.fnOf "_law_how_many" "_law_how_many" (defArgs (top 36)) (defBody (top 36)) (defScope (top 36)) .none kV_l_how_many dc_l_how_many pm_l_how_many an_l_how_many cd_l_how_many ct_l_how_many), sl_l_how_many⟩)
    (c_l_how_many : PySem.W.codeIn K cd_l_how_many "_law_how_many" = true)
    (p_l_how_many : PySem.W.keepIn K (.ref a_l_how_many) = true)
    (g_l_marks : PySem.W.nsIn K mainGlobals "_law_marks" = some (some (.ref a_l_marks)))
    (l_l_marks : K.lookup a_l_marks = some ⟨oc_l_marks, od_l_marks, .func (PySem.W.fnOf "_law_marks" "_law_marks" (defArgs (top 37)) (defBody (top 37)) (defScope (top 37)) .none kV_l_marks dc_l_marks pm_l_marks an_l_marks cd_l_marks ct_l_marks), sl_l_marks⟩)
    (c_l_marks : PySem.W.codeIn K cd_l_marks "_law_marks" = true)
    (p_l_marks : PySem.W.keepIn K (.ref a_l_marks) = true)
    (g_l_pick : PySem.W.nsIn K mainGlobals "_law_pick" = some (some (.ref a_l_pick)))
    (l_l_pick : K.lookup a_l_pick = some ⟨oc_l_pick, od_l_pick, .func (PySem.W.fnOf "_law_pick" "_law_pick" (defArgs (top 38)) (defBody (top 38)) (defScope (top 38)) .none kV_l_pick dc_l_pick pm_l_pick an_l_pick cd_l_pick ct_l_pick), sl_l_pick⟩)
    (c_l_pick : PySem.W.codeIn K cd_l_pick "_law_pick" = true)
    (p_l_pick : PySem.W.keepIn K (.ref a_l_pick) = true)
    (g_l_nodes : PySem.W.nsIn K mainGlobals "_law_nodes" = some (some (.ref a_l_nodes)))
    (l_l_nodes : K.lookup a_l_nodes = some ⟨oc_l_nodes, od_l_nodes, .func (PySem.W.fnOf "_law_nodes" "_law_nodes" (defArgs (top 39)) (defBody (top 39)) (defScope (top 39)) .none kV_l_nodes dc_l_nodes pm_l_nodes an_l_nodes cd_l_nodes ct_l_nodes), sl_l_nodes⟩)
    (c_l_nodes : PySem.W.codeIn K cd_l_nodes "_law_nodes" = true)
    (p_l_nodes : PySem.W.keepIn K (.ref a_l_nodes) = true)
    (g_l_forest_text : PySem.W.nsIn K mainGlobals "_law_forest_text" = some (some (.ref a_l_forest_text)))
    (l_l_forest_text : K.lookup a_l_forest_text = some ⟨oc_l_forest_text, od_l_forest_text, .func (PySem.W.fnOf "_law_forest_text" "_law_forest_text" (defArgs (top 40)) (defBody (top 40)) (defScope (top 40)) .none kV_l_forest_text dc_l_forest_text pm_l_forest_text an_l_forest_text cd_l_forest_text ct_l_forest_text), sl_l_forest_text⟩)
    (c_l_forest_text : PySem.W.codeIn K cd_l_forest_text "_law_forest_text" = true)
    (p_l_forest_text : PySem.W.keepIn K (.ref a_l_forest_text) = true)
    (g_l_refused : PySem.W.nsIn K mainGlobals "_law_refused" = some (some (.ref a_l_refused)))
    (l_l_refused : K.lookup a_l_refused = some ⟨oc_l_refused, od_l_refused, .func (PySem.W.fnOf "_law_refused" "_law_refused" (defArgs (top 41)) (defBody (top 41)) (defScope (top 41)) .none kV_l_refused dc_l_refused pm_l_refused an_l_refused cd_l_refused ct_l_refused), sl_l_refused⟩)
    (c_l_refused : PySem.W.codeIn K cd_l_refused "_law_refused" = true)
    (p_l_refused : PySem.W.keepIn K (.ref a_l_refused) = true)
    (g_l_wrong_by_any : PySem.W.nsIn K mainGlobals "_law_wrong_by_any" = some (some (.ref a_l_wrong_by_any)))
    (l_l_wrong_by_any : K.lookup a_l_wrong_by_any = some ⟨oc_l_wrong_by_any, od_l_wrong_by_any, .func (PySem.W.fnOf "_law_wrong_by_any" "_law_wrong_by_any" (defArgs (top 42)) (defBody (top 42)) (defScope (top 42)) .none kV_l_wrong_by_any dc_l_wrong_by_any pm_l_wrong_by_any an_l_wrong_by_any cd_l_wrong_by_any ct_l_wrong_by_any), sl_l_wrong_by_any⟩)
    (c_l_wrong_by_any : PySem.W.codeIn K cd_l_wrong_by_any "_law_wrong_by_any" = true)
    (p_l_wrong_by_any : PySem.W.keepIn K (.ref a_l_wrong_by_any) = true)
    (g_l_lines_text : PySem.W.nsIn K mainGlobals "_law_lines_text" = some (some (.ref a_l_lines_text)))
    (l_l_lines_text : K.lookup a_l_lines_text = some ⟨oc_l_lines_text, od_l_lines_text, .func (PySem.W.fnOf "_law_lines_text" "_law_lines_text" (defArgs (top 44)) (defBody (top 44)) (defScope (top 44)) .none kV_l_lines_text dc_l_lines_text pm_l_lines_text an_l_lines_text cd_l_lines_text ct_l_lines_text), sl_l_lines_text⟩)
    (c_l_lines_text : PySem.W.codeIn K cd_l_lines_text "_law_lines_text" = true)
    (p_l_lines_text : PySem.W.keepIn K (.ref a_l_lines_text) = true)
    (g_l_wrong_table : PySem.W.nsIn K mainGlobals "_law_wrong_table" = some (some (.ref a_l_wrong_table)))
    (l_l_wrong_table : K.lookup a_l_wrong_table = some ⟨oc_l_wrong_table, od_l_wrong_table, .func (PySem.W.fnOf "_law_wrong_table" "_law_wrong_table" (defArgs (top 43)) (defBody (top 43)) (defScope (top 43)) .none kV_l_wrong_table dc_l_wrong_table pm_l_wrong_table an_l_wrong_table cd_l_wrong_table ct_l_wrong_table), sl_l_wrong_table⟩)
    (c_l_wrong_table : PySem.W.codeIn K cd_l_wrong_table "_law_wrong_table" = true)
    (p_l_wrong_table : PySem.W.keepIn K (.ref a_l_wrong_table) = true)
    (g_l_wrong_forest : PySem.W.nsIn K mainGlobals "_law_wrong_forest" = some (some (.ref a_l_wrong_forest)))
    (l_l_wrong_forest : K.lookup a_l_wrong_forest = some ⟨oc_l_wrong_forest, od_l_wrong_forest, .func (PySem.W.fnOf "_law_wrong_forest" "_law_wrong_forest" (defArgs (top 45)) (defBody (top 45)) (defScope (top 45)) .none kV_l_wrong_forest dc_l_wrong_forest pm_l_wrong_forest an_l_wrong_forest cd_l_wrong_forest ct_l_wrong_forest), sl_l_wrong_forest⟩)
    (c_l_wrong_forest : PySem.W.codeIn K cd_l_wrong_forest "_law_wrong_forest" = true)
    (p_l_wrong_forest : PySem.W.keepIn K (.ref a_l_wrong_forest) = true)
    (g_p_law : PySem.W.nsIn K mainGlobals "law" = some (some (.ref a_p_law)))
    (l_p_law : K.lookup a_p_law = some ⟨oc_p_law, od_p_law, .func (PySem.W.fnOf "law" "law" (defArgs (top 46)) (defBody (top 46)) (defScope (top 46)) .none kV_p_law dc_p_law pm_p_law an_p_law cd_p_law ct_p_law), sl_p_law⟩)
    (c_p_law : PySem.W.codeIn K cd_p_law "law" = true)
    (p_p_law : PySem.W.keepIn K (.ref a_p_law) = true)
    (xi_NoThing : PySem.W.excIn K c_NoThing [.type "ValueError", .type "Exception", .type "BaseException", .type "object"] "ValueError.__new__" = true)
    (xk_NoThing : PySem.W.keepIn K (.ref c_NoThing) = true)
    (xs_NoThing : PySem.W.subIn K (.ref c_NoThing) (.type "BaseException") = some true)
    (xt_NoThing : PySem.W.typeIn K (.ref c_NoThing) = some (.type "type"))
    (xi_NoText : PySem.W.excIn K c_NoText [.type "ValueError", .type "Exception", .type "BaseException", .type "object"] "ValueError.__new__" = true)
    (xk_NoText : PySem.W.keepIn K (.ref c_NoText) = true)
    (xs_NoText : PySem.W.subIn K (.ref c_NoText) (.type "BaseException") = some true)
    (xt_NoText : PySem.W.typeIn K (.ref c_NoText) = some (.type "type"))
    (hb_ShrinkError : PySem.W.subIn K (.ref c_ShrinkError) (.type "BaseException") = some true)
    (hd2_ShrinkError : PySem.W.hasDictIn K c_ShrinkError = true)
    (ht_ShrinkError : PySem.W.typeIn K (.ref c_ShrinkError) = some (.type "type"))
    (hs_NoThing_ShrinkError : PySem.W.subIn K (.ref c_NoThing) (.ref c_ShrinkError) = some true)
    (hs_NoText_ShrinkError : PySem.W.subIn K (.ref c_NoText) (.ref c_ShrinkError) = some true)
    (hb_NoThing : PySem.W.subIn K (.ref c_NoThing) (.type "BaseException") = some true)
    (hd2_NoThing : PySem.W.hasDictIn K c_NoThing = true)
    (ht_NoThing : PySem.W.typeIn K (.ref c_NoThing) = some (.type "type"))
    (hs_NoThing_NoThing : PySem.W.subIn K (.ref c_NoThing) (.ref c_NoThing) = some true)
    (hs_NoText_NoThing : PySem.W.subIn K (.ref c_NoText) (.ref c_NoThing) = some false)
    (xa_NoThing : PySem.W.findIn K (.ref c_NoThing) "__getattribute__" = some (some (.builtin "BaseException.__getattribute__")))
    (xb_NoThing : PySem.W.findIn K (.ref c_NoThing) "__getattr__" = some none)
    (xd_NoThing : PySem.W.hasDictIn K c_NoThing = true)
    (xe_NoThing : PySem.W.findIn K (.ref c_NoThing) "__class__" = some (some (.builtin "object.__class__")))
    (xf_NoThing : PySem.W.specialIn K (.builtin "object.__class__") "__get__" = some (some (.builtin "getset_descriptor.__get__")))
    (xg_NoThing : PySem.W.takesIn K (.builtin "object.__class__") = some true)
    (xm_NoThing : PySem.W.mroIn K c_NoThing (.type "object") = some true)
    (xa_NoText : PySem.W.findIn K (.ref c_NoText) "__getattribute__" = some (some (.builtin "BaseException.__getattribute__")))
    (xb_NoText : PySem.W.findIn K (.ref c_NoText) "__getattr__" = some none)
    (xd_NoText : PySem.W.hasDictIn K c_NoText = true)
    (xe_NoText : PySem.W.findIn K (.ref c_NoText) "__class__" = some (some (.builtin "object.__class__")))
    (xf_NoText : PySem.W.specialIn K (.builtin "object.__class__") "__get__" = some (some (.builtin "getset_descriptor.__get__")))
    (xg_NoText : PySem.W.takesIn K (.builtin "object.__class__") = some true)
    (xm_NoText : PySem.W.mroIn K c_NoText (.type "object") = some true)
    (xk_NoThing_NoThing : PySem.W.kitOne K (.ref c_NoThing) (.ref c_NoThing) = some true)
    (xk_NoText_NoThing : PySem.W.kitOne K (.ref c_NoText) (.ref c_NoThing) = some false)
    (xk_NoThing_NoPlace : PySem.W.kitOne K (.ref c_NoThing) (.ref c_NoPlace) = some false)
    (xk_NoText_NoPlace : PySem.W.kitOne K (.ref c_NoText) (.ref c_NoPlace) = some false)
    (xk_NoThing_NoFault : PySem.W.kitOne K (.ref c_NoThing) (.ref c_NoFault) = some false)
    (xk_NoText_NoFault : PySem.W.kitOne K (.ref c_NoText) (.ref c_NoFault) = some false)
    (xk_NoThing_NoRule : PySem.W.kitOne K (.ref c_NoThing) (.ref c_NoRule) = some false)
    (xk_NoText_NoRule : PySem.W.kitOne K (.ref c_NoText) (.ref c_NoRule) = some false)
    (xk_NoThing_Spent : PySem.W.kitOne K (.ref c_NoThing) (.ref c_Spent) = some false)
    (xk_NoText_Spent : PySem.W.kitOne K (.ref c_NoText) (.ref c_Spent) = some false)
    (xk_NoThing_Healthy : PySem.W.kitOne K (.ref c_NoThing) (.ref c_Healthy) = some false)
    (xk_NoText_Healthy : PySem.W.kitOne K (.ref c_NoText) (.ref c_Healthy) = some false)
    (xk_NoThing_NoText : PySem.W.kitOne K (.ref c_NoThing) (.ref c_NoText) = some false)
    (xk_NoText_NoText : PySem.W.kitOne K (.ref c_NoText) (.ref c_NoText) = some true)
    (xk_NoThing_NoRow : PySem.W.kitOne K (.ref c_NoThing) (.ref c_NoRow) = some false)
    (xk_NoText_NoRow : PySem.W.kitOne K (.ref c_NoText) (.ref c_NoRow) = some false)
    (xk_NoThing_ValueError : PySem.W.kitOne K (.ref c_NoThing) (.type "ValueError") = some true)
    (xk_NoText_ValueError : PySem.W.kitOne K (.ref c_NoText) (.type "ValueError") = some true)
    (pg_Row : PySem.W.plainGet K c_Row Str.empty = true)
    (hd_Row : PySem.W.hasDictIn K c_Row = true)
    (po_Row : PySem.W.plainOver K c_Row = true)
    (sa_Row : PySem.W.findIn K (.ref c_Row) "__setattr__" = some (some (.builtin "object.__setattr__")))
    (mk_Row : PySem.W.makesIn K c_Row = true)
    (kp_Row : PySem.W.keepIn K (.ref c_Row) = true)
    (na_Row_row : PySem.W.findIn K (.ref c_Row) "row" = some none)
    (pg_Forest : PySem.W.plainGet K c_Forest Str.empty = true)
    (hd_Forest : PySem.W.hasDictIn K c_Forest = true)
    (po_Forest : PySem.W.plainOver K c_Forest = true)
    (sa_Forest : PySem.W.findIn K (.ref c_Forest) "__setattr__" = some (some (.builtin "object.__setattr__")))
    (mk_Forest : PySem.W.makesIn K c_Forest = true)
    (kp_Forest : PySem.W.keepIn K (.ref c_Forest) = true)
    (na_Forest_nodes : PySem.W.findIn K (.ref c_Forest) "nodes" = some none)
    (pg_Table : PySem.W.plainGet K c_Table Str.empty = true)
    (hd_Table : PySem.W.hasDictIn K c_Table = true)
    (po_Table : PySem.W.plainOver K c_Table = true)
    (sa_Table : PySem.W.findIn K (.ref c_Table) "__setattr__" = some (some (.builtin "object.__setattr__")))
    (mk_Table : PySem.W.makesIn K c_Table = true)
    (kp_Table : PySem.W.keepIn K (.ref c_Table) = true)
    (na_Table_lines : PySem.W.findIn K (.ref c_Table) "lines" = some none)
    (na_Table_wide : PySem.W.findIn K (.ref c_Table) "wide" = some none)
    : ∃ fd : FuncData, (∀ (s : Shared) (v : Value), BindsTo s fd ⟨[v], []⟩ [("_law_script", v)]) ∧ ∀ base : Heap, K.In base → base.Ns mainGlobals mg → FnOk l.prog w K mg base (L2B.CX l.prog w) 9 fa fd ["_law_script"] (spOf K ⟨clOf K clsN, l.prog, w⟩ [true] m_p_law) := by
  have e := hfa.symm.trans (PySem.W.mg_of X G g_p_law)
  cases e
  have e_ShrinkError : clOf K clsN 0 = c_ShrinkError := clOf_eq rfl gc_ShrinkError
  subst e_ShrinkError
  have e_NoThing : clOf K clsN 1 = c_NoThing := clOf_eq rfl gc_NoThing
  subst e_NoThing
  have e_NoPlace : clOf K clsN 2 = c_NoPlace := clOf_eq rfl gc_NoPlace
  subst e_NoPlace
  have e_NoFault : clOf K clsN 3 = c_NoFault := clOf_eq rfl gc_NoFault
  subst e_NoFault
  have e_NoRule : clOf K clsN 4 = c_NoRule := clOf_eq rfl gc_NoRule
  subst e_NoRule
  have e_Spent : clOf K clsN 5 = c_Spent := clOf_eq rfl gc_Spent
  subst e_Spent
  have e_Healthy : clOf K clsN 6 = c_Healthy := clOf_eq rfl gc_Healthy
  subst e_Healthy
  have e_NoText : clOf K clsN 7 = c_NoText := clOf_eq rfl gc_NoText
  subst e_NoText
  have e_NoRow : clOf K clsN 8 = c_NoRow := clOf_eq rfl gc_NoRow
  subst e_NoRow
  have e_Row : clOf K clsN 10 = c_Row := clOf_eq rfl gc_Row
  subst e_Row
  have e_Forest : clOf K clsN 11 = c_Forest := clOf_eq rfl gc_Forest
  subst e_Forest
  have e_Table : clOf K clsN 12 = c_Table := clOf_eq rfl gc_Table
  subst e_Table
  let T : Fs l.prog w K mg ⟨clOf K clsN, l.prog, w⟩ := {
    hP := rfl
    hw := rfl
    n_isinstance := PySem.W.mg_none_of X G n_isinstance
    n_int := PySem.W.mg_none_of X G n_int
    n_bool := PySem.W.mg_none_of X G n_bool
    n_str := PySem.W.mg_none_of X G n_str
    n_len := PySem.W.mg_none_of X G n_len
    n_list := PySem.W.mg_none_of X G n_list
    n_tuple := PySem.W.mg_none_of X G n_tuple
    n_min := PySem.W.mg_none_of X G n_min
    n_range := PySem.W.mg_none_of X G n_range
    n_ValueError := PySem.W.mg_none_of X G n_ValueError
    k_LETTERS := ⟨_, PySem.W.mg_of X G k_LETTERS, _, rfl⟩
    k_MOST_LETTERS := ⟨_, PySem.W.mg_of X G k_MOST_LETTERS, _, rfl⟩
    k_MOST_PLACES := ⟨_, PySem.W.mg_of X G k_MOST_PLACES, _, rfl⟩
    k_MOST_DEEP := ⟨_, PySem.W.mg_of X G k_MOST_DEEP, _, rfl⟩
    k_MOST_LINES := ⟨_, PySem.W.mg_of X G k_MOST_LINES, _, rfl⟩
    a_p_is_whole := a_p_is_whole
    d_p_is_whole := _
    F_p_is_whole := fun_mk l_p_is_whole c_p_is_whole p_p_is_whole
    b_p_is_whole := (fun_mk (st := top 14) l_p_is_whole c_p_is_whole p_p_is_whole).binds (ps := ["thing"]) fun _ _ _ _ _ _ us hl => match us, hl with | [_], _ => rfl
    g_p_is_whole := PySem.W.mg_of X G g_p_is_whole
    a_p_is_mark := a_p_is_mark
    d_p_is_mark := _
    F_p_is_mark := fun_mk l_p_is_mark c_p_is_mark p_p_is_mark
    b_p_is_mark := (fun_mk (st := top 15) l_p_is_mark c_p_is_mark p_p_is_mark).binds (ps := ["thing"]) fun _ _ _ _ _ _ us hl => match us, hl with | [_], _ => rfl
    g_p_is_mark := PySem.W.mg_of X G g_p_is_mark
    a_p_are_marks := a_p_are_marks
    d_p_are_marks := _
    F_p_are_marks := fun_mk l_p_are_marks c_p_are_marks p_p_are_marks
    b_p_are_marks := (fun_mk (st := top 20) l_p_are_marks c_p_are_marks p_p_are_marks).binds (ps := ["some", "most"]) fun _ _ _ _ _ _ us hl => match us, hl with | [_, _], _ => rfl
    g_p_are_marks := PySem.W.mg_of X G g_p_are_marks
    a_p_are_nodes := a_p_are_nodes
    d_p_are_nodes := _
    F_p_are_nodes := fun_mk l_p_are_nodes c_p_are_nodes p_p_are_nodes
    b_p_are_nodes := (fun_mk (st := top 21) l_p_are_nodes c_p_are_nodes p_p_are_nodes).binds (ps := ["some"]) fun _ _ _ _ _ _ us hl => match us, hl with | [_], _ => rfl
    g_p_are_nodes := PySem.W.mg_of X G g_p_are_nodes
    a_p_are_lines := a_p_are_lines
    d_p_are_lines := _
    F_p_are_lines := fun_mk l_p_are_lines c_p_are_lines p_p_are_lines
    b_p_are_lines := (fun_mk (st := top 22) l_p_are_lines c_p_are_lines p_p_are_lines).binds (ps := ["some"]) fun _ _ _ _ _ _ us hl => match us, hl with | [_], _ => rfl
    g_p_are_lines := PySem.W.mg_of X G g_p_are_lines
    a_p_Row_init := a_p_Row_init
    d_p_Row_init := _
    F_p_Row_init := fun_mk l_p_Row_init c_p_Row_init p_p_Row_init
    b_p_Row_init := (fun_mk (st := inClass (top 24) 0) l_p_Row_init c_p_Row_init p_p_Row_init).binds (ps := ["self", "marks"]) fun _ _ _ _ _ _ us hl => match us, hl with | [_, _], _ => rfl
    a_p_Row_form := a_p_Row_form
    d_p_Row_form := _
    F_p_Row_form := fun_mk l_p_Row_form c_p_Row_form p_p_Row_form
    b_p_Row_form := (fun_mk (st := inClass (top 24) 4) l_p_Row_form c_p_Row_form p_p_Row_form).binds (ps := ["self"]) fun _ _ _ _ _ _ us hl => match us, hl with | [_], _ => rfl
    a_p_Forest_init := a_p_Forest_init
    d_p_Forest_init := _
    F_p_Forest_init := fun_mk l_p_Forest_init c_p_Forest_init p_p_Forest_init
    b_p_Forest_init := (fun_mk (st := inClass (top 25) 0) l_p_Forest_init c_p_Forest_init p_p_Forest_init).binds (ps := ["self", "nodes"]) fun _ _ _ _ _ _ us hl => match us, hl with | [_, _], _ => rfl
    a_p_Forest_form := a_p_Forest_form
    d_p_Forest_form := _
    F_p_Forest_form := fun_mk l_p_Forest_form c_p_Forest_form p_p_Forest_form
    b_p_Forest_form := (fun_mk (st := inClass (top 25) 4) l_p_Forest_form c_p_Forest_form p_p_Forest_form).binds (ps := ["self"]) fun _ _ _ _ _ _ us hl => match us, hl with | [_], _ => rfl
    a_p_Table_init := a_p_Table_init
    d_p_Table_init := _
    F_p_Table_init := fun_mk l_p_Table_init c_p_Table_init p_p_Table_init
    b_p_Table_init := (fun_mk (st := inClass (top 26) 0) l_p_Table_init c_p_Table_init p_p_Table_init).binds (ps := ["self", "lines"]) fun _ _ _ _ _ _ us hl => match us, hl with | [_, _], _ => rfl
    a_p_Table_form := a_p_Table_form
    d_p_Table_form := _
    F_p_Table_form := fun_mk l_p_Table_form c_p_Table_form p_p_Table_form
    b_p_Table_form := (fun_mk (st := inClass (top 26) 4) l_p_Table_form c_p_Table_form p_p_Table_form).binds (ps := ["self"]) fun _ _ _ _ _ _ us hl => match us, hl with | [_], _ => rfl
    a_p_read_line := a_p_read_line
    d_p_read_line := _
    F_p_read_line := fun_mk l_p_read_line c_p_read_line p_p_read_line
    b_p_read_line := (fun_mk (st := top 28) l_p_read_line c_p_read_line p_p_read_line).binds (ps := ["words"]) fun _ _ _ _ _ _ us hl => match us, hl with | [_], _ => rfl
    g_p_read_line := PySem.W.mg_of X G g_p_read_line
    a_p_read_lines := a_p_read_lines
    d_p_read_lines := _
    F_p_read_lines := fun_mk l_p_read_lines c_p_read_lines p_p_read_lines
    b_p_read_lines := (fun_mk (st := top 29) l_p_read_lines c_p_read_lines p_p_read_lines).binds (ps := ["words"]) fun _ _ _ _ _ _ us hl => match us, hl with | [_], _ => rfl
    g_p_read_lines := PySem.W.mg_of X G g_p_read_lines
    a_p_read_nodes := a_p_read_nodes
    d_p_read_nodes := _
    F_p_read_nodes := fun_mk l_p_read_nodes c_p_read_nodes p_p_read_nodes
    b_p_read_nodes := (fun_mk (st := top 30) l_p_read_nodes c_p_read_nodes p_p_read_nodes).binds (ps := ["text"]) fun _ _ _ _ _ _ us hl => match us, hl with | [_], _ => rfl
    g_p_read_nodes := PySem.W.mg_of X G g_p_read_nodes
    a_p_thing_of := a_p_thing_of
    d_p_thing_of := _
    F_p_thing_of := fun_mk l_p_thing_of c_p_thing_of p_p_thing_of
    b_p_thing_of := (fun_mk (st := top 31) l_p_thing_of c_p_thing_of p_p_thing_of).binds (ps := ["words"]) fun _ _ _ _ _ _ us hl => match us, hl with | [_], _ => rfl
    g_p_thing_of := PySem.W.mg_of X G g_p_thing_of
    a_p_read_thing := a_p_read_thing
    d_p_read_thing := _
    F_p_read_thing := fun_mk l_p_read_thing c_p_read_thing p_p_read_thing
    b_p_read_thing := (fun_mk (st := top 32) l_p_read_thing c_p_read_thing p_p_read_thing).binds (ps := ["text"]) fun _ _ _ _ _ _ us hl => match us, hl with | [_], _ => rfl
    g_p_read_thing := PySem.W.mg_of X G g_p_read_thing
    a_l_cell_at := a_l_cell_at
    d_l_cell_at := _
    F_l_cell_at := fun_mk l_l_cell_at c_l_cell_at p_l_cell_at
    b_l_cell_at := (fun_mk (st := top 34) l_l_cell_at c_l_cell_at p_l_cell_at).binds (ps := ["_law_script", "_law_k"]) fun _ _ _ _ _ _ us hl => match us, hl with | [_, _], _ => rfl
    g_l_cell_at := PySem.W.mg_of X G g_l_cell_at
    a_l_how_many := a_l_how_many
    d_l_how_many := _
    F_l_how_many := fun_mk l_l_how_many c_l_how_many p_l_how_many
    b_l_how_many := (fun_mk (st := top 36) l_l_how_many c_l_how_many p_l_how_many).binds (ps := ["_law_number"]) fun _ _ _ _ _ _ us hl => match us, hl with | [_], _ => rfl
    g_l_how_many := PySem.W.mg_of X G g_l_how_many
    a_l_marks := a_l_marks
    d_l_marks := _
    F_l_marks := fun_mk l_l_marks c_l_marks p_l_marks
    b_l_marks := (fun_mk (st := top 37) l_l_marks c_l_marks p_l_marks).binds (ps := ["_law_cell", "_law_many"]) fun _ _ _ _ _ _ us hl => match us, hl with | [_, _], _ => rfl
    g_l_marks := PySem.W.mg_of X G g_l_marks
    a_l_pick := a_l_pick
    d_l_pick := _
    F_l_pick := fun_mk l_l_pick c_l_pick p_l_pick
    b_l_pick := (fun_mk (st := top 38) l_l_pick c_l_pick p_l_pick).binds (ps := ["_law_cell", "_law_marks_here"]) fun _ _ _ _ _ _ us hl => match us, hl with | [_, _], _ => rfl
    g_l_pick := PySem.W.mg_of X G g_l_pick
    a_l_nodes := a_l_nodes
    d_l_nodes := _
    F_l_nodes := fun_mk l_l_nodes c_l_nodes p_l_nodes
    b_l_nodes := (fun_mk (st := top 39) l_l_nodes c_l_nodes p_l_nodes).binds (ps := ["_law_cells", "_law_marks_here"]) fun _ _ _ _ _ _ us hl => match us, hl with | [_, _], _ => rfl
    g_l_nodes := PySem.W.mg_of X G g_l_nodes
    a_l_forest_text := a_l_forest_text
    d_l_forest_text := _
    F_l_forest_text := fun_mk l_l_forest_text c_l_forest_text p_l_forest_text
    b_l_forest_text := (fun_mk (st := top 40) l_l_forest_text c_l_forest_text p_l_forest_text).binds (ps := ["_law_nodes_here"]) fun _ _ _ _ _ _ us hl => match us, hl with | [_], _ => rfl
    g_l_forest_text := PySem.W.mg_of X G g_l_forest_text
    a_l_refused := a_l_refused
    d_l_refused := _
    F_l_refused := fun_mk l_l_refused c_l_refused p_l_refused
    b_l_refused := (fun_mk (st := top 41) l_l_refused c_l_refused p_l_refused).binds (ps := ["_law_text"]) fun _ _ _ _ _ _ us hl => match us, hl with | [_], _ => rfl
    g_l_refused := PySem.W.mg_of X G g_l_refused
    a_l_wrong_by_any := a_l_wrong_by_any
    d_l_wrong_by_any := _
    F_l_wrong_by_any := fun_mk l_l_wrong_by_any c_l_wrong_by_any p_l_wrong_by_any
    b_l_wrong_by_any := (fun_mk (st := top 42) l_l_wrong_by_any c_l_wrong_by_any p_l_wrong_by_any).binds (ps := ["_law_text", "_law_cell", "_law_mark"]) fun _ _ _ _ _ _ us hl => match us, hl with | [_, _, _], _ => rfl
    g_l_wrong_by_any := PySem.W.mg_of X G g_l_wrong_by_any
    a_l_lines_text := a_l_lines_text
    d_l_lines_text := _
    F_l_lines_text := fun_mk l_l_lines_text c_l_lines_text p_l_lines_text
    b_l_lines_text := (fun_mk (st := top 44) l_l_lines_text c_l_lines_text p_l_lines_text).binds (ps := ["_law_lines"]) fun _ _ _ _ _ _ us hl => match us, hl with | [_], _ => rfl
    g_l_lines_text := PySem.W.mg_of X G g_l_lines_text
    a_l_wrong_table := a_l_wrong_table
    d_l_wrong_table := _
    F_l_wrong_table := fun_mk l_l_wrong_table c_l_wrong_table p_l_wrong_table
    b_l_wrong_table := (fun_mk (st := top 43) l_l_wrong_table c_l_wrong_table p_l_wrong_table).binds (ps := ["_law_lines", "_law_cell", "_law_mark"]) fun _ _ _ _ _ _ us hl => match us, hl with | [_, _, _], _ => rfl
    g_l_wrong_table := PySem.W.mg_of X G g_l_wrong_table
    a_l_wrong_forest := a_l_wrong_forest
    d_l_wrong_forest := _
    F_l_wrong_forest := fun_mk l_l_wrong_forest c_l_wrong_forest p_l_wrong_forest
    b_l_wrong_forest := (fun_mk (st := top 45) l_l_wrong_forest c_l_wrong_forest p_l_wrong_forest).binds (ps := ["_law_nodes_here", "_law_cell", "_law_mark"]) fun _ _ _ _ _ _ us hl => match us, hl with | [_, _, _], _ => rfl
    g_l_wrong_forest := PySem.W.mg_of X G g_l_wrong_forest
    a_p_law := fa
    d_p_law := _
    F_p_law := fun_mk l_p_law c_p_law p_p_law
    b_p_law := (fun_mk (st := top 46) l_p_law c_p_law p_p_law).binds (ps := ["_law_script"]) fun _ _ _ _ _ _ us hl => match us, hl with | [_], _ => rfl
    g_p_law := PySem.W.mg_of X G g_p_law
    gc_ShrinkError := PySem.W.mg_of X G gc_ShrinkError
    gc_NoThing := PySem.W.mg_of X G gc_NoThing
    gc_NoPlace := PySem.W.mg_of X G gc_NoPlace
    gc_NoFault := PySem.W.mg_of X G gc_NoFault
    gc_NoRule := PySem.W.mg_of X G gc_NoRule
    gc_Spent := PySem.W.mg_of X G gc_Spent
    gc_Healthy := PySem.W.mg_of X G gc_Healthy
    gc_NoText := PySem.W.mg_of X G gc_NoText
    gc_NoRow := PySem.W.mg_of X G gc_NoRow
    gc_Row := PySem.W.mg_of X G gc_Row
    gc_Forest := PySem.W.mg_of X G gc_Forest
    gc_Table := PySem.W.mg_of X G gc_Table
    ex_NoThing := ⟨xi_NoThing, xk_NoThing, xs_NoThing, xt_NoThing⟩
    ex_NoText := ⟨xi_NoText, xk_NoText, xs_NoText, xt_NoText⟩
    hb_ShrinkError := hb_ShrinkError
    hd_ShrinkError := hd2_ShrinkError
    ht_ShrinkError := ht_ShrinkError
    hs_NoThing_ShrinkError := hs_NoThing_ShrinkError
    hs_NoText_ShrinkError := hs_NoText_ShrinkError
    hb_NoThing := hb_NoThing
    hd_NoThing := hd2_NoThing
    ht_NoThing := ht_NoThing
    hs_NoThing_NoThing := hs_NoThing_NoThing
    hs_NoText_NoThing := hs_NoText_NoThing
    xc_NoThing := ⟨xa_NoThing, xb_NoThing, xs_NoThing, xd_NoThing, xe_NoThing, xf_NoThing, xg_NoThing, xm_NoThing⟩
    xc_NoText := ⟨xa_NoText, xb_NoText, xs_NoText, xd_NoText, xe_NoText, xf_NoText, xg_NoText, xm_NoText⟩
    xk_NoThing_NoThing := xk_NoThing_NoThing
    xk_NoText_NoThing := xk_NoText_NoThing
    xk_NoThing_NoPlace := xk_NoThing_NoPlace
    xk_NoText_NoPlace := xk_NoText_NoPlace
    xk_NoThing_NoFault := xk_NoThing_NoFault
    xk_NoText_NoFault := xk_NoText_NoFault
    xk_NoThing_NoRule := xk_NoThing_NoRule
    xk_NoText_NoRule := xk_NoText_NoRule
    xk_NoThing_Spent := xk_NoThing_Spent
    xk_NoText_Spent := xk_NoText_Spent
    xk_NoThing_Healthy := xk_NoThing_Healthy
    xk_NoText_Healthy := xk_NoText_Healthy
    xk_NoThing_NoText := xk_NoThing_NoText
    xk_NoText_NoText := xk_NoText_NoText
    xk_NoThing_NoRow := xk_NoThing_NoRow
    xk_NoText_NoRow := xk_NoText_NoRow
    xk_NoThing_ValueError := xk_NoThing_ValueError
    xk_NoText_ValueError := xk_NoText_ValueError
    cls_Row := ⟨pg_Row, hd_Row, po_Row, sa_Row⟩
    mk_Row := ⟨mk_Row, in_Row, fn_p_Row_init, kp_Row⟩
    na_Row_row := na_Row_row
    cls_Forest := ⟨pg_Forest, hd_Forest, po_Forest, sa_Forest⟩
    mk_Forest := ⟨mk_Forest, in_Forest, fn_p_Forest_init, kp_Forest⟩
    na_Forest_nodes := na_Forest_nodes
    cls_Table := ⟨pg_Table, hd_Table, po_Table, sa_Table⟩
    mk_Table := ⟨mk_Table, in_Table, fn_p_Table_init, kp_Table⟩
    na_Table_lines := na_Table_lines
    na_Table_wide := na_Table_wide
    me_Row_form := ⟨me_Row_form, fn_p_Row_form, p_p_Row_form⟩
    me_Forest_form := ⟨me_Forest_form, fn_p_Forest_form, p_p_Forest_form⟩
    me_Table_form := ⟨me_Table_form, fn_p_Table_form, p_p_Table_form⟩ }
  exact ⟨T.d_p_law, fun s v => .of_eq rfl, fun base _ _ => E.ok_p_law T⟩
theorem walk {l : PySem.W.OpenLaw} {q : Program} {loose : List Str} {XP : (Str → Option Value) → Heap → Prop} {YP : World → Heap → Prop} {d : DefRec} {K : Params → PySem.W.Frag} (hlaw : LawOk) (hn : l.most = some 63) (hdf : d.params.defaults = [])
    (hY : ∀ (w : World) (h : Heap), YP w h → (K w.params).In h)
    (F : ∀ (w : World) (mg : Str → Option Value) (fa : Addr) (h : Heap), (K w.params).In h → h.Ns mainGlobals mg → mg d.name = some (.ref fa) →
      ∃ fd : FuncData, (∀ (s : Shared) (u : Value), BindsTo s fd ⟨[u], []⟩ [("_law_script", u)]) ∧ ∀ base : Heap, (K w.params).In base → base.Ns mainGlobals mg → FnOk l.prog w (K w.params) mg base (L2B.CX l.prog w) 9 fa fd ["_law_script"] (spOf (K w.params) ⟨clOf (K w.params) clsN, l.prog, w⟩ [true] m_p_law)) :
    PySem.W.WalkO q loose XP YP l.row.toRowW d [] (fun f vs => PySem.call f vs) :=
  L2.walk_of (n := 63) (k := 9) (x := "_law_script") (CX := fun w => L2B.CX l.prog w) (sp := fun w => spOf (K w.params) ⟨clOf (K w.params) clsN, l.prog, w⟩ [true] m_p_law) hn (by decide) hdf ⟨rfl, by decide, by decide⟩ hY F (fun w H a ns hl hO hS => sp_startR [true] (by simp) (hlaw ns hl) hS) fun _ _ _ _ _ z => E.cx_end z
end PM
open PySem PySem.W PyProof.Rows
set_option maxRecDepth 100000 in
set_option maxHeartbeats 0 in
theorem PySem.Challenge.cw_shrinkhouse_k36_no_things_texts_holds : PySem.Challenge.rw_shrinkhouse_k36_no_things_texts.Holds := by
  refine PM.top_ ?_
  k_fill
  refine PM.walk (l := PySem.Challenge.rw_shrinkhouse_k36_no_things_texts) PM.law_ok rfl rfl (fun w h Y => PySem.W.kIn_of Y) ?F
  case F =>
    intro w mg fa h KX G hmg
    refine' PM.all_mk KX G hmg ?n_isinstance ?n_int ?n_bool ?n_str ?n_len ?n_list ?n_tuple ?n_min ?n_range ?n_ValueError ?k_LETTERS ?k_MOST_LETTERS ?k_MOST_PLACES ?k_MOST_DEEP ?k_MOST_LINES ?gc_ShrinkError ?gc_NoThing ?gc_NoPlace ?gc_NoFault ?gc_NoRule ?gc_Spent ?gc_Healthy ?gc_NoText ?gc_NoRow ?gc_Row ?gc_Forest ?gc_Table ?g_p_is_whole ?l_p_is_whole ?c_p_is_whole ?p_p_is_whole ?g_p_is_mark ?l_p_is_mark ?c_p_is_mark ?p_p_is_mark ?g_p_are_marks ?l_p_are_marks ?c_p_are_marks ?p_p_are_marks ?g_p_are_nodes ?l_p_are_nodes ?c_p_are_nodes ?p_p_are_nodes ?g_p_are_lines ?l_p_are_lines ?c_p_are_lines ?p_p_are_lines ?in_Row ?fn_p_Row_init ?l_p_Row_init ?c_p_Row_init ?p_p_Row_init ?me_Row_form ?fn_p_Row_form ?l_p_Row_form ?c_p_Row_form ?p_p_Row_form ?in_Forest ?fn_p_Forest_init ?l_p_Forest_init ?c_p_Forest_init ?p_p_Forest_init ?me_Forest_form ?fn_p_Forest_form ?l_p_Forest_form ?c_p_Forest_form ?p_p_Forest_form ?in_Table ?fn_p_Table_init ?l_p_Table_init ?c_p_Table_init ?p_p_Table_init ?me_Table_form ?fn_p_Table_form ?l_p_Table_form ?c_p_Table_form ?p_p_Table_form ?g_p_read_line ?l_p_read_line ?c_p_read_line ?p_p_read_line ?g_p_read_lines ?l_p_read_lines ?c_p_read_lines ?p_p_read_lines ?g_p_read_nodes ?l_p_read_nodes ?c_p_read_nodes ?p_p_read_nodes ?g_p_thing_of ?l_p_thing_of ?c_p_thing_of ?p_p_thing_of ?g_p_read_thing ?l_p_read_thing ?c_p_read_thing ?p_p_read_thing ?g_l_cell_at ?l_l_cell_at ?c_l_cell_at ?p_l_cell_at ?g_l_how_many ?l_l_how_many ?c_l_how_many ?p_l_how_many ?g_l_marks ?l_l_marks ?c_l_marks ?p_l_marks ?g_l_pick ?l_l_pick ?c_l_pick ?p_l_pick ?g_l_nodes ?l_l_nodes ?c_l_nodes ?p_l_nodes ?g_l_forest_text ?l_l_forest_text ?c_l_forest_text ?p_l_forest_text ?g_l_refused ?l_l_refused ?c_l_refused ?p_l_refused ?g_l_wrong_by_any ?l_l_wrong_by_any ?c_l_wrong_by_any ?p_l_wrong_by_any ?g_l_lines_text ?l_l_lines_text ?c_l_lines_text ?p_l_lines_text ?g_l_wrong_table ?l_l_wrong_table ?c_l_wrong_table ?p_l_wrong_table ?g_l_wrong_forest ?l_l_wrong_forest ?c_l_wrong_forest ?p_l_wrong_forest ?g_p_law ?l_p_law ?c_p_law ?p_p_law ?xi_NoThing ?xk_NoThing ?xs_NoThing ?xt_NoThing ?xi_NoText ?xk_NoText ?xs_NoText ?xt_NoText ?hb_ShrinkError ?hd2_ShrinkError ?ht_ShrinkError ?hs_NoThing_ShrinkError ?hs_NoText_ShrinkError ?hb_NoThing ?hd2_NoThing ?ht_NoThing ?hs_NoThing_NoThing ?hs_NoText_NoThing ?xa_NoThing ?xb_NoThing ?xd_NoThing ?xe_NoThing ?xf_NoThing ?xg_NoThing ?xm_NoThing ?xa_NoText ?xb_NoText ?xd_NoText ?xe_NoText ?xf_NoText ?xg_NoText ?xm_NoText ?xk_NoThing_NoThing ?xk_NoText_NoThing ?xk_NoThing_NoPlace ?xk_NoText_NoPlace ?xk_NoThing_NoFault ?xk_NoText_NoFault ?xk_NoThing_NoRule ?xk_NoText_NoRule ?xk_NoThing_Spent ?xk_NoText_Spent ?xk_NoThing_Healthy ?xk_NoText_Healthy ?xk_NoThing_NoText ?xk_NoText_NoText ?xk_NoThing_NoRow ?xk_NoText_NoRow ?xk_NoThing_ValueError ?xk_NoText_ValueError ?pg_Row ?hd_Row ?po_Row ?sa_Row ?mk_Row ?kp_Row ?na_Row_row ?pg_Forest ?hd_Forest ?po_Forest ?sa_Forest ?mk_Forest ?kp_Forest ?na_Forest_nodes ?pg_Table ?hd_Table ?po_Table ?sa_Table ?mk_Table ?kp_Table ?na_Table_lines ?na_Table_wide
    (case n_isinstance => k_is)
    (case n_int => k_is)
    (case n_bool => k_is)
    (case n_str => k_is)
    (case n_len => k_is)
    (case n_list => k_is)
    (case n_tuple => k_is)
    (case n_min => k_is)
    (case n_range => k_is)
    (case n_ValueError => k_is)
    (case k_LETTERS => k_is)
    (case k_MOST_LETTERS => k_is)
    (case k_MOST_PLACES => k_is)
    (case k_MOST_DEEP => k_is)
    (case k_MOST_LINES => k_is)
    (case gc_ShrinkError => k_is)
    (case gc_NoThing => k_is)
    (case gc_NoPlace => k_is)
    (case gc_NoFault => k_is)
    (case gc_NoRule => k_is)
    (case gc_Spent => k_is)
    (case gc_Healthy => k_is)
    (case gc_NoText => k_is)
    (case gc_NoRow => k_is)
    (case gc_Row => k_is)
    (case gc_Forest => k_is)
    (case gc_Table => k_is)
    (case g_p_is_whole => k_is)
    (case l_p_is_whole => k_is)
    (case c_p_is_whole => k_is)
    (case p_p_is_whole => k_is)
    (case g_p_is_mark => k_is)
    (case l_p_is_mark => k_is)
    (case c_p_is_mark => k_is)
    (case p_p_is_mark => k_is)
    (case g_p_are_marks => k_is)
    (case l_p_are_marks => k_is)
    (case c_p_are_marks => k_is)
    (case p_p_are_marks => k_is)
    (case g_p_are_nodes => k_is)
    (case l_p_are_nodes => k_is)
    (case c_p_are_nodes => k_is)
    (case p_p_are_nodes => k_is)
    (case g_p_are_lines => k_is)
    (case l_p_are_lines => k_is)
    (case c_p_are_lines => k_is)
    (case p_p_are_lines => k_is)
    (case in_Row => k_is)
    (case fn_p_Row_init => k_is)
    (case l_p_Row_init => k_is)
    (case c_p_Row_init => k_is)
    (case p_p_Row_init => k_is)
    (case me_Row_form => k_is)
    (case fn_p_Row_form => k_is)
    (case l_p_Row_form => k_is)
    (case c_p_Row_form => k_is)
    (case p_p_Row_form => k_is)
    (case in_Forest => k_is)
    (case fn_p_Forest_init => k_is)
    (case l_p_Forest_init => k_is)
    (case c_p_Forest_init => k_is)
    (case p_p_Forest_init => k_is)
    (case me_Forest_form => k_is)
    (case fn_p_Forest_form => k_is)
    (case l_p_Forest_form => k_is)
    (case c_p_Forest_form => k_is)
    (case p_p_Forest_form => k_is)
    (case in_Table => k_is)
    (case fn_p_Table_init => k_is)
    (case l_p_Table_init => k_is)
    (case c_p_Table_init => k_is)
    (case p_p_Table_init => k_is)
    (case me_Table_form => k_is)
    (case fn_p_Table_form => k_is)
    (case l_p_Table_form => k_is)
    (case c_p_Table_form => k_is)
    (case p_p_Table_form => k_is)
    (case g_p_read_line => k_is)
    (case l_p_read_line => k_is)
    (case c_p_read_line => k_is)
    (case p_p_read_line => k_is)
    (case g_p_read_lines => k_is)
    (case l_p_read_lines => k_is)
    (case c_p_read_lines => k_is)
    (case p_p_read_lines => k_is)
    (case g_p_read_nodes => k_is)
    (case l_p_read_nodes => k_is)
    (case c_p_read_nodes => k_is)
    (case p_p_read_nodes => k_is)
    (case g_p_thing_of => k_is)
    (case l_p_thing_of => k_is)
    (case c_p_thing_of => k_is)
    (case p_p_thing_of => k_is)
    (case g_p_read_thing => k_is)
    (case l_p_read_thing => k_is)
    (case c_p_read_thing => k_is)
    (case p_p_read_thing => k_is)
    (case g_l_cell_at => k_is)
    (case l_l_cell_at => k_is)
    (case c_l_cell_at => k_is)
    (case p_l_cell_at => k_is)
    (case g_l_how_many => k_is)
    (case l_l_how_many => k_is)
    (case c_l_how_many => k_is)
    (case p_l_how_many => k_is)
    (case g_l_marks => k_is)
    (case l_l_marks => k_is)
    (case c_l_marks => k_is)
    (case p_l_marks => k_is)
    (case g_l_pick => k_is)
    (case l_l_pick => k_is)
    (case c_l_pick => k_is)
    (case p_l_pick => k_is)
    (case g_l_nodes => k_is)
    (case l_l_nodes => k_is)
    (case c_l_nodes => k_is)
    (case p_l_nodes => k_is)
    (case g_l_forest_text => k_is)
    (case l_l_forest_text => k_is)
    (case c_l_forest_text => k_is)
    (case p_l_forest_text => k_is)
    (case g_l_refused => k_is)
    (case l_l_refused => k_is)
    (case c_l_refused => k_is)
    (case p_l_refused => k_is)
    (case g_l_wrong_by_any => k_is)
    (case l_l_wrong_by_any => k_is)
    (case c_l_wrong_by_any => k_is)
    (case p_l_wrong_by_any => k_is)
    (case g_l_lines_text => k_is)
    (case l_l_lines_text => k_is)
    (case c_l_lines_text => k_is)
    (case p_l_lines_text => k_is)
    (case g_l_wrong_table => k_is)
    (case l_l_wrong_table => k_is)
    (case c_l_wrong_table => k_is)
    (case p_l_wrong_table => k_is)
    (case g_l_wrong_forest => k_is)
    (case l_l_wrong_forest => k_is)
    (case c_l_wrong_forest => k_is)
    (case p_l_wrong_forest => k_is)
    (case g_p_law => k_is)
    (case l_p_law => k_is)
    (case c_p_law => k_is)
    (case p_p_law => k_is)
    (case xi_NoThing => k_exc)
    (case xk_NoThing => k_is)
    (case xs_NoThing => k_is)
    (case xt_NoThing => k_is)
    (case xi_NoText => k_exc)
    (case xk_NoText => k_is)
    (case xs_NoText => k_is)
    (case xt_NoText => k_is)
    (case hb_ShrinkError => k_is)
    (case hd2_ShrinkError => k_is)
    (case ht_ShrinkError => k_is)
    (case hs_NoThing_ShrinkError => k_is)
    (case hs_NoText_ShrinkError => k_is)
    (case hb_NoThing => k_is)
    (case hd2_NoThing => k_is)
    (case ht_NoThing => k_is)
    (case hs_NoThing_NoThing => k_is)
    (case hs_NoText_NoThing => k_is)
    (case xa_NoThing => k_is)
    (case xb_NoThing => k_is)
    (case xd_NoThing => k_is)
    (case xe_NoThing => k_is)
    (case xf_NoThing => k_is)
    (case xg_NoThing => k_is)
    (case xm_NoThing => k_is)
    (case xa_NoText => k_is)
    (case xb_NoText => k_is)
    (case xd_NoText => k_is)
    (case xe_NoText => k_is)
    (case xf_NoText => k_is)
    (case xg_NoText => k_is)
    (case xm_NoText => k_is)
    (case xk_NoThing_NoThing => first | exact PM.kit_of (by k_is) (by k_is) (by k_is) (by first | exact .inl rfl | exact .inr rfl) | exact PM.kit_ofT (by rfl) (by k_is) (by first | exact .inl rfl | exact .inr rfl))
    (case xk_NoText_NoThing => first | exact PM.kit_of (by k_is) (by k_is) (by k_is) (by first | exact .inl rfl | exact .inr rfl) | exact PM.kit_ofT (by rfl) (by k_is) (by first | exact .inl rfl | exact .inr rfl))
    (case xk_NoThing_NoPlace => first | exact PM.kit_of (by k_is) (by k_is) (by k_is) (by first | exact .inl rfl | exact .inr rfl) | exact PM.kit_ofT (by rfl) (by k_is) (by first | exact .inl rfl | exact .inr rfl))
    (case xk_NoText_NoPlace => first | exact PM.kit_of (by k_is) (by k_is) (by k_is) (by first | exact .inl rfl | exact .inr rfl) | exact PM.kit_ofT (by rfl) (by k_is) (by first | exact .inl rfl | exact .inr rfl))
    (case xk_NoThing_NoFault => first | exact PM.kit_of (by k_is) (by k_is) (by k_is) (by first | exact .inl rfl | exact .inr rfl) | exact PM.kit_ofT (by rfl) (by k_is) (by first | exact .inl rfl | exact .inr rfl))
    (case xk_NoText_NoFault => first | exact PM.kit_of (by k_is) (by k_is) (by k_is) (by first | exact .inl rfl | exact .inr rfl) | exact PM.kit_ofT (by rfl) (by k_is) (by first | exact .inl rfl | exact .inr rfl))
    (case xk_NoThing_NoRule => first | exact PM.kit_of (by k_is) (by k_is) (by k_is) (by first | exact .inl rfl | exact .inr rfl) | exact PM.kit_ofT (by rfl) (by k_is) (by first | exact .inl rfl | exact .inr rfl))
    (case xk_NoText_NoRule => first | exact PM.kit_of (by k_is) (by k_is) (by k_is) (by first | exact .inl rfl | exact .inr rfl) | exact PM.kit_ofT (by rfl) (by k_is) (by first | exact .inl rfl | exact .inr rfl))
    (case xk_NoThing_Spent => first | exact PM.kit_of (by k_is) (by k_is) (by k_is) (by first | exact .inl rfl | exact .inr rfl) | exact PM.kit_ofT (by rfl) (by k_is) (by first | exact .inl rfl | exact .inr rfl))
    (case xk_NoText_Spent => first | exact PM.kit_of (by k_is) (by k_is) (by k_is) (by first | exact .inl rfl | exact .inr rfl) | exact PM.kit_ofT (by rfl) (by k_is) (by first | exact .inl rfl | exact .inr rfl))
    (case xk_NoThing_Healthy => first | exact PM.kit_of (by k_is) (by k_is) (by k_is) (by first | exact .inl rfl | exact .inr rfl) | exact PM.kit_ofT (by rfl) (by k_is) (by first | exact .inl rfl | exact .inr rfl))
    (case xk_NoText_Healthy => first | exact PM.kit_of (by k_is) (by k_is) (by k_is) (by first | exact .inl rfl | exact .inr rfl) | exact PM.kit_ofT (by rfl) (by k_is) (by first | exact .inl rfl | exact .inr rfl))
    (case xk_NoThing_NoText => first | exact PM.kit_of (by k_is) (by k_is) (by k_is) (by first | exact .inl rfl | exact .inr rfl) | exact PM.kit_ofT (by rfl) (by k_is) (by first | exact .inl rfl | exact .inr rfl))
    (case xk_NoText_NoText => first | exact PM.kit_of (by k_is) (by k_is) (by k_is) (by first | exact .inl rfl | exact .inr rfl) | exact PM.kit_ofT (by rfl) (by k_is) (by first | exact .inl rfl | exact .inr rfl))
    (case xk_NoThing_NoRow => first | exact PM.kit_of (by k_is) (by k_is) (by k_is) (by first | exact .inl rfl | exact .inr rfl) | exact PM.kit_ofT (by rfl) (by k_is) (by first | exact .inl rfl | exact .inr rfl))
    (case xk_NoText_NoRow => first | exact PM.kit_of (by k_is) (by k_is) (by k_is) (by first | exact .inl rfl | exact .inr rfl) | exact PM.kit_ofT (by rfl) (by k_is) (by first | exact .inl rfl | exact .inr rfl))
    (case xk_NoThing_ValueError => first | exact PM.kit_of (by k_is) (by k_is) (by k_is) (by first | exact .inl rfl | exact .inr rfl) | exact PM.kit_ofT (by rfl) (by k_is) (by first | exact .inl rfl | exact .inr rfl))
    (case xk_NoText_ValueError => first | exact PM.kit_of (by k_is) (by k_is) (by k_is) (by first | exact .inl rfl | exact .inr rfl) | exact PM.kit_ofT (by rfl) (by k_is) (by first | exact .inl rfl | exact .inr rfl))
    (case pg_Row => k_is)
    (case hd_Row => k_is)
    (case po_Row => k_is)
    (case sa_Row => k_is)
    (case mk_Row => k_is)
    (case kp_Row => k_is)
    (case na_Row_row => k_is)
    (case pg_Forest => k_is)
    (case hd_Forest => k_is)
    (case po_Forest => k_is)
    (case sa_Forest => k_is)
    (case mk_Forest => k_is)
    (case kp_Forest => k_is)
    (case na_Forest_nodes => k_is)
    (case pg_Table => k_is)
    (case hd_Table => k_is)
    (case po_Table => k_is)
    (case sa_Table => k_is)
    (case mk_Table => k_is)
    (case kp_Table => k_is)
    (case na_Table_lines => k_is)
    (case na_Table_wide => k_is)
