import PyProof.Rows.All
import Wide.All
import OpenK.AllK
import Wide.FinOn
import HandS.ForMost
import HandS.Exc
import HandS.ExcOwn
import HandS.TryOnly
import HandS.TryMany
import HandS.WordsExc
import HandS.IsInst
import HandS.Deep
import HandS.StrMore
import HandS.TupAny
import HandS.Wide
import HandS.WideBits
import HandS.Flow
import HandS.Style
import HandS.RevRange
import HandS.SortOrd
import HandS.SortInts
import HandS.Conv
import HandS.Replace
import KE.DataEq
import PySem.Challenge.RW_shrinkhouse_k01_marks
set_option Elab.async false
set_option linter.all false
set_option maxRecDepth 100000
/-! PM1: values as data, ownership, what a state of the machine stands for. -/
namespace PM
open PySem PySem.Spec PyProof.Rows L2

/-- data: what a value stands for -/
inductive D where
  | non | bl (b : Bool) | int (i : Int) | str (x : Str)
  | lst (xs : List D) | tup (xs : List D) | dic (kvs : List (Key × D))
  | obj (c : Nat) (fs : List (Str × D))
  | rf (n : Nat)
  | scr (ns : List Int)

inductive Lab where
  | slot (i : Nat) | cell (n : Nat) | fld (n k : Nat)
def Lab.st : Lab → Bool
  | .slot _ => false
  | _ => true

/-- the ghost: what is frozen, who owns what, where the store's objects stand -/
structure Gh where
  Z : Hp
  lab : Addr → Option Lab
  mu : List Addr
  me : Option V := none

mutual
inductive Rep (K : PySem.W.Frag) (cl : Nat → Addr) (mu : List Addr) (Z : Hp) : V → D → Prop
  | non : Rep K cl mu Z .non .non
  | bl (b : Bool) : Rep K cl mu Z (.bl b) (.bl b)
  | int (i : Int) : Rep K cl mu Z (.int i) (.int i)
  | str (x : Str) : Rep K cl mu Z (.str x) (.str x)
  | lst {a : Addr} {vs : List V} {ds : List D} : Z a = some (.lst vs) → RepAll K cl mu Z vs ds → Rep K cl mu Z (.ref a) (.lst ds)
  | tup {a : Addr} {vs : List V} {ds : List D} : SqT K Z a vs → RepAll K cl mu Z vs ds → Rep K cl mu Z (.ref a) (.tup ds)
  | dic {a : Addr} {vs : List (Key × V)} {ds : List (Key × D)} : Z a = some (.dK vs) → RepK K cl mu Z vs ds → Rep K cl mu Z (.ref a) (.dic ds)
  | obj {a dx : Addr} {c : Nat} {vs : List (Str × V)} {ds : List (Str × D)} : Z a = some (.ins (cl c) dx vs) → Z dx = some (.own a) → RepF K cl mu Z vs ds → Rep K cl mu Z (.ref a) (.obj c ds)
  | rf {n : Nat} {a : Addr} : mu[n]? = some a → Rep K cl mu Z (.ref a) (.rf n)
  | scr {a : Addr} {ns : List Int} : SqL K Z a (ns.map V.int) → Rep K cl mu Z (.ref a) (.scr ns)
inductive RepAll (K : PySem.W.Frag) (cl : Nat → Addr) (mu : List Addr) (Z : Hp) : List V → List D → Prop
  | nil : RepAll K cl mu Z [] []
  | cons {v : V} {vs : List V} {d : D} {ds : List D} : Rep K cl mu Z v d → RepAll K cl mu Z vs ds → RepAll K cl mu Z (v :: vs) (d :: ds)
inductive RepK (K : PySem.W.Frag) (cl : Nat → Addr) (mu : List Addr) (Z : Hp) : List (Key × V) → List (Key × D) → Prop
  | nil : RepK K cl mu Z [] []
  | cons {k : Key} {v : V} {vs : List (Key × V)} {d : D} {ds : List (Key × D)} : Rep K cl mu Z v d → RepK K cl mu Z vs ds → RepK K cl mu Z ((k, v) :: vs) ((k, d) :: ds)
inductive RepF (K : PySem.W.Frag) (cl : Nat → Addr) (mu : List Addr) (Z : Hp) : List (Str × V) → List (Str × D) → Prop
  | nil : RepF K cl mu Z [] []
  | cons {k : Str} {v : V} {vs : List (Str × V)} {d : D} {ds : List (Str × D)} : Rep K cl mu Z v d → RepF K cl mu Z vs ds → RepF K cl mu Z ((k, v) :: vs) ((k, d) :: ds)
end

section
variable {K : PySem.W.Frag} {cl : Nat → Addr} {mu mu' : List Addr} {Z Z' : Hp}
theorem sameT {H H' : Hp} {a : Addr} {xs : List V} (e : Same H H') (h : SqT K H a xs) : SqT K H' a xs := by
  rcases h with (h | ⟨o, h⟩) | h
  · exact .inl (.inl (e _ _ h))
  · exact .inl (.inr ⟨o, e _ _ h⟩)
  · exact .inr h
mutual
theorem Rep.mono (hz : Same Z Z') (hm : ∃ t, mu' = mu ++ t) : ∀ (d : D) (v : V), Rep K cl mu Z v d → Rep K cl mu' Z' v d
  | .non, _, h => by cases h; exact .non
  | .bl _, _, h => by cases h; exact .bl _
  | .int _, _, h => by cases h; exact .int _
  | .str _, _, h => by cases h; exact .str _
  | .lst ds, _, h => by
    cases h with
    | lst hs ha => exact .lst (hz _ _ hs) (RepAll.mono hz hm ds _ ha)
  | .tup ds, _, h => by
    cases h with
    | tup hs ha => exact .tup (sameT hz hs) (RepAll.mono hz hm ds _ ha)
  | .dic ds, _, h => by
    cases h with
    | dic hs ha => exact .dic (hz _ _ hs) (RepK.mono hz hm ds _ ha)
  | .obj c ds, _, h => by
    cases h with
    | obj hs hx ha => exact .obj (hz _ _ hs) (hz _ _ hx) (RepF.mono hz hm ds _ ha)
  | .rf n, _, h => by
    cases h with
    | rf e =>
      obtain ⟨t, rfl⟩ := hm
      exact .rf (by rw [List.getElem?_append_left (List.getElem?_eq_some_iff.mp e).1]; exact e)
  | .scr ns, _, h => by
    cases h with
    | scr hs => exact .scr (hz.seq hs)
theorem RepAll.mono (hz : Same Z Z') (hm : ∃ t, mu' = mu ++ t) : ∀ (ds : List D) (vs : List V), RepAll K cl mu Z vs ds → RepAll K cl mu' Z' vs ds
  | [], _, h => by cases h; exact .nil
  | d :: ds, _, h => by
    cases h with
    | cons h1 h2 => exact .cons (Rep.mono hz hm d _ h1) (RepAll.mono hz hm ds _ h2)
theorem RepK.mono (hz : Same Z Z') (hm : ∃ t, mu' = mu ++ t) : ∀ (ds : List (Key × D)) (vs : List (Key × V)), RepK K cl mu Z vs ds → RepK K cl mu' Z' vs ds
  | [], _, h => by cases h; exact .nil
  | (k, d) :: ds, _, h => by
    cases h with
    | cons h1 h2 => exact .cons (Rep.mono hz hm d _ h1) (RepK.mono hz hm ds _ h2)
theorem RepF.mono (hz : Same Z Z') (hm : ∃ t, mu' = mu ++ t) : ∀ (ds : List (Str × D)) (vs : List (Str × V)), RepF K cl mu Z vs ds → RepF K cl mu' Z' vs ds
  | [], _, h => by cases h; exact .nil
  | (k, d) :: ds, _, h => by
    cases h with
    | cons h1 h2 => exact .cons (Rep.mono hz hm d _ h1) (RepF.mono hz hm ds _ h2)
end
theorem RepAll.length : ∀ {vs : List V} {ds : List D}, RepAll K cl mu Z vs ds → vs.length = ds.length
  | _, _, .nil => rfl
  | _, _, .cons _ t => congrArg (· + 1) (RepAll.length t)
theorem RepAll.get : ∀ {vs : List V} {ds : List D} {i : Nat} {d : D}, RepAll K cl mu Z vs ds → ds[i]? = some d → ∃ v, vs[i]? = some v ∧ Rep K cl mu Z v d
  | _, _, _, _, .nil, e => by simp at e
  | _, _, 0, _, .cons r _, e => by simp at e; subst e; exact ⟨_, rfl, r⟩
  | _, _, i + 1, d, .cons _ t, e => by
    obtain ⟨v, h1, h2⟩ := RepAll.get (i := i) (d := d) t (by simpa using e)
    exact ⟨v, by simpa using h1, h2⟩
theorem RepAll.getV : ∀ {vs : List V} {ds : List D} {i : Nat} {v : V}, RepAll K cl mu Z vs ds → vs[i]? = some v → ∃ d, ds[i]? = some d ∧ Rep K cl mu Z v d
  | _, _, _, _, .nil, e => by simp at e
  | _, _, 0, _, .cons r _, e => by simp at e; subst e; exact ⟨_, rfl, r⟩
  | _, _, i + 1, d, .cons _ t, e => by
    obtain ⟨v, h1, h2⟩ := RepAll.getV (i := i) t (by simpa using e)
    exact ⟨v, by simpa using h1, h2⟩
theorem RepAll.append : ∀ {vs ws : List V} {ds es : List D}, RepAll K cl mu Z vs ds → RepAll K cl mu Z ws es → RepAll K cl mu Z (vs ++ ws) (ds ++ es)
  | _, _, _, _, .nil, t => t
  | _, _, _, _, .cons r s, t => .cons r (RepAll.append s t)
theorem RepAll.take : ∀ {vs : List V} {ds : List D} (n : Nat), RepAll K cl mu Z vs ds → RepAll K cl mu Z (vs.take n) (ds.take n)
  | _, _, 0, _ => .nil
  | _, _, _ + 1, .nil => .nil
  | _, _, n + 1, .cons r t => .cons r (RepAll.take n t)
theorem RepAll.drop : ∀ {vs : List V} {ds : List D} (n : Nat), RepAll K cl mu Z vs ds → RepAll K cl mu Z (vs.drop n) (ds.drop n)
  | _, _, 0, r => r
  | _, _, _ + 1, .nil => .nil
  | _, _, n + 1, .cons _ t => RepAll.drop n t
theorem RepAll.set {v : V} {d : D} (r : Rep K cl mu Z v d) : ∀ {vs : List V} {ds : List D} (n : Nat), RepAll K cl mu Z vs ds → RepAll K cl mu Z (vs.set n v) (ds.set n d)
  | _, _, _, .nil => .nil
  | _, _, 0, .cons _ t => .cons r t
  | _, _, n + 1, .cons q t => .cons q (RepAll.set r n t)
theorem RepAll.replicate {vs : List V} {ds : List D} (h : RepAll K cl mu Z vs ds) : ∀ n : Nat, RepAll K cl mu Z (List.replicate n vs).flatten (List.replicate n ds).flatten
  | 0 => .nil
  | n + 1 => by
    rw [List.replicate_succ, List.replicate_succ, List.flatten_cons, List.flatten_cons]
    exact h.append (RepAll.replicate h n)
theorem RepAll.dropLast {vs : List V} {ds : List D} (h : RepAll K cl mu Z vs ds) : RepAll K cl mu Z vs.dropLast ds.dropLast := by
  rw [List.dropLast_eq_take, List.dropLast_eq_take, h.length]; exact h.take _
theorem RepAll.reverse {vs : List V} {ds : List D} (h : RepAll K cl mu Z vs ds) : RepAll K cl mu Z vs.reverse ds.reverse := by
  induction vs generalizing ds with
  | nil => cases h; exact .nil
  | cons v vs ih =>
    cases h with
    | cons r t =>
      rw [List.reverse_cons, List.reverse_cons]
      exact (ih t).append (.cons r .nil)
theorem RepAll.eraseIdx : ∀ {vs : List V} {ds : List D} (n : Nat), RepAll K cl mu Z vs ds → RepAll K cl mu Z (vs.eraseIdx n) (ds.eraseIdx n)
  | _, _, _, .nil => .nil
  | _, _, 0, .cons _ t => t
  | _, _, n + 1, .cons q t => .cons q (RepAll.eraseIdx n t)
theorem RepAll.ints : ∀ (ns : List Int), RepAll K cl mu Z (ns.map V.int) (ns.map D.int)
  | [] => .nil
  | n :: r => .cons (.int n) (RepAll.ints r)
theorem RepAll.strs : ∀ (ns : List Str), RepAll K cl mu Z (ns.map V.str) (ns.map D.str)
  | [] => .nil
  | n :: r => .cons (.str n) (RepAll.strs r)
theorem RepF.lookup {f : Str} : ∀ {vs : List (Str × V)} {ds : List (Str × D)} {d : D}, RepF K cl mu Z vs ds → ds.lookup f = some d → ∃ v, vs.lookup f = some v ∧ Rep K cl mu Z v d
  | _, _, _, .nil, e => by simp at e
  | _, _, d, @RepF.cons _ _ _ _ k v vs d' ds r t, e => by
    rw [List.lookup_cons] at e ⊢
    cases q : f == k with
    | true => rw [q] at e; simp at e; subst e; exact ⟨v, by simp, r⟩
    | false => rw [q] at e; exact RepF.lookup t e
theorem RepF.lookupN {f : Str} : ∀ {vs : List (Str × V)} {ds : List (Str × D)}, RepF K cl mu Z vs ds → ds.lookup f = none → vs.lookup f = none
  | _, _, .nil, e => rfl
  | _, _, @RepF.cons _ _ _ _ k v vs d' ds r t, e => by
    rw [List.lookup_cons] at e ⊢
    cases q : f == k with
    | true => rw [q] at e; simp at e
    | false => rw [q] at e; exact RepF.lookupN t e
theorem RepF.length : ∀ {vs : List (Str × V)} {ds : List (Str × D)}, RepF K cl mu Z vs ds → vs.length = ds.length
  | _, _, .nil => rfl
  | _, _, .cons _ t => congrArg (· + 1) (RepF.length t)
theorem RepK.length : ∀ {vs : List (Key × V)} {ds : List (Key × D)}, RepK K cl mu Z vs ds → vs.length = ds.length
  | _, _, .nil => rfl
  | _, _, .cons _ t => congrArg (· + 1) (RepK.length t)
end

/-- what stands at a, told as data; the addresses that are its own -/
inductive Cont (K : PySem.W.Frag) (cl : Nat → Addr) (mu : List Addr) (Z H : Hp) : Addr → D → List Addr → Prop
  | lst {a : Addr} {vs : List V} {ds : List D} : H a = some (.lst vs) → RepAll K cl mu Z vs ds → Cont K cl mu Z H a (.lst ds) [a]
  | dic {a : Addr} {vs : List (Key × V)} {ds : List (Key × D)} : H a = some (.dK vs) → RepK K cl mu Z vs ds → Cont K cl mu Z H a (.dic ds) [a]
  | obj {a dx : Addr} {c : Nat} {vs : List (Str × V)} {ds : List (Str × D)} : H a = some (.ins (cl c) dx vs) → H dx = some (.own a) → RepF K cl mu Z vs ds → Cont K cl mu Z H a (.obj c ds) [a, dx]

inductive Slot where
  | un | fr (d : D) | ow (d : D) | bo (d : D) | me (d : D)
structure Cell where
  c : Nat
  fs : List (Str × Slot)
abbrev Store := List Cell
abbrev Env := List Slot

/-- how the state moves while an expression runs -/
structure Stp (G : Gh) (H : Hp) (G' : Gh) (H' : Hp) : Prop where
  z : Same G.Z G'.Z
  lab : ∀ a l, G.lab a = some l → G'.lab a = some l
  keep : ∀ a o, H a = some o → (∀ l, G.lab a = some l → l.st = false) → H' a = some o
  labn : ∀ a l, G'.lab a = some l → G.lab a = some l ∨ H a = none
  zn : ∀ a o, G'.Z a = some o → G.Z a = some o ∨ H a = none
  mu : ∃ t, G'.mu = G.mu ++ t
  dom : ∀ a, H' a = none → H a = none

theorem Stp.refl (G : Gh) (H : Hp) : Stp G H G H := ⟨Same.refl _, fun _ _ h => h, fun _ _ h _ => h, fun _ _ h => .inl h, fun _ _ h => .inl h, ⟨[], by simp⟩, fun _ h => h⟩
theorem Stp.trans {G G1 G2 : Gh} {H H1 H2 : Hp} (a : Stp G H G1 H1) (b : Stp G1 H1 G2 H2) : Stp G H G2 H2 where
  z := a.z.trans b.z
  lab := fun x l h => b.lab x l (a.lab x l h)
  keep := fun x o h hl => b.keep x o (a.keep x o h hl) fun l e => by
    rcases a.labn x l e with q | q
    · exact hl l q
    · rw [h] at q; cases q
  labn := fun x l h => by
    rcases b.labn x l h with q | q
    · exact a.labn x l q
    · exact .inr (a.dom x q)
  zn := fun x o h => by
    rcases b.zn x o h with q | q
    · exact a.zn x o q
    · exact .inr (a.dom x q)
  mu := by
    obtain ⟨t, h1⟩ := a.mu
    obtain ⟨u, h2⟩ := b.mu
    exact ⟨t ++ u, by rw [h2, h1, List.append_assoc]⟩
  dom := fun x h => a.dom x (b.dom x h)

section
variable (K : PySem.W.Frag) (cl : Nat → Addr)
abbrev RepG (G : Gh) (v : V) (d : D) : Prop := Rep K cl G.mu G.Z v d
abbrev ContG (G : Gh) (H : Hp) (a : Addr) (d : D) (as : List Addr) : Prop := Cont K cl G.mu G.Z H a d as
/-- owned under a label -/
def OwnAt (G : Gh) (H : Hp) (l : Lab) (v : V) (d : D) : Prop := ∃ a as, v = .ref a ∧ ContG K cl G H a d as ∧ ∀ b ∈ as, G.lab b = some l
/-- new, nobody's -/
def NewAt (G : Gh) (H : Hp) (a : Addr) (d : D) (as : List Addr) : Prop := ContG K cl G H a d as ∧ ∀ b ∈ as, G.lab b = none ∧ G.Z b = none
/-- borrowed from a heap H0 that nobody changes -/
def BorAt (G : Gh) (G0 : Gh) (H0 : Hp) (v : V) (d : D) : Prop := RepG K cl G v d ∨ ∃ a as, v = .ref a ∧ ContG K cl G H0 a d as ∧ ∀ b ∈ as, G0.lab b = none
/-- for the moment -/
def RepT (G : Gh) (H : Hp) (v : V) (d : D) : Prop := RepG K cl G v d ∨ ∃ a as, v = .ref a ∧ ContG K cl G H a d as ∧ ∀ b ∈ as, ∀ l, G.lab b = some l → l.st = false
def SlotOk (G0 : Gh) (H0 : Hp) (G : Gh) (H : Hp) (l : Lab) (s : Slot) (o : Option V) : Prop :=
  match s with
  | .un => True
  | .fr d => ∃ v, o = some v ∧ RepG K cl G v d
  | .ow d => ∃ v, o = some v ∧ OwnAt K cl G H l v d
  | .bo d => ∃ v, o = some v ∧ BorAt K cl G G0 H0 v d
  | .me d => ∃ v, o = some v ∧ OwnAt K cl G H l v d ∧ G0.me = some v
def FldOk (G : Gh) (H : Hp) (l : Lab) (s : Slot) (v : V) : Prop :=
  match s with
  | .fr d => RepG K cl G v d
  | .ow d => OwnAt K cl G H l v d
  | _ => False
structure CellOk (G : Gh) (H : Hp) (n : Nat) (c : Cell) : Prop where
  ok : ∃ a dx vs, G.mu[n]? = some a ∧ G.lab a = some (.cell n) ∧ G.lab dx = some (.cell n) ∧ H a = some (.ins (cl c.c) dx vs) ∧ H dx = some (.own a) ∧
    vs.map (·.1) = c.fs.map (·.1) ∧ ∀ (k : Nat) (f : Str) (s : Slot) (v : V), c.fs[k]? = some (f, s) → vs[k]? = some (f, v) → FldOk K cl G H (.fld n k) s v
/-- what holds of every state -/
structure GOk (S : Store) (G : Gh) (H : Hp) : Prop where
  zsub : Same G.Z H
  labz : ∀ a l, G.lab a = some l → G.Z a = none ∧ ∃ o, H a = some o
  st : ∀ n c, S[n]? = some c → CellOk K cl G H n c
  stn : S.length = G.mu.length
structure Rel (G0 : Gh) (H0 : Hp) (S : Store) (ρ : Env) (G : Gh) (σ : L2.St) (H : Hp) : Prop where
  ok : GOk K cl S G H
  len : ρ.length = σ.length
  slot : ∀ i s, ρ[i]? = some s → ∃ o, σ[i]? = some o ∧ SlotOk K cl G0 H0 G H (.slot i) s o
  stp : Stp G0 H0 G H
  s0 : ∀ a l, G0.lab a = some l → l.st = true
end
end PM
set_option maxHeartbeats 1000000
/-! PM2: how states move. -/
namespace PM
open PySem PySem.Spec PyProof.Rows L2
section
variable {K : PySem.W.Frag} {cl : Nat → Addr} {G0 G G' G1 : Gh} {H0 H H' H1 : Hp} {S S' : Store} {ρ : Env} {σ : L2.St} {l : Lab} {s : Slot} {o : Option V} {v : V} {d : D} {a p : Addr} {as : List Addr}

theorem RepG.stp (s : Stp G H G' H') (h : RepG K cl G v d) : RepG K cl G' v d := Rep.mono s.z s.mu d v h
theorem Cont.mono {mu mu' : List Addr} {Z Z' : Hp} (c : Cont K cl mu Z H a d as) (hH : ∀ b ∈ as, ∀ o, H b = some o → H' b = some o) (hz : Same Z Z') (hm : ∃ t, mu' = mu ++ t) : Cont K cl mu' Z' H' a d as := by
  cases c with
  | lst h r => exact .lst (hH _ (by simp) _ h) (RepAll.mono hz hm _ _ r)
  | dic h r => exact .dic (hH _ (by simp) _ h) (RepK.mono hz hm _ _ r)
  | obj h h2 r => exact .obj (hH _ (by simp) _ h) (hH _ (by simp) _ h2) (RepF.mono hz hm _ _ r)
theorem Cont.there {mu : List Addr} {Z : Hp} (c : Cont K cl mu Z H a d as) : ∀ b ∈ as, ∃ o, H b = some o := by
  cases c with
  | lst h r => intro b hb; simp at hb; subst hb; exact ⟨_, h⟩
  | dic h r => intro b hb; simp at hb; subst hb; exact ⟨_, h⟩
  | obj h h2 r =>
    intro b hb
    simp at hb
    rcases hb with rfl | rfl
    · exact ⟨_, h⟩
    · exact ⟨_, h2⟩
theorem Cont.mem {mu : List Addr} {Z : Hp} (c : Cont K cl mu Z H a d as) : a ∈ as := by cases c <;> simp
/-- frozen where it stands -/
theorem Cont.rep {mu : List Addr} {Z Z' : Hp} (c : Cont K cl mu Z H a d as) (h : ∀ b ∈ as, ∀ o, H b = some o → Z' b = some o) (hz : Same Z Z') : Rep K cl mu Z' (.ref a) d := by
  cases c with
  | lst h1 r => exact .lst (h _ (by simp) _ h1) (RepAll.mono hz ⟨[], by simp⟩ _ _ r)
  | dic h1 r => exact .dic (h _ (by simp) _ h1) (RepK.mono hz ⟨[], by simp⟩ _ _ r)
  | obj h1 h2 r => exact .obj (h _ (by simp) _ h1) (h _ (by simp) _ h2) (RepF.mono hz ⟨[], by simp⟩ _ _ r)

theorem OwnAt.mono (h : OwnAt K cl G H l v d) (hH : ∀ b, G.lab b = some l → ∀ o, H b = some o → H' b = some o) (hz : Same G.Z G'.Z) (hl : ∀ b, G.lab b = some l → G'.lab b = some l) (hm : ∃ t, G'.mu = G.mu ++ t) : OwnAt K cl G' H' l v d := by
  obtain ⟨a, as, rfl, c, q⟩ := h
  exact ⟨a, as, rfl, c.mono (fun b hb o e => hH b (q b hb) o e) hz hm, fun b hb => hl b (q b hb)⟩
theorem BorAt.mono (h : BorAt K cl G G0 H0 v d) (hz : Same G.Z G'.Z) (hm : ∃ t, G'.mu = G.mu ++ t) : BorAt K cl G' G0 H0 v d := by
  rcases h with h | ⟨a, as, rfl, c, q⟩
  · exact .inl (Rep.mono hz hm d v h)
  · exact .inr ⟨a, as, rfl, c.mono (fun _ _ _ e => e) hz hm, q⟩
theorem SlotOk.mono (h : SlotOk K cl G0 H0 G H l s o) (hH : ∀ b, G.lab b = some l → ∀ o, H b = some o → H' b = some o) (hz : Same G.Z G'.Z) (hl : ∀ b, G.lab b = some l → G'.lab b = some l) (hm : ∃ t, G'.mu = G.mu ++ t) : SlotOk K cl G0 H0 G' H' l s o := by
  cases s with
  | un => trivial
  | fr d => obtain ⟨v, e, r⟩ := h; exact ⟨v, e, Rep.mono hz hm d v r⟩
  | ow d => obtain ⟨v, e, r⟩ := h; exact ⟨v, e, r.mono hH hz hl hm⟩
  | bo d => obtain ⟨v, e, r⟩ := h; exact ⟨v, e, r.mono hz hm⟩
  | me d => obtain ⟨v, e, r, q⟩ := h; exact ⟨v, e, r.mono hH hz hl hm, q⟩
theorem FldOk.mono (h : FldOk K cl G H l s v) (hH : ∀ b, G.lab b = some l → ∀ o, H b = some o → H' b = some o) (hz : Same G.Z G'.Z) (hl : ∀ b, G.lab b = some l → G'.lab b = some l) (hm : ∃ t, G'.mu = G.mu ++ t) : FldOk K cl G' H' l s v := by
  cases s with
  | un => exact h.elim
  | fr d => exact Rep.mono hz hm d v h
  | ow d => exact OwnAt.mono h hH hz hl hm
  | bo d => exact h.elim
  | me d => exact h.elim
/-- the objects with store labels are as they were -/
theorem CellOk.mono {n : Nat} {c : Cell} (h : CellOk K cl G H n c) (hH : ∀ b l, G.lab b = some l → l.st = true → ∀ o, H b = some o → H' b = some o) (hz : Same G.Z G'.Z) (hl : ∀ b l, G.lab b = some l → l.st = true → G'.lab b = some l) (hm : ∃ t, G'.mu = G.mu ++ t) : CellOk K cl G' H' n c := by
  obtain ⟨a, dx, vs, h1, h2, h3, h4, h5, h6, h7⟩ := h.ok
  refine ⟨a, dx, vs, ?_, hl _ _ h2 rfl, hl _ _ h3 rfl, hH _ _ h2 rfl _ h4, hH _ _ h3 rfl _ h5, h6, fun k f s v e1 e2 => (h7 k f s v e1 e2).mono (fun b hb => hH b _ hb rfl) hz (fun b hb => hl b _ hb rfl) hm⟩
  obtain ⟨t, e⟩ := hm
  rw [e, List.getElem?_append_left (List.getElem?_eq_some_iff.mp h1).1]
  exact h1

/-- the heap grows; nothing changes -/
theorem Rel.grow (R : Rel K cl G0 H0 S ρ G σ H) (hH : Same H H') (hm : G'.mu = G.mu) (zs : Same G'.Z H') (lz : ∀ a l, G'.lab a = some l → G'.Z a = none ∧ ∃ o, H' a = some o) (st : Stp G H G' H') : Rel K cl G0 H0 S ρ G' σ H' := by
  have hm' : ∃ t, G'.mu = G.mu ++ t := ⟨[], by rw [hm]; simp⟩
  refine ⟨⟨zs, lz, fun n c e => (R.ok.st n c e).mono (fun b _ _ _ o e => hH b o e) st.z (fun b l e _ => st.lab b l e) hm', by rw [hm]; exact R.ok.stn⟩, R.len, fun i s e => ?_, R.stp.trans st, R.s0⟩
  obtain ⟨o, h1, h2⟩ := R.slot i s e
  exact ⟨o, h1, h2.mono (fun b _ o e => hH b o e) st.z (fun b e => st.lab b _ e) hm'⟩
/-- a new object, nobody's -/
theorem Rel.alloc (R : Rel K cl G0 H0 S ρ G σ H) (hp : H p = none) (x : HO) : Rel K cl G0 H0 S ρ G σ (upd H p x) ∧ Stp G H G (upd H p x) := by
  have sm : Same H (upd H p x) := fun b o e => by rw [upd_ne (ne_of_none e hp)]; exact e
  have st : Stp G H G (upd H p x) := ⟨Same.refl _, fun _ _ e => e, fun a o e _ => sm a o e, fun _ _ e => .inl e, fun _ _ e => .inl e, ⟨[], by simp⟩, fun a e => sm.free e⟩
  refine ⟨R.grow sm rfl (R.ok.zsub.trans sm) (fun a l e => ?_) st, st⟩
  obtain ⟨h1, o, h2⟩ := R.ok.labz a l e
  exact ⟨h1, o, sm a o h2⟩
/-- freezing the addresses as -/
noncomputable def Gh.fz (G : Gh) (H : Hp) (as : List Addr) : Gh := { G with Z := fun b => if b ∈ as then H b else G.Z b }
theorem Gh.fz_z {as : List Addr} (h : ∀ b ∈ as, G.Z b = none) : Same G.Z (G.fz H as).Z := fun b o e => by
  show (if b ∈ as then H b else G.Z b) = some o
  by_cases hb : b ∈ as
  · rw [h b hb] at e; cases e
  · rw [if_neg hb]; exact e
/-- new things are frozen; (G1, H1): where the expression began -/
theorem Rel.fz (R : Rel K cl G0 H0 S ρ G σ H) (s01 : Stp G0 H0 G1 H1) (st : Stp G1 H1 G H) (q : ∀ b ∈ as, G.lab b = none ∧ G.Z b = none) (hn : ∀ b ∈ as, H1 b = none) :
    Rel K cl G0 H0 S ρ (G.fz H as) σ H ∧ Stp G1 H1 (G.fz H as) H := by
  have hz : Same G.Z (G.fz H as).Z := Gh.fz_z fun b hb => (q b hb).2
  have zs : Same (G.fz H as).Z H := fun b o e => by
    have e' : (if b ∈ as then H b else G.Z b) = some o := e
    by_cases hb : b ∈ as
    · rw [if_pos hb] at e'; exact e'
    · rw [if_neg hb] at e'; exact R.ok.zsub b o e'
  have zn : ∀ b o, (G.fz H as).Z b = some o → G.Z b = some o ∨ b ∈ as := fun b o e => by
    have e' : (if b ∈ as then H b else G.Z b) = some o := e
    by_cases hb : b ∈ as
    · exact .inr hb
    · rw [if_neg hb] at e'; exact .inl e'
  have lz : ∀ b l, (G.fz H as).lab b = some l → (G.fz H as).Z b = none ∧ ∃ o, H b = some o := fun b l e => by
    have e' : G.lab b = some l := e
    obtain ⟨h1, h2⟩ := R.ok.labz b l e'
    refine ⟨?_, h2⟩
    show (if b ∈ as then H b else G.Z b) = none
    rw [if_neg (fun hb => by rw [(q b hb).1] at e'; cases e')]
    exact h1
  refine ⟨⟨⟨zs, lz, fun n c e => (R.ok.st n c e).mono (fun _ _ _ _ _ e => e) hz (fun _ _ e _ => e) ⟨[], by simp [Gh.fz]⟩, R.ok.stn⟩, R.len, fun i s e => ?_, ?_, R.s0⟩, ?_⟩
  · obtain ⟨o, h1, h2⟩ := R.slot i s e
    exact ⟨o, h1, h2.mono (fun _ _ _ e => e) hz (fun _ e => e) ⟨[], by simp [Gh.fz]⟩⟩
  · refine ⟨R.stp.z.trans hz, R.stp.lab, R.stp.keep, R.stp.labn, fun b o e => ?_, R.stp.mu, R.stp.dom⟩
    rcases zn b o e with h | h
    · exact R.stp.zn b o h
    · exact .inr (s01.dom b (hn b h))
  · refine ⟨st.z.trans hz, st.lab, st.keep, st.labn, fun b o e => ?_, st.mu, st.dom⟩
    rcases zn b o e with h | h
    · exact st.zn b o h
    · exact .inr (hn b h)
theorem fz_at {as : List Addr} {b : Addr} (hb : b ∈ as) : (G.fz H as).Z b = H b := by
  show (if b ∈ as then H b else G.Z b) = H b
  rw [if_pos hb]
theorem Rel.freeze (R : Rel K cl G0 H0 S ρ G σ H) (s01 : Stp G0 H0 G1 H1) (st : Stp G1 H1 G H) (n : NewAt K cl G H a d as) (hn : ∀ b ∈ as, H1 b = none) :
    Rel K cl G0 H0 S ρ (G.fz H as) σ H ∧ Stp G1 H1 (G.fz H as) H ∧ RepG K cl (G.fz H as) (.ref a) d := by
  obtain ⟨c, q⟩ := n
  obtain ⟨h1, h2⟩ := R.fz s01 st q hn
  exact ⟨h1, h2, c.rep (fun b hb o e => (fz_at hb).trans e) (Gh.fz_z fun b hb => (q b hb).2)⟩
/-- a new place is nobody's -/
theorem Rel.nobody (R : Rel K cl G0 H0 S ρ G σ H) (hp : H p = none) : G.lab p = none ∧ G.Z p = none := by
  constructor
  · cases e : G.lab p with
    | none => rfl
    | some l =>
      obtain ⟨_, o, h⟩ := R.ok.labz p l e
      rw [hp] at h; cases h
  · exact R.ok.zsub.free hp
/-- a new object, frozen at once -/
theorem Rel.newF (R : Rel K cl G0 H0 S ρ G σ H) (hp : H p = none) (x : HO) : Rel K cl G0 H0 S ρ (G.fz (upd H p x) [p]) σ (upd H p x) ∧ Stp G H (G.fz (upd H p x) [p]) (upd H p x) ∧ (G.fz (upd H p x) [p]).Z p = some x := by
  obtain ⟨R1, s1⟩ := R.alloc hp x
  obtain ⟨h1, h2⟩ := R1.fz (as := [p]) R.stp s1 (fun b hb => by simp at hb; subst hb; exact R.nobody hp) (fun b hb => by simp at hb; subst hb; exact hp)
  exact ⟨h1, h2, by rw [fz_at (by simp)]; exact upd_same⟩
/-- a new list, a new dict, nobody's -/
theorem Rel.newL (R : Rel K cl G0 H0 S ρ G σ H) (hp : H p = none) {vs : List V} {ds : List D} (r : RepAll K cl G.mu G.Z vs ds) : Rel K cl G0 H0 S ρ G σ (upd H p (.lst vs)) ∧ Stp G H G (upd H p (.lst vs)) ∧ NewAt K cl G (upd H p (.lst vs)) p (.lst ds) [p] := by
  obtain ⟨R1, s1⟩ := R.alloc hp (.lst vs)
  exact ⟨R1, s1, .lst upd_same r, fun b hb => by simp at hb; subst hb; exact R.nobody hp⟩
theorem Rel.newD (R : Rel K cl G0 H0 S ρ G σ H) (hp : H p = none) {vs : List (Key × V)} {ds : List (Key × D)} (r : RepK K cl G.mu G.Z vs ds) : Rel K cl G0 H0 S ρ G σ (upd H p (.dK vs)) ∧ Stp G H G (upd H p (.dK vs)) ∧ NewAt K cl G (upd H p (.dK vs)) p (.dic ds) [p] := by
  obtain ⟨R1, s1⟩ := R.alloc hp (.dK vs)
  exact ⟨R1, s1, .dic upd_same r, fun b hb => by simp at hb; subst hb; exact R.nobody hp⟩
end
end PM
set_option maxHeartbeats 1000000
/-! PM3: what an expression is worth, told as a function of the data; rules for two-place operators. -/
namespace PM
open PySem PySem.Spec PyProof.Rows L2

inductive Res (α : Type) where
  | ok (a : α) (S : Store) | exc (n : Nat) (S : Store) | stuck
def Res.bind {α β : Type} (r : Res α) (f : α → Store → Res β) : Res β :=
  match r with
  | .ok a S => f a S
  | .exc n S => .exc n S
  | .stuck => .stuck
def Res.opt {α : Type} (o : Option α) (S : Store) : Res α :=
  match o with
  | some a => .ok a S
  | none => .stuck
inductive Val where
  | fr (d : D) | ow (d : D)
abbrev Ex := Env → Store → Res D
abbrev Tx := Env → Store → Res Bool
abbrev Ax := Env → Store → Res (List D)
abbrev Fn := List D → Store → Res Val

abbrev Post (α β : Type) := Gh → Hp → Gh → Hp → α → β → Prop
def PostM {α β : Type} (P : Post α β) : Prop := ∀ G H G1 H1 G' H' d v, Stp G H G1 H1 → P G1 H1 G' H' d v → P G H G' H' d v

section
variable (K : PySem.W.Frag) (cl : Nat → Addr)
/-- what follows r, where r began at (G, H) -/
def Aft {α β : Type} (P : Post α β) (W : WX) (G0 : Gh) (H0 : Hp) (ρ : Env) (σ : L2.St) (G : Gh) (H : Hp) (r : Res α) (Q : β → Hp → Prop) : Prop :=
  match r with
  | .ok d S' => ∀ v G' H', Rel K cl G0 H0 S' ρ G' σ H' → Stp G H G' H' → P G H G' H' d v → Q v H'
  | .exc n S' => ∀ G' H', Rel K cl G0 H0 S' ρ G' σ H' → Stp G H G' H' → W (.ref (cl n)) none σ H'
  | .stuck => False
def tX {α β : Type} (P : Post α β) (W : WX) (c : Env → Store → Res α) : L2.St → Hp → (β → Hp → Prop) → Prop := fun σ H Q =>
  ∃ (G0 : Gh) (H0 : Hp) (S : Store) (ρ : Env) (G : Gh), Rel K cl G0 H0 S ρ G σ H ∧ Aft K cl P W G0 H0 ρ σ G H (c ρ S) Q
/-- frozen; for the moment; new -/
def PF : Post D V := fun _ _ G' _ d v => RepG K cl G' v d
def PB : Post D V := fun _ _ G' H' d v => RepT K cl G' H' v d
def PN : Post D V := fun _ H G' H' d v => ∃ a as, v = .ref a ∧ NewAt K cl G' H' a d as ∧ ∀ b ∈ as, H b = none
def PT1 : Post Bool Bool := fun _ _ _ _ d v => v = d
/-- arguments: true, for the moment -/
inductive ArgsOk (G : Gh) (H : Hp) : List Bool → List V → List D → Prop
  | nil : ArgsOk G H [] [] []
  | fr {bm : List Bool} {v : V} {vs : List V} {d : D} {ds : List D} : RepG K cl G v d → ArgsOk G H bm vs ds → ArgsOk G H (false :: bm) (v :: vs) (d :: ds)
  | bo {bm : List Bool} {v : V} {vs : List V} {d : D} {ds : List D} : RepT K cl G H v d → ArgsOk G H bm vs ds → ArgsOk G H (true :: bm) (v :: vs) (d :: ds)
def PA1 (bm : List Bool) : Post (List D) (List V) := fun _ _ G' H' ds vs => ArgsOk K cl G' H' bm vs ds
end

section
variable {K : PySem.W.Frag} {cl : Nat → Addr} {W : WX} {α β γ δ : Type} {G0 G G' G1 : Gh} {H0 H H' H1 : Hp} {S S' : Store} {ρ : Env} {σ : L2.St} {v : V} {d : D}
theorem pfM : PostM (PF K cl) := fun _ _ _ _ _ _ _ _ _ h => h
theorem pbM : PostM (PB K cl) := fun _ _ _ _ _ _ _ _ _ h => h
theorem pnM : PostM (PN K cl) := fun _ _ _ _ _ _ _ _ s ⟨a, as, e, n, h⟩ => ⟨a, as, e, n, fun b hb => s.dom b (h b hb)⟩
theorem ptM : PostM PT1 := fun _ _ _ _ _ _ _ _ _ h => h
theorem paM {bm : List Bool} : PostM (PA1 K cl bm) := fun _ _ _ _ _ _ _ _ _ h => h
theorem RepT.stp (h : RepT K cl G H v d) (s : Stp G H G' H') : RepT K cl G' H' v d := by
  rcases h with h | ⟨a, as, rfl, c, q⟩
  · exact .inl (Rep.mono s.z s.mu d v h)
  · refine .inr ⟨a, as, rfl, c.mono (fun b hb o e => s.keep b o e (q b hb)) s.z s.mu, fun b hb l e => ?_⟩
    rcases s.labn b l e with h | h
    · exact q b hb l h
    · obtain ⟨o, e2⟩ := c.there b hb
      rw [h] at e2; cases e2
theorem ArgsOk.stp (s : Stp G H G' H') : ∀ {bm : List Bool} {vs : List V} {ds : List D}, ArgsOk K cl G H bm vs ds → ArgsOk K cl G' H' bm vs ds
  | _, _, _, .nil => .nil
  | _, _, _, .fr h t => .fr (Rep.mono s.z s.mu _ _ h) (ArgsOk.stp s t)
  | _, _, _, .bo h t => .bo (h.stp s) (ArgsOk.stp s t)
theorem ArgsOk.len : ∀ {bm : List Bool} {vs : List V} {ds : List D}, ArgsOk K cl G H bm vs ds → vs.length = bm.length ∧ ds.length = bm.length
  | _, _, _, .nil => ⟨rfl, rfl⟩
  | _, _, _, .fr h t => ⟨congrArg (· + 1) t.len.1, congrArg (· + 1) t.len.2⟩
  | _, _, _, .bo h t => ⟨congrArg (· + 1) t.len.1, congrArg (· + 1) t.len.2⟩

theorem Aft.pre {P : Post α β} (hP : PostM P) {r : Res α} {Q : β → Hp → Prop} (h : Aft K cl P W G0 H0 ρ σ G H r Q) (s : Stp G H G1 H1) : Aft K cl P W G0 H0 ρ σ G1 H1 r Q := by
  cases r with
  | ok d S' => exact fun v G' H' R s' p => h v G' H' R (s.trans s') (hP _ _ _ _ _ _ _ _ s p)
  | exc n S' => exact fun G' H' R s' => h G' H' R (s.trans s')
  | stuck => exact h
/-- one after another -/
theorem tX.bind {P : Post α β} {Pa : Post γ δ} (hP : PostM P) {ca : Env → Store → Res γ} {f : γ → Store → Res α} {Q : β → Hp → Prop} {M : δ → Hp → Prop} (R : Rel K cl G0 H0 S ρ G σ H)
    (h : Aft K cl P W G0 H0 ρ σ G H ((ca ρ S).bind f) Q)
    (k : ∀ d v S1 G1 H1, Rel K cl G0 H0 S1 ρ G1 σ H1 → Stp G H G1 H1 → Pa G H G1 H1 d v → Aft K cl P W G0 H0 ρ σ G1 H1 (f d S1) Q → M v H1) : tX K cl Pa W ca σ H M := by
  refine ⟨G0, H0, S, ρ, G, R, ?_⟩
  cases e : ca ρ S with
  | ok d S1 =>
    rw [e] at h
    exact fun v G' H' R' s p => k d v S1 G' H' R' s p (Aft.pre hP h s)
  | exc n S1 =>
    rw [e] at h
    exact h
  | stuck =>
    rw [e] at h
    exact h.elim
theorem Aft.here {P : Post α β} {d : α} {Q : β → Hp → Prop} (h : Aft K cl P W G0 H0 ρ σ G H (.ok d S) Q) (R : Rel K cl G0 H0 S ρ G σ H) {v : β} (p : P G H G H d v) : Q v H := h v G H R (Stp.refl _ _) p
end

theorem PE.weak {X : Cx} {e : Expr} {t t' : TE} (h : PE X e t) (w : ∀ σ H Q, t' σ H Q → t σ H Q) : PE X e t' := ⟨fun pins s σ H Q I q => h.run pins s σ H Q I (w σ H Q q)⟩
theorem PT.weak {X : Cx} {e : Expr} {t t' : TT} (h : PT X e t) (w : ∀ σ H Q, t' σ H Q → t σ H Q) : PT X e t' := ⟨fun pins s σ H Q I q => h.run pins s σ H Q I (w σ H Q q)⟩
theorem PW.weak {X : Cx} {e : Expr} {t t' : TT} (h : PW X e t) (w : ∀ σ H Q, t' σ H Q → t σ H Q) : PW X e t' := ⟨fun wh pins s σ H Q I q => h.run wh pins s σ H Q I (w σ H Q q)⟩
theorem PA.weak {X : Cx} {e : List Expr} {t t' : TA} (h : PA X e t) (w : ∀ σ H Q, t' σ H Q → t σ H Q) : PA X e t' := ⟨fun pos pins s σ H Q I q => h.run pos pins s σ H Q I (w σ H Q q)⟩
theorem PS.weak {X : Cx} {e : Stmt} {t t' : TS} (h : PS X e t) (w : ∀ D σ H, t' D σ H → t D σ H) : PS X e t' := ⟨fun pins s σ H D I q => h.run pins s σ H D I (w D σ H q)⟩
theorem PSs.weak {X : Cx} {e : List Stmt} {t t' : TS} (h : PSs X e t) (w : ∀ D σ H, t' D σ H → t D σ H) : PSs X e t' := ⟨fun pins s σ H D I q => h.run pins s σ H D I (w D σ H q)⟩

section
variable (X : Cx) (cl : Nat → Addr) (W : WX)
abbrev SE (e : Expr) (c : Ex) : Prop := PE X e (tX X.K cl (PF X.K cl) W c)
abbrev SB (e : Expr) (c : Ex) : Prop := PE X e (tX X.K cl (PB X.K cl) W c)
abbrev SN (e : Expr) (c : Ex) : Prop := PE X e (tX X.K cl (PN X.K cl) W c)
abbrev STt (e : Expr) (c : Tx) : Prop := PT X e (tX X.K cl PT1 W c)
abbrev SW (e : Expr) (c : Tx) : Prop := PW X e (tX X.K cl PT1 W c)
abbrev SA (bm : List Bool) (es : List Expr) (c : Ax) : Prop := PA X es (tX X.K cl (PA1 X.K cl bm) W c)
end

section
variable {X : Cx} {cl : Nat → Addr} {W : WX} {a b e : Expr} {c ca cb : Ex} {pos : Pos}
theorem SE.toB (h : SE X cl W e c) : SB X cl W e c := PE.weak h fun σ H Q ⟨G0, H0, S, ρ, G, R, q⟩ => by
  refine ⟨G0, H0, S, ρ, G, R, ?_⟩
  cases r : c ρ S with
  | ok d S' => rw [r] at q; exact fun v G' H' R' s p => q v G' H' R' s (.inl p)
  | exc n S' => rw [r] at q; exact q
  | stuck => rw [r] at q; exact q
/-- a new thing, frozen -/
theorem SN.toE (h : SN X cl W e c) : SE X cl W e c := PE.weak h fun σ H Q ⟨G0, H0, S, ρ, G, R, q⟩ => by
  refine ⟨G0, H0, S, ρ, G, R, ?_⟩
  cases r : c ρ S with
  | ok d S' =>
    rw [r] at q
    rintro v G' H' R' s ⟨a, as, rfl, n, hn⟩
    obtain ⟨R2, s2, rp⟩ := R'.freeze R.stp s n hn
    exact q _ _ _ R2 s2 rp
  | exc n S' => rw [r] at q; exact q
  | stuck => rw [r] at q; exact q

/-- a constant -/
def eC (d : D) : Ex := fun _ S => .ok d S
theorem se_c {v : V} {d : D} (h : PE X e (tC v)) (r : ∀ mu Z, Rep X.K cl mu Z v d) : SE X cl W e (eC d) := PE.weak h fun σ H Q ⟨G0, H0, S, ρ, G, R, q⟩ => q v G H R (Stp.refl _ _) (r _ _)
theorem se_int {i : Int} {j pos} : SE X cl W (.Constant (.int i) j pos) (eC (.int i)) := se_c pe_int fun _ _ => .int i
theorem se_bl {i : Bool} {j pos} : SE X cl W (.Constant (.bool i) j pos) (eC (.bl i)) := se_c pe_bl fun _ _ => .bl i
theorem se_non {j pos} : SE X cl W (.Constant .none j pos) (eC .non) := se_c pe_non fun _ _ => .non
theorem se_str {x : Str} {j pos} : SE X cl W (.Constant (.str x) j pos) (eC (.str x)) := se_c pe_str fun _ _ => .str x
/-- a name of the module: a constant -/
theorem se_gl {x : Str} {v : V} {u : Value} {d : D} {pos : Pos} (hg : Gl X x) (hm : X.mg x = some u) (r : RelV v u) (rp : ∀ mu Z, Rep X.K cl mu Z v d) (hd : (x == ("__debug__" : Str)) = false := by decide) : SE X cl W (.Name x pos) (eC d) := se_c (pe_glob hg hm r hd) rp

/-- a name -/
def eV (i : Nat) : Ex := fun ρ S => match ρ[i]? with | some (.fr d) => .ok d S | _ => .stuck
def eB (i : Nat) : Ex := fun ρ S => match ρ[i]? with | some (.fr d) => .ok d S | some (.ow d) => .ok d S | some (.bo d) => .ok d S | some (.me d) => .ok d S | _ => .stuck
theorem se_v {i : Nat} {x : Str} (h : PE X (.Name x pos) (tVar i)) : SE X cl W (.Name x pos) (eV i) := PE.weak h fun σ H Q ⟨G0, H0, S, ρ, G, R, q⟩ => by
  cases r : ρ[i]? with
  | none => simp only [eV, r, Aft] at q
  | some s =>
    obtain ⟨o, ho, hs⟩ := R.slot i s r
    cases s with
    | fr d =>
      simp only [eV, r] at q
      obtain ⟨v, rfl, rp⟩ := hs
      exact ⟨v, ho, q v G H R (Stp.refl _ _) rp⟩
    | _ => simp only [eV, r, Aft] at q
theorem sb_v {i : Nat} {x : Str} (h : PE X (.Name x pos) (tVar i)) : SB X cl W (.Name x pos) (eB i) := PE.weak h fun σ H Q ⟨G0, H0, S, ρ, G, R, q⟩ => by
  cases r : ρ[i]? with
  | none => simp only [eB, r, Aft] at q
  | some s =>
    obtain ⟨o, ho, hs⟩ := R.slot i s r
    cases s with
    | fr d =>
      simp only [eB, r] at q
      obtain ⟨v, rfl, rp⟩ := hs
      exact ⟨v, ho, q v G H R (Stp.refl _ _) (.inl rp)⟩
    | ow d =>
      simp only [eB, r] at q
      obtain ⟨v, rfl, a, as, rfl, c, hl⟩ := hs
      refine ⟨_, ho, q _ G H R (Stp.refl _ _) (.inr ⟨a, as, rfl, c, fun b hb l e => ?_⟩)⟩
      rw [hl b hb] at e
      cases e
      rfl
    | bo d =>
      simp only [eB, r] at q
      obtain ⟨v, rfl, hb⟩ := hs
      rcases hb with hb | ⟨a, as, rfl, c, hl⟩
      · exact ⟨_, ho, q _ G H R (Stp.refl _ _) (.inl hb)⟩
      · refine ⟨_, ho, q _ G H R (Stp.refl _ _) (.inr ⟨a, as, rfl, c.mono (fun b hb o e => R.stp.keep b o e fun l e2 => by rw [hl b hb] at e2; cases e2) (Same.refl _) ⟨[], by simp⟩, fun b hb l e => ?_⟩)⟩
        rcases R.stp.labn b l e with h | h
        · rw [hl b hb] at h; cases h
        · obtain ⟨o, e2⟩ := c.there b hb
          rw [h] at e2; cases e2
    | me d =>
      simp only [eB, r] at q
      obtain ⟨v, rfl, ⟨a, as, rfl, c, hl⟩, _⟩ := hs
      refine ⟨_, ho, q _ G H R (Stp.refl _ _) (.inr ⟨a, as, rfl, c, fun b hb l e => ?_⟩)⟩
      rw [hl b hb] at e
      cases e
      rfl
    | un => simp only [eB, r, Aft] at q

/-- a rule by values, told of data -/
def OpS (X : Cx) (cl : Nat → Addr) (r : R2) (f : D → D → Option D) (P : Post D V) : Prop :=
  ∀ {G0 : Gh} {H0 : Hp} {S : Store} {ρ : Env} {G : Gh} {σ : L2.St} {H : Hp} {x y : V} {d e z : D} {Q : VK}, Rel X.K cl G0 H0 S ρ G σ H → RepT X.K cl G H x d → RepT X.K cl G H y e → f d e = some z →
    (∀ v G' H', Rel X.K cl G0 H0 S ρ G' σ H' → Stp G H G' H' → P G H G' H' z v → Q v H') → r x y H Q
def eBin (f : D → D → Option D) (ca cb : Ex) : Ex := fun ρ S => (ca ρ S).bind fun d S => (cb ρ S).bind fun e S => Res.opt (f d e) S
theorem bin_sem {r : R2} {f : D → D → Option D} {P : Post D V} (hP : PostM P) (hs : OpS X cl r f P) {σ : L2.St} {H : Hp} {Q : VK} (h : tX X.K cl P W (eBin f ca cb) σ H Q) : tOp r (tX X.K cl (PB X.K cl) W ca) (tX X.K cl (PB X.K cl) W cb) σ H Q := by
  obtain ⟨G0, H0, S, ρ, G, R, h⟩ := h
  refine tX.bind hP R h fun d x S1 G1 H1 R1 s1 p1 h1 => ?_
  refine tX.bind hP R1 h1 fun e y S2 G2 H2 R2 s2 p2 h2 => ?_
  cases q : f d e with
  | none => rw [q] at h2; exact h2.elim
  | some z =>
    rw [q] at h2
    exact hs R2 (RepT.stp p1 s2) p2 q fun v G' H' R' s' p' => h2 v G' H' R' s' p'
theorem sx_bin {op : Operator} {r : R2} {f : D → D → Option D} {P : Post D V} (hP : PostM P) (ho : OpR X (binaryOp op) r) (hs : OpS X cl r f P) (ha : SB X cl W a ca) (hb : SB X cl W b cb) : PE X (.BinOp a op b pos) (tX X.K cl P W (eBin f ca cb)) :=
  PE.weak (pe_op ho ha hb) fun _ _ _ h => bin_sem hP hs h
theorem se_cmp {op : CmpOp} {r : R2} {f : D → D → Option D} (ho : OpR X (compareOp op) r) (hs : OpS X cl r f (PF X.K cl)) (ha : SB X cl W a ca) (hb : SB X cl W b cb) (hm : behindInMarks op b = false) : SE X cl W (.Compare a [op] [b] pos) (eBin f ca cb) :=
  PE.weak (pe_cmpR ho ha hb hm) fun _ _ _ h => bin_sem pfM hs h
theorem OpS.or {r r' : R2} {f f' : D → D → Option D} {P : Post D V} (h : OpS X cl r f P) (h' : OpS X cl r' f' P) : OpS X cl (fun x y H Q => r x y H Q ∨ r' x y H Q) (fun d e => match f d e with | some z => some z | none => f' d e) P := fun {G0 H0 S ρ G σ H x y d e z Q} R p1 p2 q k => by
  cases fq : f d e with
  | some z' =>
    simp only [fq] at q
    cases q
    exact .inl (h R p1 p2 fq k)
  | none =>
    simp only [fq] at q
    exact .inr (h' R p1 p2 q k)

/-! ### reading RepT -/
section
variable {K : PySem.W.Frag} {G : Gh} {H : Hp} {v : V} {mu : List Addr} {Z : Hp}
theorem RepT.int {i : Int} (h : RepT K cl G H v (.int i)) : v = .int i := by
  rcases h with h | ⟨a, as, _, c, _⟩
  · cases h; rfl
  · cases c
theorem RepT.str {i : Str} (h : RepT K cl G H v (.str i)) : v = .str i := by
  rcases h with h | ⟨a, as, _, c, _⟩
  · cases h; rfl
  · cases c
theorem RepT.bl {i : Bool} (h : RepT K cl G H v (.bl i)) : v = .bl i := by
  rcases h with h | ⟨a, as, _, c, _⟩
  · cases h; rfl
  · cases c
theorem RepT.non (h : RepT K cl G H v .non) : v = .non := by
  rcases h with h | ⟨a, as, _, c, _⟩
  · cases h; rfl
  · cases c
theorem RepT.lst {ds : List D} (h : RepT K cl G H v (.lst ds)) (zs : Same G.Z H) : ∃ a vs, v = .ref a ∧ H a = some (.lst vs) ∧ RepAll K cl G.mu G.Z vs ds := by
  rcases h with h | ⟨a, as, e, c, _⟩
  · cases h with
    | lst hs ha => exact ⟨_, _, rfl, zs _ _ hs, ha⟩
  · cases c with
    | lst h1 r => exact ⟨a, _, e, h1, r⟩
theorem RepT.scr {ds : List Int} (h : RepT K cl G H v (.scr ds)) (zs : Same G.Z H) : ∃ a, v = .ref a ∧ SqL K H a (ds.map V.int) := by
  rcases h with h | ⟨a, as, e, c, _⟩
  · cases h with
    | scr hs => exact ⟨_, rfl, zs.seq hs⟩
  · cases c
theorem RepT.tup {ds : List D} (h : RepT K cl G H v (.tup ds)) (zs : Same G.Z H) : ∃ a vs, v = .ref a ∧ SqT K H a vs ∧ RepAll K cl G.mu G.Z vs ds := by
  rcases h with h | ⟨a, as, e, c, _⟩
  · cases h with
    | tup hs ha => exact ⟨_, _, rfl, sameT zs hs, ha⟩
  · cases c
theorem RepT.dic {ds : List (Key × D)} (h : RepT K cl G H v (.dic ds)) (zs : Same G.Z H) : ∃ a vs, v = .ref a ∧ H a = some (.dK vs) ∧ RepK K cl G.mu G.Z vs ds := by
  rcases h with h | ⟨a, as, e, c, _⟩
  · cases h with
    | dic hs ha => exact ⟨_, _, rfl, zs _ _ hs, ha⟩
  · cases c with
    | dic h1 r => exact ⟨a, _, e, h1, r⟩
end
end
end PM
set_option maxHeartbeats 1000000
/-! PM4: operators and comparisons told of data. -/
namespace PM
open PySem PySem.Spec PyProof.Rows L2

theorem lim_ok {n : Nat} (h : n ≤ 1000000) : n ≤ sizeLine := Nat.le_trans h (by rw [sizeLine_eq]; decide)
theorem lim_lt {n : Nat} (h : n < 1000000) : n < sizeLine := Nat.lt_of_lt_of_le h (by rw [sizeLine_eq]; decide)

section
variable {X : Cx} {cl : Nat → Addr} {W : WX} {a b e c : Expr} {ca cb cc : Ex} {pos : Pos}

/-! ### arithmetic -/
def oAdd : D → D → Option D
  | .int i, .int j => some (.int (i + j))
  | .str x, .str y => if x.length + y.length ≤ 1000000 then some (.str (x ++ y)) else none
  | .lst xs, .lst ys => if xs.length + ys.length ≤ 1000000 then some (.lst (xs ++ ys)) else none
  | .tup xs, .tup ys => if xs.length + ys.length ≤ 1000000 then some (.tup (xs ++ ys)) else none
  | _, _ => none
def oCat : D → D → Option D
  | .lst xs, .lst ys => if xs.length + ys.length ≤ 1000000 then some (.lst (xs ++ ys)) else none
  | _, _ => none
/-- a new thing, frozen -/
theorem OpS.fz {r : R2} {f : D → D → Option D} (h : OpS X cl r f (PN X.K cl)) : OpS X cl r f (PF X.K cl) := fun R p1 p2 q k => by
  refine h R p1 p2 q fun v G' H' R' s ⟨a, as, e, n, hn⟩ => ?_
  subst e
  obtain ⟨R2, s2, rp⟩ := R'.freeze R.stp s n hn
  exact k _ _ _ R2 s2 rp
theorem os_cat : OpS X cl rCat oCat (PN X.K cl) := fun {G0 H0 S ρ G σ H x y d e z Q} R p1 p2 q k => by
  cases d <;> cases e <;> simp only [oCat, reduceCtorEq] at q
  rename_i xs ys
  split at q
  · cases q
    rename_i hz
    obtain ⟨a1, vs, rfl, h1, r1⟩ := p1.lst R.ok.zsub
    obtain ⟨a2, ws, rfl, h2, r2⟩ := p2.lst R.ok.zsub
    refine ⟨a1, a2, vs, ws, rfl, rfl, h1, h2, by rw [r1.length, r2.length]; exact lim_ok hz, fun p hp => ?_⟩
    obtain ⟨R', s', n⟩ := R.newL hp (r1.append r2)
    exact k _ _ _ R' s' ⟨p, [p], rfl, n, fun b hb => by simp at hb; subst hb; exact hp⟩
  · cases q
theorem oadd_lst {d e : D} {z : D} (h : oCat d e = some z) : oAdd d e = some z := by
  cases d <;> cases e <;> simp only [oCat, oAdd, reduceCtorEq] at h ⊢
  exact h
def rAddAll (K : PySem.W.Frag) : R2 := fun x y H Q => rI0 (fun i j => .int (i + j)) x y H Q ∨ (∃ i j, x = .str i ∧ y = .str j ∧ i.length + j.length ≤ sizeLine ∧ Q (.str (i ++ j)) H) ∨ rCat x y H Q ∨ rCatA K x y H Q
theorem op_addAll : OpR X (binaryOp .Add) (rAddAll X.K) := op_add.or (op_add_str.or (op_cat.or op_catA))
theorem os_add : OpS X cl (rAddAll X.K) oAdd (PF X.K cl) := fun {G0 H0 S ρ G σ H x y d e z Q} R p1 p2 q k => by
  cases d <;> cases e <;> simp only [oAdd, reduceCtorEq] at q
  · rename_i i j
    cases q
    have e1 := p1.int
    have e2 := p2.int
    exact .inl ⟨i, j, e1, e2, k _ G H R (Stp.refl _ _) (.int _)⟩
  · rename_i i j
    split at q
    · cases q
      rename_i hz
      exact .inr (.inl ⟨i, j, p1.str, p2.str, lim_ok hz, k _ G H R (Stp.refl _ _) (.str _)⟩)
    · cases q
  · rename_i xs ys
    refine .inr (.inr (.inl (OpS.fz os_cat R p1 p2 (z := z) ?_ k)))
    exact q
  · rename_i xs ys
    split at q
    · cases q
      rename_i hz
      obtain ⟨a1, vs, rfl, h1, r1⟩ := p1.tup R.ok.zsub
      obtain ⟨a2, ws, rfl, h2, r2⟩ := p2.tup R.ok.zsub
      refine .inr (.inr (.inr ⟨a1, a2, vs, ws, rfl, rfl, h1, h2, by rw [r1.length, r2.length]; exact lim_ok hz, fun h => ?_, fun _ h => ?_, fun _ _ p hp => ?_⟩))
      · subst h
        cases r1
        rcases p2 with p2 | ⟨_, _, _, c, _⟩
        · exact k _ G H R (Stp.refl _ _) p2
        · cases c
      · subst h
        cases r2
        rw [List.append_nil] at k
        rcases p1 with p1 | ⟨_, _, _, c, _⟩
        · exact k _ G H R (Stp.refl _ _) p1
        · cases c
      · obtain ⟨R', s', n⟩ := R.newF hp (.tup (vs ++ ws))
        exact k _ _ _ R' s' (.tup (.inl (.inl n)) (RepAll.mono s'.z s'.mu _ _ (r1.append r2)))
    · cases q
theorem se_add (ha : SB X cl W a ca) (hb : SB X cl W b cb) : SE X cl W (.BinOp a .Add b pos) (eBin oAdd ca cb) := sx_bin pfM op_addAll os_add ha hb
theorem sn_add (ha : SB X cl W a ca) (hb : SB X cl W b cb) : SN X cl W (.BinOp a .Add b pos) (eBin oCat ca cb) := sx_bin pnM op_cat os_cat ha hb

/-- two ints -/
theorem os_int {C : Int → Int → Prop} {g : Int → Int → D} {gv : Int → Int → V} {f : D → D → Option D} (hf : ∀ d e z, f d e = some z → ∃ i j, d = .int i ∧ e = .int j ∧ C i j ∧ z = g i j) (hg : ∀ i j mu Z, Rep X.K cl mu Z (gv i j) (g i j)) : OpS X cl (rI C gv) f (PF X.K cl) := fun {G0 H0 S ρ G σ H x y d e z Q} R p1 p2 q k => by
  obtain ⟨i, j, rfl, rfl, hc, rfl⟩ := hf d e z q
  exact ⟨i, j, p1.int, p2.int, hc, k _ G H R (Stp.refl _ _) (hg i j _ _)⟩
theorem os_int0 {g : Int → Int → D} {gv : Int → Int → V} {f : D → D → Option D} (hf : ∀ d e z, f d e = some z → ∃ i j, d = .int i ∧ e = .int j ∧ z = g i j) (hg : ∀ i j mu Z, Rep X.K cl mu Z (gv i j) (g i j)) : OpS X cl (rI0 gv) f (PF X.K cl) := fun {G0 H0 S ρ G σ H x y d e z Q} R p1 p2 q k => by
  obtain ⟨i, j, rfl, rfl, rfl⟩ := hf d e z q
  exact ⟨i, j, p1.int, p2.int, k _ G H R (Stp.refl _ _) (hg i j _ _)⟩
def oI (C : Int → Int → Bool) (g : Int → Int → D) : D → D → Option D
  | .int i, .int j => if C i j then some (g i j) else none
  | _, _ => none
theorem oI_some {C : Int → Int → Bool} {g : Int → Int → D} (d e z : D) (h : oI C g d e = some z) : ∃ i j, d = .int i ∧ e = .int j ∧ C i j = true ∧ z = g i j := by
  cases d <;> cases e <;> simp only [oI, reduceCtorEq] at h
  rename_i i j
  split at h
  · cases h
    exact ⟨i, j, rfl, rfl, by assumption, rfl⟩
  · cases h
def oI0 (g : Int → Int → D) : D → D → Option D
  | .int i, .int j => some (g i j)
  | _, _ => none
theorem oI0_some {g : Int → Int → D} (d e z : D) (h : oI0 g d e = some z) : ∃ i j, d = .int i ∧ e = .int j ∧ z = g i j := by
  cases d <;> cases e <;> simp only [oI0, reduceCtorEq] at h
  cases h
  exact ⟨_, _, rfl, rfl, rfl⟩
def cMul (i j : Int) : Bool := decide ((-(2 ^ 64) < i ∧ i < 2 ^ 64) ∨ (-(2 ^ 64) < j ∧ j < 2 ^ 64))
def cDiv (_ j : Int) : Bool := decide (0 < j ∧ j < 1073741824)
def cMod (_ j : Int) : Bool := decide (0 < j)
def cPow (i j : Int) : Bool := decide (0 ≤ j ∧ j ≤ 1000000 ∧ i.natAbs < 2 ^ 64)
def cShr (_ j : Int) : Bool := decide (0 ≤ j)
abbrev oSub := oI0 fun i j => .int (i - j)
abbrev oMulI := oI cMul fun i j => .int (i * j)
abbrev oDiv := oI cDiv fun i j => .int (i / j)
abbrev oMod := oI cMod fun i j => .int (i % j)
abbrev oPow := oI cPow fun i j => .int (i ^ j.toNat)
abbrev oShr := oI cShr fun i j => .int (i / 2 ^ j.toNat)
abbrev oLt := oI0 fun i j => .bl (decide (i < j))
abbrev oLe := oI0 fun i j => .bl (decide (i ≤ j))
abbrev oGt := oI0 fun i j => .bl (decide (j < i))
abbrev oGe := oI0 fun i j => .bl (decide (j ≤ i))
theorem os_sub : OpS X cl (rI0 fun i j => .int (i - j)) oSub (PF X.K cl) := os_int0 oI0_some fun _ _ _ _ => .int _
theorem cMul_ok {i j : Int} (h : cMul i j = true) : CMul i j := by
  unfold cMul at h
  unfold CMul
  simpa only [decide_eq_true_eq] using h
theorem cDiv_ok {i j : Int} (h : cDiv i j = true) : CDiv i j := by
  unfold cDiv at h
  unfold CDiv
  simpa only [decide_eq_true_eq] using h
theorem cPow_ok {i j : Int} (h : cPow i j = true) : CPow i j := by
  unfold cPow at h
  unfold CPow
  simpa only [decide_eq_true_eq] using h
theorem os_mul : OpS X cl (rI CMul fun i j => .int (i * j)) oMulI (PF X.K cl) := os_int (fun d e z h => let ⟨i, j, a, b, c, q⟩ := oI_some d e z h; ⟨i, j, a, b, cMul_ok c, q⟩) fun _ _ _ _ => .int _
theorem os_div : OpS X cl (rI CDiv fun i j => .int (i / j)) oDiv (PF X.K cl) := os_int (fun d e z h => let ⟨i, j, a, b, c, q⟩ := oI_some d e z h; ⟨i, j, a, b, cDiv_ok c, q⟩) fun _ _ _ _ => .int _
theorem os_mod : OpS X cl (rI (fun _ j => 0 < j) fun i j => .int (i % j)) oMod (PF X.K cl) := os_int (fun d e z h => let ⟨i, j, a, b, c, q⟩ := oI_some d e z h; ⟨i, j, a, b, of_decide_eq_true c, q⟩) fun _ _ _ _ => .int _
theorem os_pow : OpS X cl (rI CPow fun i j => .int (i ^ j.toNat)) oPow (PF X.K cl) := os_int (fun d e z h => let ⟨i, j, a, b, c, q⟩ := oI_some d e z h; ⟨i, j, a, b, cPow_ok c, q⟩) fun _ _ _ _ => .int _
theorem os_shr : OpS X cl (rI (fun _ j => 0 ≤ j) fun i j => .int (i / 2 ^ j.toNat)) oShr (PF X.K cl) := os_int (fun d e z h => let ⟨i, j, a, b, c, q⟩ := oI_some d e z h; ⟨i, j, a, b, of_decide_eq_true c, q⟩) fun _ _ _ _ => .int _
theorem os_lt : OpS X cl (rI0 fun i j => .bl (decide (i < j))) oLt (PF X.K cl) := os_int0 oI0_some fun _ _ _ _ => .bl _
theorem os_le : OpS X cl (rI0 fun i j => .bl (decide (i ≤ j))) oLe (PF X.K cl) := os_int0 oI0_some fun _ _ _ _ => .bl _
theorem os_gt : OpS X cl (rI0 fun i j => .bl (decide (j < i))) oGt (PF X.K cl) := os_int0 oI0_some fun _ _ _ _ => .bl _
theorem os_ge : OpS X cl (rI0 fun i j => .bl (decide (j ≤ i))) oGe (PF X.K cl) := os_int0 oI0_some fun _ _ _ _ => .bl _
theorem se_sub (ha : SB X cl W a ca) (hb : SB X cl W b cb) : SE X cl W (.BinOp a .Sub b pos) (eBin oSub ca cb) := sx_bin pfM op_sub os_sub ha hb
theorem se_div (ha : SB X cl W a ca) (hb : SB X cl W b cb) : SE X cl W (.BinOp a .FloorDiv b pos) (eBin oDiv ca cb) := sx_bin pfM op_fdiv os_div ha hb
theorem se_mod (ha : SB X cl W a ca) (hb : SB X cl W b cb) : SE X cl W (.BinOp a .Mod b pos) (eBin oMod ca cb) := sx_bin pfM op_mod os_mod ha hb
theorem se_pow (ha : SB X cl W a ca) (hb : SB X cl W b cb) : SE X cl W (.BinOp a .Pow b pos) (eBin oPow ca cb) := sx_bin pfM op_pow os_pow ha hb
theorem se_shr (ha : SB X cl W a ca) (hb : SB X cl W b cb) : SE X cl W (.BinOp a .RShift b pos) (eBin oShr ca cb) := sx_bin pfM op_shr os_shr ha hb
theorem se_lt (ha : SB X cl W a ca) (hb : SB X cl W b cb) : SE X cl W (.Compare a [.Lt] [b] pos) (eBin oLt ca cb) := se_cmp op_lt os_lt ha hb (nomark _)
theorem se_le (ha : SB X cl W a ca) (hb : SB X cl W b cb) : SE X cl W (.Compare a [.LtE] [b] pos) (eBin oLe ca cb) := se_cmp op_le os_le ha hb (nomark _)
theorem se_gt (ha : SB X cl W a ca) (hb : SB X cl W b cb) : SE X cl W (.Compare a [.Gt] [b] pos) (eBin oGt ca cb) := se_cmp op_gt os_gt ha hb (nomark _)
theorem se_ge (ha : SB X cl W a ca) (hb : SB X cl W b cb) : SE X cl W (.Compare a [.GtE] [b] pos) (eBin oGe ca cb) := se_cmp op_ge os_ge ha hb (nomark _)

/-! ### times -/
/-- text times int -/
def rRepS : R2 := fun x y H Q => ∃ i k, x = .str i ∧ y = .int k ∧ k ≤ 1000 ∧ -1000 ≤ k ∧ i.length ≤ 1000 ∧ Q (.str ⟨(List.replicate k.toNat i.cps.toList).flatten.toArray⟩) H
def oRep : D → D → Option D
  | .lst xs, .int k => if -1000000 ≤ k ∧ k ≤ 1000000 ∧ xs.length * k.toNat ≤ 1000000 then some (.lst (List.replicate k.toNat xs).flatten) else none
  | _, _ => none
theorem os_rep : OpS X cl rRep oRep (PN X.K cl) := fun {G0 H0 S ρ G σ H x y d e z Q} R p1 p2 q k => by
  cases d <;> cases e <;> simp only [oRep, reduceCtorEq] at q
  rename_i xs j
  split at q
  · cases q
    rename_i hz
    obtain ⟨a1, vs, rfl, h1, r1⟩ := p1.lst R.ok.zsub
    have e2 := p2.int
    subst e2
    refine ⟨a1, j, vs, rfl, rfl, h1, by have := hz.1; omega, by have := hz.2.1; omega, by rw [r1.length]; exact lim_ok hz.2.2, fun p hp => ?_⟩
    obtain ⟨R', s', n⟩ := R.newL hp (r1.replicate j.toNat)
    exact k _ _ _ R' s' ⟨p, [p], rfl, n, fun b hb => by simp at hb; subst hb; exact hp⟩
  · cases q
theorem sn_rep (ha : SB X cl W a ca) (hb : SB X cl W b cb) : SN X cl W (.BinOp a .Mult b pos) (eBin oRep ca cb) := sx_bin pnM op_rep os_rep ha hb
theorem se_mul (ha : SB X cl W a ca) (hb : SB X cl W b cb) : SE X cl W (.BinOp a .Mult b pos) (eBin oMulI ca cb) := sx_bin pfM op_mul os_mul ha hb

/-! ### minus -/
def eUn (f : D → Option D) (ca : Ex) : Ex := fun ρ S => (ca ρ S).bind fun d S => Res.opt (f d) S
def oNeg : D → Option D
  | .int i => some (.int (-i))
  | _ => none
theorem se_neg (ha : SB X cl W a ca) : SE X cl W (.UnaryOp .USub a pos) (eUn oNeg ca) := PE.weak (pe_un un_neg ha) fun σ H Q ⟨G0, H0, S, ρ, G, R, h⟩ => by
  refine tX.bind pfM R h fun d x S1 G1 H1 R1 s1 p1 h1 => ?_
  cases d <;> simp only [oNeg, Res.opt, Aft] at h1
  rename_i i
  exact ⟨i, RepT.int p1, h1 _ G1 H1 R1 (Stp.refl _ _) (.int _)⟩

/-! ### ==, in, over data -/
mutual
def D.py : D → Option PyData
  | .non => some .none
  | .bl b => some (.bool b)
  | .int i => some (.int i)
  | .str x => some (.str x)
  | .lst xs => (D.pys xs).map .list
  | .tup xs => (D.pys xs).map .tuple
  | _ => none
def D.pys : List D → Option (List PyData)
  | [] => some []
  | d :: ds => match D.py d, D.pys ds with
    | some p, some ps => some (p :: ps)
    | _, _ => none
end
section
variable {K : PySem.W.Frag} {mu : List Addr} {Z H : Hp} {G : Gh} {v : V}
mutual
theorem Rep.dp (hz : Same Z H) : ∀ (d : D) (v : V) (p : PyData), Rep K cl mu Z v d → d.py = some p → Dp K H v p
  | .non, _, _, h, e => by cases h; simp only [D.py] at e; cases e; exact .non
  | .bl _, _, _, h, e => by cases h; simp only [D.py] at e; cases e; exact .bl _
  | .int _, _, _, h, e => by cases h; simp only [D.py] at e; cases e; exact .int _
  | .str _, _, _, h, e => by cases h; simp only [D.py] at e; cases e; exact .str _
  | .lst ds, _, p, h, e => by
    cases h with
    | lst hs ha =>
      simp only [D.py] at e
      cases q : D.pys ds with
      | none => rw [q] at e; cases e
      | some ps =>
        rw [q] at e
        cases e
        exact .lst (.inl (.inl (hz _ _ hs))) (RepAll.dp hz ds _ ps ha q)
  | .tup ds, _, p, h, e => by
    cases h with
    | tup hs ha =>
      simp only [D.py] at e
      cases q : D.pys ds with
      | none => rw [q] at e; cases e
      | some ps =>
        rw [q] at e
        cases e
        exact .tup (sameT hz hs) (RepAll.dp hz ds _ ps ha q)
  | .dic _, _, _, _, e => by simp only [D.py] at e; cases e
  | .obj _ _, _, _, _, e => by simp only [D.py] at e; cases e
  | .rf _, _, _, _, e => by simp only [D.py] at e; cases e
  | .scr _, _, _, _, e => by simp only [D.py] at e; cases e
theorem RepAll.dp (hz : Same Z H) : ∀ (ds : List D) (vs : List V) (ps : List PyData), RepAll K cl mu Z vs ds → D.pys ds = some ps → DpAll K H vs ps
  | [], _, _, h, e => by cases h; simp only [D.pys] at e; cases e; exact .nil
  | d :: ds, _, _, h, e => by
    cases h with
    | cons h1 h2 =>
      simp only [D.pys] at e
      cases q1 : d.py with
      | none => rw [q1] at e; cases e
      | some p =>
        cases q2 : D.pys ds with
        | none => rw [q1, q2] at e; cases e
        | some ps =>
          rw [q1, q2] at e
          cases e
          exact .cons (Rep.dp hz d _ p h1 q1) (RepAll.dp hz ds _ ps h2 q2)
end
theorem RepT.dp {d : D} {p : PyData} (h : RepT K cl G H v d) (zs : Same G.Z H) (e : d.py = some p) : Dp K H v p := by
  rcases h with h | ⟨a, as, rfl, c, _⟩
  · exact Rep.dp zs d v p h e
  · cases c with
    | @lst vs ds h1 r =>
      simp only [D.py] at e
      cases q : D.pys ds with
      | none => rw [q] at e; cases e
      | some ps =>
        rw [q] at e
        cases e
        exact .lst (.inl (.inl h1)) (RepAll.dp zs ds _ ps r q)
    | dic h1 r => simp only [D.py] at e; cases e
    | obj h1 h2 r => simp only [D.py] at e; cases e
mutual
theorem D.py_plain : ∀ (d : D) (p : PyData), d.py = some p → p.plain = true
  | .non, _, e => by simp only [D.py] at e; cases e; rfl
  | .bl _, _, e => by simp only [D.py] at e; cases e; rfl
  | .int _, _, e => by simp only [D.py] at e; cases e; rfl
  | .str _, _, e => by simp only [D.py] at e; cases e; rfl
  | .lst ds, _, e => by
    simp only [D.py] at e
    cases q : D.pys ds with
    | none => rw [q] at e; cases e
    | some ps => rw [q] at e; cases e; simp only [PyData.plain]; exact D.pys_plain ds ps q
  | .tup ds, _, e => by
    simp only [D.py] at e
    cases q : D.pys ds with
    | none => rw [q] at e; cases e
    | some ps => rw [q] at e; cases e; simp only [PyData.plain]; exact D.pys_plain ds ps q
  | .dic _, _, e => by simp only [D.py] at e; cases e
  | .obj _ _, _, e => by simp only [D.py] at e; cases e
  | .rf _, _, e => by simp only [D.py] at e; cases e
  | .scr _, _, e => by simp only [D.py] at e; cases e
theorem D.pys_plain : ∀ (ds : List D) (ps : List PyData), D.pys ds = some ps → PyData.plainAll ps = true
  | [], _, e => by simp only [D.pys] at e; cases e; rfl
  | d :: ds, _, e => by
    simp only [D.pys] at e
    cases q1 : d.py with
    | none => rw [q1] at e; cases e
    | some p =>
      cases q2 : D.pys ds with
      | none => rw [q1, q2] at e; cases e
      | some ps =>
        rw [q1, q2] at e
        cases e
        simp only [PyData.plainAll, D.py_plain d p q1, D.pys_plain ds ps q2, Bool.and_self]
end
end
def rEqP (K : PySem.W.Frag) : R2 := fun x y H Q => ∃ d e, Dp K H x d ∧ Dp K H y e ∧ d.plain = true ∧ e.plain = true ∧ min d.depth e.depth ≤ 60 ∧ Q (.bl (PyData.eqv d e)) H
def rNeP (K : PySem.W.Frag) : R2 := fun x y H Q => ∃ d e, Dp K H x d ∧ Dp K H y e ∧ d.plain = true ∧ e.plain = true ∧ min d.depth e.depth ≤ 60 ∧ Q (.bl (!PyData.eqv d e)) H
theorem op_eqP (hu : X.A.units + 64 < cLine) : OpR X (compareOp .Eq) (rEqP X.K) := by
  intro pins s σ H x y v u Q I rx ry h
  obtain ⟨d, e, hd, he, sd, se, hm, q⟩ := h
  obtain ⟨as, r1⟩ := Dp.reads I d x v hd rx
  obtain ⟨bs, r2⟩ := Dp.reads I e y u he ry
  exact SeqAt.eq_plain r1 r2 sd se (by omega) ⟨.bl _, H, I, rfl, q⟩
theorem op_neP (hu : X.A.units + 64 < cLine) : OpR X (compareOp .NotEq) (rNeP X.K) := by
  intro pins s σ H x y v u Q I rx ry h
  obtain ⟨d, e, hd, he, sd, se, hm, q⟩ := h
  obtain ⟨as, r1⟩ := Dp.reads I d x v hd rx
  obtain ⟨bs, r2⟩ := Dp.reads I e y u he ry
  exact SeqAt.ne_plain r1 r2 sd se (by omega) ⟨.bl _, H, I, rfl, q⟩
def D.eq? (d e : D) : Option Bool := match d.py, e.py with
  | some p, some q => if min p.depth q.depth ≤ 60 then some (PyData.eqv p q) else none
  | _, _ => none
def oEq (d e : D) : Option D := (D.eq? d e).map .bl
def oNe (d e : D) : Option D := (D.eq? d e).map fun b => .bl (!b)
theorem D.eq_some {d e : D} {k : Bool} (h : D.eq? d e = some k) : ∃ p q, d.py = some p ∧ e.py = some q ∧ min p.depth q.depth ≤ 60 ∧ k = PyData.eqv p q := by
  unfold D.eq? at h
  cases q1 : d.py with
  | none => rw [q1] at h; cases h
  | some p =>
    cases q2 : e.py with
    | none => rw [q1, q2] at h; cases h
    | some q =>
      rw [q1, q2] at h
      simp only at h
      split at h
      · cases h
        exact ⟨p, q, rfl, rfl, by assumption, rfl⟩
      · cases h
theorem os_eq : OpS X cl (rEqP X.K) oEq (PF X.K cl) := fun {G0 H0 S ρ G σ H x y d e z Q} R p1 p2 q k => by
  unfold oEq at q
  cases q1 : D.eq? d e with
  | none => rw [q1] at q; cases q
  | some b =>
    rw [q1] at q
    cases q
    obtain ⟨p, q, e1, e2, hm, rfl⟩ := D.eq_some q1
    exact ⟨p, q, p1.dp R.ok.zsub e1, p2.dp R.ok.zsub e2, D.py_plain _ _ e1, D.py_plain _ _ e2, hm, k _ G H R (Stp.refl _ _) (.bl _)⟩
theorem os_ne : OpS X cl (rNeP X.K) oNe (PF X.K cl) := fun {G0 H0 S ρ G σ H x y d e z Q} R p1 p2 q k => by
  unfold oNe at q
  cases q1 : D.eq? d e with
  | none => rw [q1] at q; cases q
  | some b =>
    rw [q1] at q
    cases q
    obtain ⟨p, q, e1, e2, hm, rfl⟩ := D.eq_some q1
    exact ⟨p, q, p1.dp R.ok.zsub e1, p2.dp R.ok.zsub e2, D.py_plain _ _ e1, D.py_plain _ _ e2, hm, k _ G H R (Stp.refl _ _) (.bl _)⟩
theorem se_eq (hu : X.A.units + 64 < cLine) (ha : SB X cl W a ca) (hb : SB X cl W b cb) : SE X cl W (.Compare a [.Eq] [b] pos) (eBin oEq ca cb) := se_cmp (op_eqP hu) os_eq ha hb (nomark _)
theorem se_ne (hu : X.A.units + 64 < cLine) (ha : SB X cl W a ca) (hb : SB X cl W b cb) : SE X cl W (.Compare a [.NotEq] [b] pos) (eBin oNe ca cb) := se_cmp (op_neP hu) os_ne ha hb (nomark _)

/-- x in a list, in a tuple, a sign in a text -/
def rInP (K : PySem.W.Frag) (neg : Bool) : R2 := fun x y H Q =>
  (∃ d ds, Dp K H x d ∧ (Dp K H y (.list ds) ∨ Dp K H y (.tuple ds)) ∧ d.plain = true ∧ PyData.plainAll ds = true ∧ min (PyData.depthAll ds) d.depth ≤ 60 ∧ Q (.bl (if neg then !(ds.any fun z => PyData.eqv z d) else ds.any fun z => PyData.eqv z d)) H) ∨
  (∃ (c : Nat) (z : Str), x = .str ⟨#[c]⟩ ∧ y = .str z ∧ Q (.bl (if neg then !decide (c ∈ z.cps.toList) else decide (c ∈ z.cps.toList))) H)
theorem op_inP (hu : X.A.units + 65 < cLine) : OpR X (compareOp .In) (rInP X.K false) := by
  intro pins s σ H x y v u Q I rx ry h
  rcases h with ⟨d, ds, hd, hy, sd, se, hm, q⟩ | h
  · obtain ⟨as, r1⟩ := Dp.reads I d x v hd rx
    rcases hy with hy | hy
    · obtain ⟨bs, r2⟩ := Dp.reads I (.list ds) y u hy ry
      exact SeqAt.in_list_data r2 r1 se sd (by omega) ⟨.bl _, H, I, rfl, q⟩
    · obtain ⟨bs, r2⟩ := Dp.reads I (.tuple ds) y u hy ry
      exact SeqAt.in_tuple_data r2 r1 se sd (by omega) ⟨.bl _, H, I, rfl, q⟩
  · exact op_in_sign pins s σ H x y v u Q I rx ry h
theorem op_notInP (hu : X.A.units + 65 < cLine) : OpR X (compareOp .NotIn) (rInP X.K true) := by
  intro pins s σ H x y v u Q I rx ry h
  rcases h with ⟨d, ds, hd, hy, sd, se, hm, q⟩ | h
  · obtain ⟨as, r1⟩ := Dp.reads I d x v hd rx
    rcases hy with hy | hy
    · obtain ⟨bs, r2⟩ := Dp.reads I (.list ds) y u hy ry
      exact SeqAt.notIn_list_data r2 r1 se sd (by omega) ⟨.bl _, H, I, rfl, q⟩
    · obtain ⟨bs, r2⟩ := Dp.reads I (.tuple ds) y u hy ry
      exact SeqAt.notIn_tuple_data r2 r1 se sd (by omega) ⟨.bl _, H, I, rfl, q⟩
  · exact op_notIn_sign pins s σ H x y v u Q I rx ry h
/-- x in y -/
def D.in? (x y : D) : Option Bool := match x, y with
  | .str w, .str z => if w.cps.size = 1 then some (decide (w.cps.getD 0 0 ∈ z.cps.toList)) else none
  | x, .lst ys => (match x.py, D.pys ys with
    | some p, some qs => if min (PyData.depthAll qs) p.depth ≤ 60 then some (qs.any fun z => PyData.eqv z p) else none
    | _, _ => none)
  | x, .tup ys => (match x.py, D.pys ys with
    | some p, some qs => if min (PyData.depthAll qs) p.depth ≤ 60 then some (qs.any fun z => PyData.eqv z p) else none
    | _, _ => none)
  | _, _ => none
def oIn (d e : D) : Option D := (D.in? d e).map .bl
def oNin (d e : D) : Option D := (D.in? d e).map fun b => .bl (!b)
theorem in_sem {K : PySem.W.Frag} {neg : Bool} {G : Gh} {H : Hp} {x y : V} {d e : D} {k : Bool} {Q : VK} (zs : Same G.Z H) (p1 : RepT K cl G H x d) (p2 : RepT K cl G H y e) (h : D.in? d e = some k) (q : Q (.bl (if neg then !k else k)) H) : rInP K neg x y H Q := by
  have seq : ∀ (ys : List D), (match d.py, D.pys ys with
    | some p, some qs => if min (PyData.depthAll qs) p.depth ≤ 60 then some (qs.any fun z => PyData.eqv z p) else none
    | _, _ => none) = some k → (∀ qs, D.pys ys = some qs → Dp K H y (.list qs) ∨ Dp K H y (.tuple qs)) → rInP K neg x y H Q := fun ys h hy => by
    cases q1 : d.py with
    | none => rw [q1] at h; cases h
    | some p =>
      cases q2 : D.pys ys with
      | none => rw [q1, q2] at h; cases h
      | some qs =>
        rw [q1, q2] at h
        simp only at h
        split at h
        · cases h
          exact .inl ⟨p, qs, p1.dp zs q1, hy qs q2, D.py_plain _ _ q1, D.pys_plain _ _ q2, by assumption, q⟩
        · cases h
  cases e with
  | lst ys =>
    refine seq ys (by cases d <;> exact h) fun qs e => .inl (p2.dp zs ?_)
    simp only [D.py, e]
    rfl
  | tup ys =>
    refine seq ys (by cases d <;> exact h) fun qs e => .inr (p2.dp zs ?_)
    simp only [D.py, e]
    rfl
  | str z =>
    cases d with
    | str w =>
      simp only [D.in?] at h
      split at h
      · cases h
        rename_i hw
        refine .inr ⟨w.cps.getD 0 0, z, ?_, p2.str, q⟩
        rw [p1.str]
        obtain ⟨⟨l⟩⟩ := w
        match l, hw with
        | [c], _ => rfl
      · cases h
    | _ => simp only [D.in?, reduceCtorEq] at h
  | _ => cases d <;> simp only [D.in?, reduceCtorEq] at h
theorem os_in : OpS X cl (rInP X.K false) oIn (PF X.K cl) := fun {G0 H0 S ρ G σ H x y d e z Q} R p1 p2 q k => by
  unfold oIn at q
  cases q1 : D.in? d e with
  | none => rw [q1] at q; cases q
  | some b =>
    rw [q1] at q
    cases q
    exact in_sem R.ok.zsub p1 p2 q1 (k _ G H R (Stp.refl _ _) (.bl _))
theorem os_nin : OpS X cl (rInP X.K true) oNin (PF X.K cl) := fun {G0 H0 S ρ G σ H x y d e z Q} R p1 p2 q k => by
  unfold oNin at q
  cases q1 : D.in? d e with
  | none => rw [q1] at q; cases q
  | some b =>
    rw [q1] at q
    cases q
    exact in_sem R.ok.zsub p1 p2 q1 (k _ G H R (Stp.refl _ _) (.bl _))
theorem se_in (hu : X.A.units + 65 < cLine) (ha : SB X cl W a ca) (hb : SB X cl W b cb) (hm : behindInMarks .In b = false) : SE X cl W (.Compare a [.In] [b] pos) (eBin oIn ca cb) := se_cmp (op_inP hu) os_in ha hb hm
theorem se_nin (hu : X.A.units + 65 < cLine) (ha : SB X cl W a ca) (hb : SB X cl W b cb) (hm : behindInMarks .NotIn b = false) : SE X cl W (.Compare a [.NotIn] [b] pos) (eBin oNin ca cb) := se_cmp (op_notInP hu) os_nin ha hb hm

/-! ### is None -/
def D.isNon : D → Bool
  | .non => true
  | _ => false
theorem RepT.isNon {K : PySem.W.Frag} {G : Gh} {H : Hp} {x : V} {d : D} (h : RepT K cl G H x d) : decide (x = V.non) = d.isNon := by
  rcases h with h | ⟨a, as, rfl, c, _⟩
  · cases h <;> simp [D.isNon]
  · cases c <;> simp [D.isNon]
def oIs (d e : D) : Option D := match e with
  | .non => some (.bl d.isNon)
  | _ => none
def oIsN (d e : D) : Option D := match e with
  | .non => some (.bl (!d.isNon))
  | _ => none
theorem os_is : OpS X cl (fun x y H Q => y = .non ∧ Q (.bl (decide (x = .non))) H) oIs (PF X.K cl) := fun {G0 H0 S ρ G σ H x y d e z Q} R p1 p2 q k => by
  cases e <;> simp only [oIs, reduceCtorEq] at q
  cases q
  exact ⟨p2.non, by rw [p1.isNon]; exact k _ G H R (Stp.refl _ _) (.bl _)⟩
theorem os_isN : OpS X cl (fun x y H Q => y = .non ∧ Q (.bl (!decide (x = .non))) H) oIsN (PF X.K cl) := fun {G0 H0 S ρ G σ H x y d e z Q} R p1 p2 q k => by
  cases e <;> simp only [oIsN, reduceCtorEq] at q
  cases q
  exact ⟨p2.non, by rw [p1.isNon]; exact k _ G H R (Stp.refl _ _) (.bl _)⟩
theorem se_is (ha : SB X cl W a ca) (hb : SB X cl W b cb) : SE X cl W (.Compare a [.Is] [b] pos) (eBin oIs ca cb) := se_cmp op_isN os_is ha hb (nomark _)
theorem se_isN (ha : SB X cl W a ca) (hb : SB X cl W b cb) : SE X cl W (.Compare a [.IsNot] [b] pos) (eBin oIsN ca cb) := se_cmp op_notN os_isN ha hb (nomark _)
end
end PM
set_option maxHeartbeats 1000000
/-! PM5: tests, and, or, not, displays, subscripts, slices, built-in functions. -/
namespace PM
open PySem PySem.Spec PyProof.Rows L2

section
variable {X : Cx} {cl : Nat → Addr} {W : WX} {a b e c : Expr} {ca cb cc : Ex} {pos : Pos} {ta tb : Tx} {es : List Expr} {rest : List Expr}

/-! ### truth -/
def D.truth : D → Option Bool
  | .non => some false
  | .bl b => some b
  | .int i => some (i != 0)
  | .str x => if x.length ≤ 1000000 then some ((x.length : Int) != 0) else none
  | .lst xs => some (!xs.isEmpty)
  | .tup xs => some (!xs.isEmpty)
  | .scr xs => some (!xs.isEmpty)
  | .dic kvs => some (!kvs.isEmpty)
  | _ => none
theorem isEmpty_len {α β : Type} : ∀ {xs : List α} {ys : List β}, xs.length = ys.length → xs.isEmpty = ys.isEmpty
  | [], [], _ => rfl
  | _ :: _, _ :: _, _ => rfl
theorem RepT.tru {K : PySem.W.Frag} {G : Gh} {H : Hp} {v : V} {d : D} {k : Bool} (h : RepT K cl G H v d) (zs : Same G.Z H) (e : d.truth = some k) : TruV K v H k := by
  cases d with
  | non => rw [h.non]; cases e; rfl
  | bl b => rw [h.bl]; cases e; rfl
  | int i => rw [h.int]; cases e; rfl
  | str x =>
    rw [h.str]
    simp only [D.truth] at e
    split at e
    · cases e; exact ⟨lim_ok (by assumption), rfl⟩
    · cases e
  | lst xs =>
    obtain ⟨p, vs, rfl, h1, r⟩ := h.lst zs
    cases e
    exact .inl ⟨vs, .inl (.inl h1), by rw [isEmpty_len r.length]⟩
  | tup xs =>
    obtain ⟨p, vs, rfl, h1, r⟩ := h.tup zs
    cases e
    exact .inr (.inl ⟨vs, h1, by rw [isEmpty_len r.length]⟩)
  | scr xs =>
    obtain ⟨p, rfl, h1⟩ := h.scr zs
    cases e
    exact .inl ⟨_, h1, by rw [isEmpty_len (List.length_map _)]⟩
  | dic kvs =>
    obtain ⟨p, vs, rfl, h1, r⟩ := h.dic zs
    cases e
    exact .inr (.inr ⟨vs, h1, by rw [isEmpty_len r.length]⟩)
  | obj c fs => simp only [D.truth, reduceCtorEq] at e
  | rf n => simp only [D.truth, reduceCtorEq] at e
def eTr (ca : Ex) : Tx := fun ρ S => (ca ρ S).bind fun d S => Res.opt d.truth S
/-- a value as a test -/
theorem st_val (ha : SB X cl W a ca) (he : ∀ whole, isTrue a X.env whole = (do let v ← whole; standAt a.pos; holding [v] (truthy v))) : STt X cl W a (eTr ca) := PT.weak (pt_truth ha he) fun σ H Q ⟨G0, H0, S, ρ, G, R, h⟩ => by
  refine tX.bind ptM R h fun d x S1 G1 H1 R1 s1 p1 h1 => ?_
  cases q : d.truth with
  | none => rw [q] at h1; exact h1.elim
  | some k =>
    rw [q] at h1
    exact ⟨k, RepT.tru p1 R1.ok.zsub q, h1 _ G1 H1 R1 (Stp.refl _ _) rfl⟩
/-- the outcome is a truth -/
def Bls (f : D → D → Option D) : Prop := ∀ d e z, f d e = some z → ∃ k, z = .bl k
theorem test_of {f : D → D → Option D} (hb : Bls f) {σ : L2.St} {H : Hp} {Q : Bool → Hp → Prop} (h : tX X.K cl PT1 W (eTr (eBin f ca cb)) σ H Q) : tX X.K cl (PF X.K cl) W (eBin f ca cb) σ H (fun x H' => ∃ k, x = .bl k ∧ Q k H') := by
  obtain ⟨G0, H0, S, ρ, G, R, h⟩ := h
  refine ⟨G0, H0, S, ρ, G, R, ?_⟩
  have hh : ∀ d S', eBin f ca cb ρ S = .ok d S' → ∃ k, d = .bl k := fun d S' q => by
    unfold eBin at q
    cases q1 : ca ρ S with
    | ok d1 S1 =>
      rw [q1] at q
      simp only [Res.bind] at q
      cases q2 : cb ρ S1 with
      | ok d2 S2 =>
        rw [q2] at q
        simp only at q
        cases q3 : f d1 d2 with
        | none => rw [q3] at q; cases q
        | some z => rw [q3] at q; cases q; exact hb _ _ _ q3
      | exc n S2 => rw [q2] at q; cases q
      | stuck => rw [q2] at q; cases q
    | exc n S1 => rw [q1] at q; cases q
    | stuck => rw [q1] at q; cases q
  unfold eTr at h
  cases q : eBin f ca cb ρ S with
  | ok d S' =>
    rw [q] at h
    obtain ⟨k, rfl⟩ := hh d S' q
    intro v G' H' R' s p
    cases p
    exact ⟨k, rfl, h k G' H' R' s rfl⟩
  | exc n S' => rw [q] at h; exact h
  | stuck => rw [q] at h; exact h
theorem st_cmp {op : CmpOp} {r : R2} {f : D → D → Option D} (hb : Bls f) (ho : OpR X (compareOp op) r) (hs : OpS X cl r f (PF X.K cl)) (ha : SB X cl W a ca) (hb' : SB X cl W b cb) (hm : behindInMarks op b = false) : STt X cl W (.Compare a [op] [b] pos) (eTr (eBin f ca cb)) :=
  PT.weak (pt_cmpR ho ha hb' hm) fun σ H Q h => bin_sem pfM hs (test_of hb h)
theorem bls_eq : Bls oEq := fun d e z h => by
  unfold oEq at h
  cases q : D.eq? d e with
  | none => rw [q] at h; cases h
  | some b => rw [q] at h; cases h; exact ⟨_, rfl⟩
theorem bls_ne : Bls oNe := fun d e z h => by
  unfold oNe at h
  cases q : D.eq? d e with
  | none => rw [q] at h; cases h
  | some b => rw [q] at h; cases h; exact ⟨_, rfl⟩
theorem bls_in : Bls oIn := fun d e z h => by
  unfold oIn at h
  cases q : D.in? d e with
  | none => rw [q] at h; cases h
  | some b => rw [q] at h; cases h; exact ⟨_, rfl⟩
theorem bls_nin : Bls oNin := fun d e z h => by
  unfold oNin at h
  cases q : D.in? d e with
  | none => rw [q] at h; cases h
  | some b => rw [q] at h; cases h; exact ⟨_, rfl⟩
theorem bls_is : Bls oIs := fun d e z h => by cases e <;> simp only [oIs, reduceCtorEq] at h; cases h; exact ⟨_, rfl⟩
theorem bls_isN : Bls oIsN := fun d e z h => by cases e <;> simp only [oIsN, reduceCtorEq] at h; cases h; exact ⟨_, rfl⟩
theorem bls_I {p : Int → Int → Bool} : Bls (oI0 fun i j => .bl (p i j)) := fun d e z h => by
  obtain ⟨i, j, _, _, rfl⟩ := oI0_some d e z h
  exact ⟨_, rfl⟩
theorem st_lt (ha : SB X cl W a ca) (hb : SB X cl W b cb) : STt X cl W (.Compare a [.Lt] [b] pos) (eTr (eBin oLt ca cb)) := st_cmp bls_I op_lt os_lt ha hb (nomark _)
theorem st_le (ha : SB X cl W a ca) (hb : SB X cl W b cb) : STt X cl W (.Compare a [.LtE] [b] pos) (eTr (eBin oLe ca cb)) := st_cmp bls_I op_le os_le ha hb (nomark _)
theorem st_gt (ha : SB X cl W a ca) (hb : SB X cl W b cb) : STt X cl W (.Compare a [.Gt] [b] pos) (eTr (eBin oGt ca cb)) := st_cmp bls_I op_gt os_gt ha hb (nomark _)
theorem st_ge (ha : SB X cl W a ca) (hb : SB X cl W b cb) : STt X cl W (.Compare a [.GtE] [b] pos) (eTr (eBin oGe ca cb)) := st_cmp bls_I op_ge os_ge ha hb (nomark _)
theorem st_eq (hu : X.A.units + 64 < cLine) (ha : SB X cl W a ca) (hb : SB X cl W b cb) : STt X cl W (.Compare a [.Eq] [b] pos) (eTr (eBin oEq ca cb)) := st_cmp bls_eq (op_eqP hu) os_eq ha hb (nomark _)
theorem st_ne (hu : X.A.units + 64 < cLine) (ha : SB X cl W a ca) (hb : SB X cl W b cb) : STt X cl W (.Compare a [.NotEq] [b] pos) (eTr (eBin oNe ca cb)) := st_cmp bls_ne (op_neP hu) os_ne ha hb (nomark _)
theorem st_in (hu : X.A.units + 65 < cLine) (ha : SB X cl W a ca) (hb : SB X cl W b cb) (hm : behindInMarks .In b = false) : STt X cl W (.Compare a [.In] [b] pos) (eTr (eBin oIn ca cb)) := st_cmp bls_in (op_inP hu) os_in ha hb hm
theorem st_nin (hu : X.A.units + 65 < cLine) (ha : SB X cl W a ca) (hb : SB X cl W b cb) (hm : behindInMarks .NotIn b = false) : STt X cl W (.Compare a [.NotIn] [b] pos) (eTr (eBin oNin ca cb)) := st_cmp bls_nin (op_notInP hu) os_nin ha hb hm
theorem st_is (ha : SB X cl W a ca) (hb : SB X cl W b cb) : STt X cl W (.Compare a [.Is] [b] pos) (eTr (eBin oIs ca cb)) := st_cmp bls_is op_isN os_is ha hb (nomark _)
theorem st_isN (ha : SB X cl W a ca) (hb : SB X cl W b cb) : STt X cl W (.Compare a [.IsNot] [b] pos) (eTr (eBin oIsN ca cb)) := st_cmp bls_isN op_notN os_isN ha hb (nomark _)

/-! ### and, or, not as tests -/
def tAndD (ta tb : Tx) : Tx := fun ρ S => (ta ρ S).bind fun k S => if k = true then tb ρ S else .ok false S
def tOrD (ta tb : Tx) : Tx := fun ρ S => (ta ρ S).bind fun k S => if k = true then .ok true S else tb ρ S
def tNotD (ta : Tx) : Tx := fun ρ S => (ta ρ S).bind fun k S => .ok (!k) S
theorem sw_and1 (ha : STt X cl W a ta) : SW X cl W (.BoolOp .And [a] pos) ta := pw_and1 ha
theorem sw_or1 (ha : STt X cl W a ta) : SW X cl W (.BoolOp .Or [a] pos) ta := pw_or1 ha
theorem sw_and (ha : STt X cl W a ta) (hb : SW X cl W (.BoolOp .And (b :: rest) pos) tb) : SW X cl W (.BoolOp .And (a :: b :: rest) pos) (tAndD ta tb) := PW.weak (pw_and ha hb) fun σ H Q ⟨G0, H0, S, ρ, G, R, h⟩ => by
  refine tX.bind (Pa := PT1) ptM R h fun d x S1 G1 H1 R1 s1 p1 h1 => ?_
  cases (show x = d from p1)
  cases d with
  | true => exact ⟨_, _, _, _, _, R1, h1⟩
  | false => exact h1 _ G1 H1 R1 (Stp.refl _ _) rfl
theorem sw_or (ha : STt X cl W a ta) (hb : SW X cl W (.BoolOp .Or (b :: rest) pos) tb) : SW X cl W (.BoolOp .Or (a :: b :: rest) pos) (tOrD ta tb) := PW.weak (pw_or ha hb) fun σ H Q ⟨G0, H0, S, ρ, G, R, h⟩ => by
  refine tX.bind (Pa := PT1) ptM R h fun d x S1 G1 H1 R1 s1 p1 h1 => ?_
  cases (show x = d from p1)
  cases d with
  | true => exact h1 _ G1 H1 R1 (Stp.refl _ _) rfl
  | false => exact ⟨_, _, _, _, _, R1, h1⟩
theorem st_w (h : SW X cl W a ta) : STt X cl W a ta := PW.pt h
theorem st_not (ha : STt X cl W a ta) : STt X cl W (.UnaryOp .Not a pos) (tNotD ta) := PT.weak (pt_not ha) fun σ H Q ⟨G0, H0, S, ρ, G, R, h⟩ => by
  refine tX.bind (Pa := PT1) ptM R h fun d x S1 G1 H1 R1 s1 p1 h1 => ?_
  cases (show x = d from p1)
  exact h1 _ G1 H1 R1 (Stp.refl _ _) rfl
/-! ### .. as values -/
def eAndD (ca cb : Ex) : Ex := fun ρ S => (ca ρ S).bind fun d S => match d with
  | .bl true => cb ρ S
  | .bl false => .ok (.bl false) S
  | _ => .stuck
def eOrD (ca cb : Ex) : Ex := fun ρ S => (ca ρ S).bind fun d S => match d with
  | .bl true => .ok (.bl true) S
  | .bl false => cb ρ S
  | _ => .stuck
def eNotD (ca : Ex) : Ex := fun ρ S => (ca ρ S).bind fun d S => match d with
  | .bl k => .ok (.bl (!k)) S
  | _ => .stuck
theorem se_one {op} (h : SE X cl W a ca) : SE X cl W (.BoolOp op [a] pos) ca := pe_one h
theorem se_and (ha : SB X cl W a ca) (hb : SE X cl W (.BoolOp .And (b :: rest) pos) cb) : SE X cl W (.BoolOp .And (a :: b :: rest) pos) (eAndD ca cb) := PE.weak (pe_and ha hb) fun σ H Q ⟨G0, H0, S, ρ, G, R, h⟩ => by
  refine tX.bind pfM R h fun d x S1 G1 H1 R1 s1 p1 h1 => ?_
  cases d <;> simp only [Aft] at h1
  rename_i k
  refine ⟨k, RepT.bl p1, ?_⟩
  cases k with
  | true => exact ⟨_, _, _, _, _, R1, h1⟩
  | false => exact h1 _ G1 H1 R1 (Stp.refl _ _) (.bl _)
theorem se_or (ha : SB X cl W a ca) (hb : SE X cl W (.BoolOp .Or (b :: rest) pos) cb) : SE X cl W (.BoolOp .Or (a :: b :: rest) pos) (eOrD ca cb) := PE.weak (pe_or ha hb) fun σ H Q ⟨G0, H0, S, ρ, G, R, h⟩ => by
  refine tX.bind pfM R h fun d x S1 G1 H1 R1 s1 p1 h1 => ?_
  cases d <;> simp only [Aft] at h1
  rename_i k
  refine ⟨k, RepT.bl p1, ?_⟩
  cases k with
  | true => exact h1 _ G1 H1 R1 (Stp.refl _ _) (.bl _)
  | false => exact ⟨_, _, _, _, _, R1, h1⟩
theorem se_not (ha : SB X cl W a ca) : SE X cl W (.UnaryOp .Not a pos) (eNotD ca) := PE.weak (pe_not ha) fun σ H Q ⟨G0, H0, S, ρ, G, R, h⟩ => by
  refine tX.bind pfM R h fun d x S1 G1 H1 R1 s1 p1 h1 => ?_
  cases d <;> simp only [Aft] at h1
  rename_i k
  exact ⟨k, RepT.bl p1, h1 _ G1 H1 R1 (Stp.refl _ _) (.bl _)⟩
def eIf (tc : Tx) (ca cb : Ex) : Ex := fun ρ S => (tc ρ S).bind fun k S => if k = true then ca ρ S else cb ρ S
theorem se_if {tc : Tx} (hc : STt X cl W c tc) (ha : SE X cl W a ca) (hb : SE X cl W b cb) : SE X cl W (.IfExp c a b pos) (eIf tc ca cb) := PE.weak (pe_ifExp hc ha hb) fun σ H Q ⟨G0, H0, S, ρ, G, R, h⟩ => by
  refine tX.bind (Pa := PT1) pfM R h fun d x S1 G1 H1 R1 s1 p1 h1 => ?_
  cases (show x = d from p1)
  cases d with
  | true => exact ⟨_, _, _, _, _, R1, h1⟩
  | false => exact ⟨_, _, _, _, _, R1, h1⟩
/-- a op b op' c -/
def eChain (f f' : D → D → Option D) (ca cb cc : Ex) : Ex := fun ρ S => (ca ρ S).bind fun d S => (cb ρ S).bind fun e S => match f d e with
  | some (.bl true) => (cc ρ S).bind fun u S => Res.opt (f' e u) S
  | some (.bl false) => .ok (.bl false) S
  | _ => .stuck
theorem chain_sem {r r' : R2} {f f' : D → D → Option D} (hs : OpS X cl r f (PF X.K cl)) (hs' : OpS X cl r' f' (PF X.K cl)) {σ : L2.St} {H : Hp} {Q : VK} (h : tX X.K cl (PF X.K cl) W (eChain f f' ca cb cc) σ H Q) :
    tChain r r' (tX X.K cl (PB X.K cl) W ca) (tX X.K cl (PB X.K cl) W cb) (tX X.K cl (PB X.K cl) W cc) σ H Q := by
  obtain ⟨G0, H0, S, ρ, G, R, h⟩ := h
  refine tX.bind pfM R h fun d x S1 G1 H1 R1 s1 p1 h1 => ?_
  refine tX.bind pfM R1 h1 fun e y S2 G2 H2 R2 s2 p2 h2 => ?_
  cases q : f d e with
  | none => simp only [q, Aft] at h2
  | some z =>
    simp only [q] at h2
    cases z <;> simp only [Aft] at h2
    rename_i k
    refine hs R2 (RepT.stp p1 s2) p2 q fun v G3 H3 R3 s3 p3 => ?_
    cases p3
    refine ⟨k, rfl, ?_⟩
    cases k with
    | true =>
      refine tX.bind pfM R3 (Aft.pre pfM (r := (cc ρ S2).bind fun u S => Res.opt (f' e u) S) h2 s3) fun u w S4 G4 H4 R4 s4 p4 h4 => ?_
      cases q4 : f' e u with
      | none => rw [q4] at h4; exact h4.elim
      | some z4 =>
        rw [q4] at h4
        exact hs' R4 (RepT.stp p2 (s3.trans s4)) p4 q4 fun v G' H' R' s' p' => h4 v G' H' R' s' p'
    | false => exact h2 _ G3 H3 R3 s3 (.bl _)
theorem se_chain {op op' : CmpOp} {r r' : R2} {f f' : D → D → Option D} (ho : OpR X (compareOp op) r) (ho' : OpR X (compareOp op') r') (hs : OpS X cl r f (PF X.K cl)) (hs' : OpS X cl r' f' (PF X.K cl)) {t : TE}
    (hp : PE X e t) (ht : t = tChain r r' (tX X.K cl (PB X.K cl) W ca) (tX X.K cl (PB X.K cl) W cb) (tX X.K cl (PB X.K cl) W cc)) : SE X cl W e (eChain f f' ca cb cc) := PE.weak hp fun _ _ _ h => by
  rw [ht]
  exact chain_sem hs hs' h

/-! ### arguments, displays -/
def aNil : Ax := fun _ S => .ok [] S
def aCons (ca : Ex) (cr : Ax) : Ax := fun ρ S => (ca ρ S).bind fun d S => (cr ρ S).bind fun ds S => .ok (d :: ds) S
theorem sa_nil : SA X cl W [] [] aNil := PA.weak pa_nil fun σ H Q ⟨G0, H0, S, ρ, G, R, h⟩ => h _ G H R (Stp.refl _ _) .nil
theorem sa_f {bm : List Bool} {cr : Ax} (ha : SE X cl W e ca) (hr : SA X cl W bm es cr) (hs : starEach (e :: es) X.env = (false, eval e X.env) :: starEach es X.env := by rfl) : SA X cl W (false :: bm) (e :: es) (aCons ca cr) := PA.weak (pa_cons ha hr hs) fun σ H Q ⟨G0, H0, S, ρ, G, R, h⟩ => by
  refine tX.bind (Pa := PF X.K cl) paM R h fun d x S1 G1 H1 R1 s1 p1 h1 => ?_
  refine tX.bind (Pa := PA1 X.K cl bm) paM R1 h1 fun ds xs S2 G2 H2 R2 s2 p2 h2 => ?_
  exact h2 _ G2 H2 R2 (Stp.refl _ _) (.fr (RepG.stp s2 p1) p2)
theorem sa_b {bm : List Bool} {cr : Ax} (ha : SB X cl W e ca) (hr : SA X cl W bm es cr) (hs : starEach (e :: es) X.env = (false, eval e X.env) :: starEach es X.env := by rfl) : SA X cl W (true :: bm) (e :: es) (aCons ca cr) := PA.weak (pa_cons ha hr hs) fun σ H Q ⟨G0, H0, S, ρ, G, R, h⟩ => by
  refine tX.bind (Pa := PB X.K cl) paM R h fun d x S1 G1 H1 R1 s1 p1 h1 => ?_
  refine tX.bind (Pa := PA1 X.K cl bm) paM R1 h1 fun ds xs S2 G2 H2 R2 s2 p2 h2 => ?_
  exact h2 _ G2 H2 R2 (Stp.refl _ _) (.bo (RepT.stp p1 s2) p2)
theorem ArgsOk.reps {K : PySem.W.Frag} {G : Gh} {H : Hp} : ∀ {bm : List Bool} {vs : List V} {ds : List D}, ArgsOk K cl G H bm vs ds → bm.all (!·) = true → RepAll K cl G.mu G.Z vs ds
  | _, _, _, .nil, _ => .nil
  | _, _, _, .fr h t, e => .cons h (t.reps (by simpa using e))
  | _, _, _, .bo h t, e => by simp at e
def eLst (ca : Ax) : Ex := fun ρ S => (ca ρ S).bind fun ds S => if ds.length ≤ 1000000 then .ok (.lst ds) S else .stuck
def eTup (ca : Ax) : Ex := fun ρ S => (ca ρ S).bind fun ds S => if ds.length ≤ 1000000 then .ok (.tup ds) S else .stuck
theorem sn_lst {bm : List Bool} {ca : Ax} (h : SA X cl W bm es ca) (hb : bm.all (!·) = true := by rfl) : SN X cl W (.List es pos) (eLst ca) := PE.weak (pe_lst h) fun σ H Q ⟨G0, H0, S, ρ, G, R, h⟩ => by
  refine tX.bind (Pa := PA1 X.K cl bm) pnM R h fun ds vs S1 G1 H1 R1 s1 p1 h1 => ?_
  split at h1
  · rename_i hz
    refine ⟨by rw [ArgsOk.len p1 |>.1, ← (ArgsOk.len p1).2]; exact lim_ok hz, fun p hp => ?_⟩
    obtain ⟨R', s', n⟩ := R1.newL hp (ArgsOk.reps p1 hb)
    exact h1 _ _ _ R' s' ⟨p, [p], rfl, n, fun b hb => by simp at hb; subst hb; exact hp⟩
  · exact h1.elim
theorem se_tup {bm : List Bool} {ca : Ax} {x1} (h : SA X cl W bm es ca) (hb : bm.all (!·) = true := by rfl) : SE X cl W (.Tuple es x1 pos) (eTup ca) := PE.weak (pe_tup h) fun σ H Q ⟨G0, H0, S, ρ, G, R, h⟩ => by
  refine tX.bind (Pa := PA1 X.K cl bm) pfM R h fun ds vs S1 G1 H1 R1 s1 p1 h1 => ?_
  split at h1
  · rename_i hz
    refine ⟨by rw [ArgsOk.len p1 |>.1, ← (ArgsOk.len p1).2]; exact lim_ok hz, fun p hp => ?_⟩
    obtain ⟨R', s', n⟩ := R1.newF hp (.tup vs)
    exact h1 _ _ _ R' s' (.tup (.inl (.inl n)) (RepAll.mono s'.z s'.mu _ _ (ArgsOk.reps p1 hb)))
  · exact h1.elim
def eDic0 : Ex := fun _ S => .ok (.dic []) S
theorem sn_dic0 : SN X cl W (.Dict [] [] pos) eDic0 := PE.weak pe_dnewK fun σ H Q ⟨G0, H0, S, ρ, G, R, h⟩ p hp => by
  obtain ⟨R', s', n⟩ := R.newD hp (vs := []) (ds := []) .nil
  exact h _ _ _ R' s' ⟨p, [p], rfl, n, fun b hb => by simp at hb; subst hb; exact hp⟩

/-! ### subscripts -/
def oIx : D → D → Option D
  | .lst xs, .int i => atI xs i
  | .tup xs, .int i => atI xs i
  | .scr xs, .int i => (atI xs i).map .int
  | .str x, .int i => if x.length ≤ 1000000 then (atI x.cps.toList i).map fun c => .str ⟨#[c]⟩ else none
  | _, _ => none
theorem atI_some {α : Type} {xs : List α} {i : Int} {x : α} (h : atI xs i = some x) : ∃ j, ixN xs.length i = some j ∧ xs[j]? = some x := by
  unfold atI at h
  cases q : ixN xs.length i with
  | none => rw [q] at h; cases h
  | some j => rw [q] at h; exact ⟨j, rfl, h⟩
theorem atI_of {α : Type} {xs : List α} {i : Int} {x : α} {j : Nat} (h1 : ixN xs.length i = some j) (h2 : xs[j]? = some x) : atI xs i = some x := by
  unfold atI
  rw [h1]
  exact h2
theorem RepAll.atI {K : PySem.W.Frag} {mu : List Addr} {Z : Hp} {vs : List V} {ds : List D} {i : Int} {d : D} (r : RepAll K cl mu Z vs ds) (h : L2.atI ds i = some d) : ∃ v, L2.atI vs i = some v ∧ Rep K cl mu Z v d := by
  obtain ⟨j, h1, h2⟩ := atI_some h
  obtain ⟨v, h3, h4⟩ := r.get h2
  exact ⟨v, atI_of (by rw [r.length]; exact h1) h3, h4⟩
theorem os_ix : OpS X cl (rIx X.K) oIx (PF X.K cl) := fun {G0 H0 S ρ G σ H x y d e z Q} R p1 p2 q k => by
  cases d <;> cases e <;> simp only [oIx, reduceCtorEq] at q
  · rename_i x i
    split at q
    · rename_i hz
      cases q1 : atI x.cps.toList i with
      | none => rw [q1] at q; cases q
      | some c =>
        rw [q1] at q
        cases q
        exact .inr (.inr ⟨x, i, c, p1.str, p2.int, lim_ok hz, q1, k _ G H R (Stp.refl _ _) (.str _)⟩)
    · cases q
  · rename_i xs i
    obtain ⟨a1, vs, rfl, h1, r1⟩ := p1.lst R.ok.zsub
    obtain ⟨v, hv, rv⟩ := r1.atI q
    exact .inl ⟨a1, vs, i, v, rfl, p2.int, .inl (.inl h1), hv, k _ G H R (Stp.refl _ _) rv⟩
  · rename_i xs i
    obtain ⟨a1, vs, rfl, h1, r1⟩ := p1.tup R.ok.zsub
    obtain ⟨v, hv, rv⟩ := r1.atI q
    exact .inr (.inl ⟨a1, vs, i, v, rfl, p2.int, h1, hv, k _ G H R (Stp.refl _ _) rv⟩)
  · rename_i xs i
    obtain ⟨a1, rfl, h1⟩ := p1.scr R.ok.zsub
    cases q1 : atI xs i with
    | none => rw [q1] at q; cases q
    | some n =>
      rw [q1] at q
      cases q
      obtain ⟨j, h2, h3⟩ := atI_some q1
      exact .inl ⟨a1, _, i, .int n, rfl, p2.int, h1, atI_of (by rw [List.length_map]; exact h2) (by rw [List.getElem?_map, h3]; rfl), k _ G H R (Stp.refl _ _) (.int _)⟩
theorem se_ix (ha : SB X cl W a ca) (hb : SB X cl W b cb) (hs : PlainIx b := by intro _ _; rfl) : SE X cl W (.Subscript a b pos) (eBin oIx ca cb) := PE.weak (pe_ix ix_seq ha hb hs) fun σ H Q h => bin_sem pfM os_ix h

/-! ### slices -/
abbrev Px := Env → Store → Res (Option Int)
def PO1 : Post (Option Int) (Option Int) := fun _ _ _ _ d v => v = d
theorem poM : PostM PO1 := fun _ _ _ _ _ _ _ _ _ h => h
def pNo : Px := fun _ S => .ok none S
def pAt (ca : Ex) : Px := fun ρ S => (ca ρ S).bind fun d S => match d with
  | .int i => .ok (some i) S
  | _ => .stuck
abbrev SO (X : Cx) (cl : Nat → Addr) (W : WX) (e : Option Expr) (c : Px) : Prop := PO X e (tX X.K cl PO1 W c)
theorem so_no : SO X cl W none pNo := ⟨fun pins s σ H Q I ⟨G0, H0, S, ρ, G, R, h⟩ => po_none.run pins s σ H Q I (h none G H R (Stp.refl _ _) rfl)⟩
theorem so_at (ha : SB X cl W e ca) : SO X cl W (some e) (pAt ca) := ⟨fun pins s σ H Q I ⟨G0, H0, S, ρ, G, R, h⟩ => (po_some ha).run pins s σ H Q I (by
  refine tX.bind (Pa := PB X.K cl) poM R h fun d x S1 G1 H1 R1 s1 p1 h1 => ?_
  cases d <;> simp only [Aft] at h1
  rename_i i
  exact ⟨i, RepT.int p1, h1 _ G1 H1 R1 (Stp.refl _ _) rfl⟩)⟩
def cutD {α : Type} (xs : List α) (lo hi : Option Int) : List α := (xs.drop (HT.sIx xs.length 0 lo)).take (HT.sIx xs.length xs.length hi - HT.sIx xs.length 0 lo)
theorem RepAll.cut {K : PySem.W.Frag} {mu : List Addr} {Z : Hp} {vs : List V} {ds : List D} (r : RepAll K cl mu Z vs ds) (lo hi : Option Int) : RepAll K cl mu Z (cutV vs lo hi) (cutD ds lo hi) := by
  unfold cutV cutD
  rw [r.length]
  exact (r.drop _).take _
theorem cutV_int (ns : List Int) (lo hi : Option Int) : cutV (ns.map V.int) lo hi = (cutD ns lo hi).map V.int := by
  unfold cutV cutD
  rw [List.length_map, List.map_take, List.map_drop]
def oCutL (d : D) (lo hi : Option Int) : Option D := match d with
  | .lst xs => some (.lst (cutD xs lo hi))
  | .scr ns => some (.lst ((cutD ns lo hi).map .int))
  | _ => none
def oCut (d : D) (lo hi : Option Int) : Option D := match d with
  | .lst xs => some (.lst (cutD xs lo hi))
  | .scr ns => some (.lst ((cutD ns lo hi).map .int))
  | .tup xs => some (.tup (cutD xs lo hi))
  | .str x => if x.length ≤ 1000000 then some (.str (cutS x lo hi)) else none
  | _ => none
def eCut (f : D → Option Int → Option Int → Option D) (ca : Ex) (cl' ch : Px) : Ex := fun ρ S => (ca ρ S).bind fun d S => (cl' ρ S).bind fun lo S => (ch ρ S).bind fun hi S => Res.opt (f d lo hi) S
def rSlAll (K : PySem.W.Frag) : V → Option Int → Option Int → Hp → VK → Prop := fun x lo hi H Q => rSlL K x lo hi H Q ∨ rSlA K x lo hi H Q ∨ rSlS x lo hi H Q
theorem sl_all : SlR X (rSlAll X.K) := sl_list.or (sl_tupA.or sl_str)
theorem cut_list {G0 : Gh} {H0 : Hp} {S : Store} {ρ : Env} {G : Gh} {σ : L2.St} {H : Hp} {x : V} {d z : D} {lo hi : Option Int} {Q : VK} (R : Rel X.K cl G0 H0 S ρ G σ H) (p1 : RepT X.K cl G H x d) (q : oCutL d lo hi = some z)
    (k : ∀ v G' H', Rel X.K cl G0 H0 S ρ G' σ H' → Stp G H G' H' → PN X.K cl G H G' H' z v → Q v H') : rSlL X.K x lo hi H Q := by
  cases d <;> simp only [oCutL, reduceCtorEq] at q
  · rename_i xs
    cases q
    obtain ⟨a1, vs, rfl, h1, r1⟩ := p1.lst R.ok.zsub
    refine ⟨a1, vs, rfl, .inl (.inl h1), fun p hp => ?_⟩
    obtain ⟨R', s', n⟩ := R.newL hp (r1.cut lo hi)
    exact k _ _ _ R' s' ⟨p, [p], rfl, n, fun b hb => by simp at hb; subst hb; exact hp⟩
  · rename_i xs
    cases q
    obtain ⟨a1, rfl, h1⟩ := p1.scr R.ok.zsub
    refine ⟨a1, _, rfl, h1, fun p hp => ?_⟩
    rw [cutV_int]
    obtain ⟨R', s', n⟩ := R.newL hp (RepAll.ints (K := X.K) (cl := cl) (cutD xs lo hi))
    exact k _ _ _ R' s' ⟨p, [p], rfl, n, fun b hb => by simp at hb; subst hb; exact hp⟩
theorem sn_cut {lo hi : Option Expr} {cl' ch : Px} {p2 : Pos} (ha : SB X cl W a ca) (hl : SO X cl W lo cl') (hh : SO X cl W hi ch) : SN X cl W (.Subscript a (.Slice lo hi none p2) pos) (eCut oCutL ca cl' ch) := PE.weak (pe_slice sl_list ha hl hh) fun σ H Q ⟨G0, H0, S, ρ, G, R, h⟩ => by
  refine tX.bind (Pa := PB X.K cl) pnM R h fun d x S1 G1 H1 R1 s1 p1 h1 => ?_
  refine tX.bind (Pa := PO1) pnM R1 h1 fun l lv S2 G2 H2 R2 s2 p2 h2 => ?_
  cases (show lv = l from p2)
  refine tX.bind (Pa := PO1) pnM R2 h2 fun u uv S3 G3 H3 R3 s3 p3 h3 => ?_
  cases (show uv = u from p3)
  cases q : oCutL d l u with
  | none => rw [q] at h3; exact h3.elim
  | some z =>
    rw [q] at h3
    exact cut_list R3 (RepT.stp p1 (s2.trans s3)) q fun v G' H' R' s' p' => h3 v G' H' R' s' p'
theorem se_cut {lo hi : Option Expr} {cl' ch : Px} {p2 : Pos} (ha : SB X cl W a ca) (hl : SO X cl W lo cl') (hh : SO X cl W hi ch) : SE X cl W (.Subscript a (.Slice lo hi none p2) pos) (eCut oCut ca cl' ch) := PE.weak (pe_slice sl_all ha hl hh) fun σ H Q ⟨G0, H0, S, ρ, G, R, h⟩ => by
  refine tX.bind (Pa := PB X.K cl) pfM R h fun d x S1 G1 H1 R1 s1 p1 h1 => ?_
  refine tX.bind (Pa := PO1) pfM R1 h1 fun l lv S2 G2 H2 R2 s2 p2 h2 => ?_
  cases (show lv = l from p2)
  refine tX.bind (Pa := PO1) pfM R2 h2 fun u uv S3 G3 H3 R3 s3 p3 h3 => ?_
  cases (show uv = u from p3)
  cases q : oCut d l u with
  | none => rw [q] at h3; exact h3.elim
  | some z =>
    rw [q] at h3
    have p1' := RepT.stp p1 (s2.trans s3)
    have lists : ∀ z, oCutL d l u = some z → (∀ v G' H', Rel X.K cl G0 H0 S3 ρ G' σ H' → Stp G3 H3 G' H' → PF X.K cl G3 H3 G' H' z v → Q v H') → rSlAll X.K x l u H3 Q := fun z q k => by
      refine .inl (cut_list R3 p1' q fun v G' H' R' s ⟨a, as, e, n, hn⟩ => ?_)
      subst e
      obtain ⟨R2', s2', rp⟩ := R'.freeze R3.stp s n hn
      exact k _ _ _ R2' s2' rp
    cases d <;> simp only [oCut, reduceCtorEq] at q
    · rename_i y
      split at q
      · cases q
        exact .inr (.inr ⟨y, p1'.str, lim_ok (by assumption), h3 _ G3 H3 R3 (Stp.refl _ _) (.str _)⟩)
      · cases q
    · exact lists z q fun v G' H' R' s' p' => h3 v G' H' R' s' p'
    · rename_i xs
      cases q
      obtain ⟨a1, vs, rfl, h1, r1⟩ := p1'.tup R3.ok.zsub
      refine .inr (.inl ⟨a1, vs, rfl, h1, fun hw => ?_, fun hw p hp => ?_⟩)
      · have e : cutD xs l u = xs := by
          unfold cutD
          rw [← r1.length, hw.1, hw.2, List.drop_zero, Nat.sub_zero, r1.length, List.take_length]
        rw [e] at h3
        rcases p1' with p | ⟨_, _, _, c, _⟩
        · exact h3 _ G3 H3 R3 (Stp.refl _ _) p
        · cases c
      · obtain ⟨R', s', n⟩ := R3.newF hp (.tup (cutV vs l u))
        exact h3 _ _ _ R' s' (.tup (.inl (.inl n)) (RepAll.mono s'.z s'.mu _ _ (r1.cut l u)))
    · exact lists z q fun v G' H' R' s' p' => h3 v G' H' R' s' p'

/-! ### built-in functions by values -/
def CallS (X : Cx) (cl : Nat → Addr) (bm : List Bool) (r : List V → Hp → VK → Prop) (f : List D → Option D) (P : Post D V) : Prop :=
  ∀ {G0 : Gh} {H0 : Hp} {S : Store} {ρ : Env} {G : Gh} {σ : L2.St} {H : Hp} {vs : List V} {ds : List D} {z : D} {Q : VK}, Rel X.K cl G0 H0 S ρ G σ H → ArgsOk X.K cl G H bm vs ds → f ds = some z →
    (∀ v G' H', Rel X.K cl G0 H0 S ρ G' σ H' → Stp G H G' H' → P G H G' H' z v → Q v H') → r vs H Q
def eFn (f : List D → Option D) (ca : Ax) : Ex := fun ρ S => (ca ρ S).bind fun ds S => Res.opt (f ds) S
theorem fn_sem {bm : List Bool} {r : List V → Hp → VK → Prop} {f : List D → Option D} {P : Post D V} {ca : Ax} (hP : PostM P) (hs : CallS X cl bm r f P) {σ : L2.St} {H : Hp} {Q : VK} (h : tX X.K cl P W (eFn f ca) σ H Q) : tCB r (tX X.K cl (PA1 X.K cl bm) W ca) σ H Q := by
  obtain ⟨G0, H0, S, ρ, G, R, h⟩ := h
  refine tX.bind (Pa := PA1 X.K cl bm) hP R h fun ds vs S1 G1 H1 R1 s1 p1 h1 => ?_
  cases q : f ds with
  | none => rw [q] at h1; exact h1.elim
  | some z =>
    rw [q] at h1
    exact hs R1 p1 q fun v G' H' R' s' p' => h1 v G' H' R' s' p'
section
variable {x : Str} {p : Pos} {id T : String} {bm : List Bool} {r : List V → Hp → VK → Prop} {f : List D → Option D} {P : Post D V} {ax : Ax}
theorem sx_callB (hP : PostM P) (hc : CallR X (.builtin id) r) (hs : CallS X cl bm r f P) (hg : Gl X x) (hm : X.mg x = none) (hv : bootBuiltins x = some (.builtin id)) (ha : SA X cl W bm (e :: es) ax) (hn : x ≠ "__name__" := by decide) (hdb : (x == ("__debug__" : Str)) = false := by decide)
    (he : starEach (e :: es) X.env = (false, eval e X.env) :: starEach es X.env := by rfl) (hpl : (backTo pos (starEach es X.env)).any (·.1) = false := by rfl) : PE X (.Call (.Name x p) (e :: es) [] pos) (tX X.K cl P W (eFn f ax)) :=
  PE.weak (pe_callB hc hg hm hv ha hn hdb he hpl) fun σ H Q h => fn_sem hP hs h
theorem sx_callTy (hP : PostM P) (hc : CallR X (.type T) r) (hs : CallS X cl bm r f P) (hg : Gl X x) (hm : X.mg x = none) (hv : bootBuiltins x = some (.type T)) (ha : SA X cl W bm (e :: es) ax) (hn : x ≠ "__name__" := by decide) (hdb : (x == ("__debug__" : Str)) = false := by decide)
    (he : starEach (e :: es) X.env = (false, eval e X.env) :: starEach es X.env := by rfl) (hpl : (backTo pos (starEach es X.env)).any (·.1) = false := by rfl) : PE X (.Call (.Name x p) (e :: es) [] pos) (tX X.K cl P W (eFn f ax)) :=
  PE.weak (pe_callTy hc hg hm hv ha hn hdb he hpl) fun σ H Q h => fn_sem hP hs h
end
theorem ArgsOk.one {K : PySem.W.Frag} {G : Gh} {H : Hp} {vs : List V} {d : D} (h : ArgsOk K cl G H [true] vs [d]) : ∃ v, vs = [v] ∧ RepT K cl G H v d := by
  cases h with
  | bo h t => cases t; exact ⟨_, rfl, h⟩
theorem ArgsOk.two {K : PySem.W.Frag} {G : Gh} {H : Hp} {vs : List V} {d d' : D} (h : ArgsOk K cl G H [true, true] vs [d, d']) : ∃ v v', vs = [v, v'] ∧ RepT K cl G H v d ∧ RepT K cl G H v' d' := by
  cases h with
  | bo h t =>
    obtain ⟨v', rfl, h'⟩ := t.one
    exact ⟨_, v', rfl, h, h'⟩
def fLen : List D → Option D
  | [.str x] => if x.length ≤ 1000000 then some (.int x.length) else none
  | [.lst xs] => some (.int xs.length)
  | [.tup xs] => some (.int xs.length)
  | [.scr xs] => some (.int xs.length)
  | _ => none
theorem cs_len : CallS X cl [true] (fun xs H Q => ∃ x n, xs = [x] ∧ LenV X.K x H n ∧ Q (.int n) H) fLen (PF X.K cl) := fun {G0 H0 S ρ G σ H vs ds z Q} R p q k => by
  unfold fLen at q
  split at q
  · split at q
    · cases q
      obtain ⟨v, rfl, h⟩ := p.one
      exact ⟨v, _, rfl, by rw [h.str]; exact ⟨lim_ok (by assumption), rfl⟩, k _ G H R (Stp.refl _ _) (.int _)⟩
    · cases q
  · cases q
    obtain ⟨v, rfl, h⟩ := p.one
    obtain ⟨a1, vs, rfl, h1, r1⟩ := h.lst R.ok.zsub
    exact ⟨_, _, rfl, .inl ⟨vs, .inl (.inl h1), rfl⟩, by rw [r1.length]; exact k _ G H R (Stp.refl _ _) (.int _)⟩
  · cases q
    obtain ⟨v, rfl, h⟩ := p.one
    obtain ⟨a1, vs, rfl, h1, r1⟩ := h.tup R.ok.zsub
    exact ⟨_, _, rfl, .inr ⟨vs, h1, rfl⟩, by rw [r1.length]; exact k _ G H R (Stp.refl _ _) (.int _)⟩
  · rename_i xs
    cases q
    obtain ⟨v, rfl, h⟩ := p.one
    obtain ⟨a1, rfl, h1⟩ := h.scr R.ok.zsub
    exact ⟨_, xs.length, rfl, .inl ⟨_, h1, by rw [List.length_map]⟩, k _ G H R (Stp.refl _ _) (.int _)⟩
  · cases q
/-- list(x) -/
def fList : List D → Option D
  | [.lst xs] => some (.lst xs)
  | [.tup xs] => some (.lst xs)
  | [.scr xs] => some (.lst (xs.map .int))
  | _ => none
theorem cs_list : CallS X cl [true] (fun xs H Q => ∃ p ys, xs = [.ref p] ∧ (SqL X.K H p ys ∨ SqT X.K H p ys) ∧ ∀ l, H l = none → Q (.ref l) (upd H l (.lst ys))) fList (PN X.K cl) := fun {G0 H0 S ρ G σ H vs ds z Q} R p q k => by
  unfold fList at q
  split at q
  · cases q
    obtain ⟨v, rfl, h⟩ := p.one
    obtain ⟨a1, vs, rfl, h1, r1⟩ := h.lst R.ok.zsub
    refine ⟨a1, vs, rfl, .inl (.inl (.inl h1)), fun l hl => ?_⟩
    obtain ⟨R', s', n⟩ := R.newL hl r1
    exact k _ _ _ R' s' ⟨l, [l], rfl, n, fun b hb => by simp at hb; subst hb; exact hl⟩
  · cases q
    obtain ⟨v, rfl, h⟩ := p.one
    obtain ⟨a1, vs, rfl, h1, r1⟩ := h.tup R.ok.zsub
    refine ⟨a1, vs, rfl, .inr h1, fun l hl => ?_⟩
    obtain ⟨R', s', n⟩ := R.newL hl r1
    exact k _ _ _ R' s' ⟨l, [l], rfl, n, fun b hb => by simp at hb; subst hb; exact hl⟩
  · rename_i xs
    cases q
    obtain ⟨v, rfl, h⟩ := p.one
    obtain ⟨a1, rfl, h1⟩ := h.scr R.ok.zsub
    refine ⟨a1, _, rfl, .inl h1, fun l hl => ?_⟩
    obtain ⟨R', s', n⟩ := R.newL hl (RepAll.ints (K := X.K) (cl := cl) xs)
    exact k _ _ _ R' s' ⟨l, [l], rfl, n, fun b hb => by simp at hb; subst hb; exact hl⟩
  · cases q
/-- tuple(x) -/
def fTuple : List D → Option D
  | [.lst xs] => some (.tup xs)
  | [.tup xs] => some (.tup xs)
  | _ => none
theorem cs_tuple : CallS X cl [true] (fun xs H Q => ∃ p ys, xs = [.ref p] ∧ ((SqL X.K H p ys ∧ ∀ l, H l = none → Q (.ref l) (upd H l (.tup ys))) ∨ (SqT X.K H p ys ∧ Q (.ref p) H))) fTuple (PF X.K cl) := fun {G0 H0 S ρ G σ H vs ds z Q} R p q k => by
  unfold fTuple at q
  split at q
  · cases q
    obtain ⟨v, rfl, h⟩ := p.one
    obtain ⟨a1, vs, rfl, h1, r1⟩ := h.lst R.ok.zsub
    refine ⟨a1, vs, rfl, .inl ⟨.inl (.inl h1), fun l hl => ?_⟩⟩
    obtain ⟨R', s', n⟩ := R.newF hl (.tup vs)
    exact k _ _ _ R' s' (.tup (.inl (.inl n)) (RepAll.mono s'.z s'.mu _ _ r1))
  · cases q
    obtain ⟨v, rfl, h⟩ := p.one
    obtain ⟨a1, vs, rfl, h1, r1⟩ := h.tup R.ok.zsub
    refine ⟨a1, vs, rfl, .inr ⟨h1, ?_⟩⟩
    rcases h with h | ⟨_, _, _, c, _⟩
    · exact k _ G H R (Stp.refl _ _) h
    · cases c
  · cases q
/-- int(x) -/
def fInt : List D → Option D
  | [.int i] => some (.int i)
  | [.bl b] => some (.int (if b then 1 else 0))
  | [.str x] => if x.length ≤ 640 then (PySem.intText? x).map .int else none
  | _ => none
def rIntAll : List V → Hp → VK → Prop := fun xs H Q => ((∃ i, xs = [.int i] ∧ Q (.int i) H) ∨ ∃ k, xs = [.bl k] ∧ Q (.int (if k then 1 else 0)) H) ∨ (∃ a n, xs = [.str a] ∧ PySem.intText? a = some n ∧ a.length ≤ 640 ∧ Q (.int n) H)
theorem call_intAll : CallR X (.type "int") rIntAll := CallR.or call_int1 call_int_str
theorem cs_int : CallS X cl [true] rIntAll fInt (PF X.K cl) := fun {G0 H0 S ρ G σ H vs ds z Q} R p q k => by
  unfold fInt at q
  split at q
  · cases q
    obtain ⟨v, rfl, h⟩ := p.one
    exact .inl (.inl ⟨_, by rw [h.int], k _ G H R (Stp.refl _ _) (.int _)⟩)
  · cases q
    obtain ⟨v, rfl, h⟩ := p.one
    exact .inl (.inr ⟨_, by rw [h.bl], k _ G H R (Stp.refl _ _) (.int _)⟩)
  · rename_i x
    split at q
    · obtain ⟨v, rfl, h⟩ := p.one
      cases q1 : PySem.intText? x with
      | none => rw [q1] at q; cases q
      | some n =>
        rw [q1] at q
        cases q
        exact .inr ⟨x, n, by rw [h.str], q1, by assumption, k _ G H R (Stp.refl _ _) (.int _)⟩
    · cases q
  · cases q
/-- str(i) -/
def fStr : List D → Option D
  | [.int i] => if i.natAbs < 2 ^ 1900 then some (.str (toString i)) else none
  | _ => none
theorem cs_str : CallS X cl [true] (fun xs H Q => ∃ i, xs = [.int i] ∧ i.natAbs.log2 < 1920 ∧ Q (.str (toString i)) H) fStr (PF X.K cl) := fun {G0 H0 S ρ G σ H vs ds z Q} R p q k => by
  unfold fStr at q
  split at q
  · rename_i i
    split at q
    · rename_i hz
      cases q
      obtain ⟨v, rfl, h⟩ := p.one
      refine ⟨i, by rw [h.int], ?_, k _ G H R (Stp.refl _ _) (.str _)⟩
      by_cases h0 : i.natAbs = 0
      · rw [h0]; decide
      · exact Nat.lt_of_lt_of_le ((Nat.log2_lt h0).mpr hz) (by decide)
    · cases q
  · cases q
/-- isinstance(x, T), T a built-in type -/
def D.isT (T : String) : D → Option Bool
  | .non => some false
  | .bl _ => some (T == "bool" || T == "int")
  | .int _ => some (T == "int")
  | .str _ => some (T == "str")
  | .lst _ => some (T == "list")
  | .scr _ => some (T == "list")
  | .tup _ => some (T == "tuple")
  | .dic _ => some (T == "dict")
  | _ => none
def D.ty : D → Option String
  | .non => some "NoneType"
  | .bl _ => some "bool"
  | .int _ => some "int"
  | .str _ => some "str"
  | .lst _ => some "list"
  | .scr _ => some "list"
  | .tup _ => some "tuple"
  | .dic _ => some "dict"
  | _ => none
theorem RepT.ty {K : PySem.W.Frag} {G : Gh} {H : Hp} {v : V} {d : D} {t : String} (h : RepT K cl G H v d) (zs : Same G.Z H) (e : d.ty = some t) : TyX K H v (.type t) := by
  cases d with
  | non => rw [h.non]; cases e; exact .base .non
  | bl b => rw [h.bl]; cases e; exact .base (.bl _)
  | int i => rw [h.int]; cases e; exact .base (.int _)
  | str x => rw [h.str]; cases e; exact .base (.str _)
  | lst xs =>
    obtain ⟨p, vs, rfl, h1, r⟩ := h.lst zs
    cases e
    exact .base (.lst h1)
  | tup xs =>
    obtain ⟨p, vs, rfl, h1, r⟩ := h.tup zs
    cases e
    rcases h1 with (h1 | ⟨o, h1⟩) | ⟨o, its, n, h1, h2, _⟩
    · exact .base (.tup h1)
    · exact .fTuple h1
    · exact .kTuple h1 h2
  | scr xs =>
    obtain ⟨p, rfl, h1⟩ := h.scr zs
    cases e
    rcases h1 with (h1 | ⟨o, h1⟩) | ⟨o, its, n, h1, h2, _⟩
    · exact .base (.lst h1)
    · exact .base (.frz h1)
    · exact .kList h1 h2
  | dic kvs =>
    obtain ⟨p, vs, rfl, h1, r⟩ := h.dic zs
    cases e
    exact .base (.dK h1)
  | obj c fs => simp only [D.ty, reduceCtorEq] at e
  | rf n => simp only [D.ty, reduceCtorEq] at e
theorem isT_ty {T : String} (hT : T = "int" ∨ T = "bool" ∨ T = "str" ∨ T = "list" ∨ T = "tuple") {d : D} {k : Bool} (h : d.isT T = some k) : ∃ t, d.ty = some t ∧ ∀ K : PySem.W.Frag, PySem.W.kitOne K (.type t) (.type T) = some k := by
  cases d <;> simp only [D.isT, reduceCtorEq] at h <;> cases h <;> refine ⟨_, rfl, fun K => kit_ty ?_⟩ <;> rcases hT with rfl | rfl | rfl | rfl | rfl <;> decide +kernel
def eIsT (T : String) (ca : Ex) : Ex := fun ρ S => (ca ρ S).bind fun d S => Res.opt ((d.isT T).map .bl) S
theorem se_isT {x y : Str} {p p2 : Pos} {T : String} (hT : T = "int" ∨ T = "bool" ∨ T = "str" ∨ T = "list" ∨ T = "tuple") (hg : Gl X x) (hm : X.mg x = none) (hv : bootBuiltins x = some (.builtin "isinstance")) (ha : SB X cl W a ca)
    (hg2 : Gl X y) (hm2 : X.mg y = none) (hv2 : bootBuiltins y = some (.type T)) (hn2 : y ≠ "__name__" := by decide) (hd2 : (y == ("__debug__" : Str)) = false := by decide) (hn : x ≠ "__name__" := by decide) (hdb : (x == ("__debug__" : Str)) = false := by decide)
    (he : starEach [a, .Name y p2] X.env = (false, eval a X.env) :: starEach [.Name y p2] X.env := by rfl) (he2 : starEach [.Name y p2] X.env = (false, eval (.Name y p2) X.env) :: starEach [] X.env := by rfl) (hpl : (backTo pos (starEach [.Name y p2] X.env)).any (·.1) = false := by rfl) : SE X cl W (.Call (.Name x p) [a, .Name y p2] [] pos) (eIsT T ca) :=
  PE.weak (pe_callB call_isi hg hm hv (pa_cons ha (pa_cons (pe_bltn hg2 hm2 hv2 (v := .ty T) rfl hn2 hd2) pa_nil he2) he) hn hdb he hpl) fun σ H Q ⟨G0, H0, S, ρ, G, R, h⟩ => by
    refine tX.bind (Pa := PB X.K cl) pfM R h fun d x S1 G1 H1 R1 s1 p1 h1 => ?_
    cases q : d.isT T with
    | none => rw [q] at h1; exact h1.elim
    | some k =>
      rw [q] at h1
      obtain ⟨t, ht, hk⟩ := isT_ty hT q
      exact ⟨x, .ty T, _, _, k, rfl, .ty T, RepT.ty p1 R1.ok.zsub ht, hk _, h1 _ G1 H1 R1 (Stp.refl _ _) (.bl _)⟩
end
end PM
set_option maxHeartbeats 1000000
/-! PM6: statements told of data: names, owned lists, if, return. -/
namespace PM
open PySem PySem.Spec PyProof.Rows L2

inductive SR where
  | nx (ρ : Env) (S : Store) | rt (v : Val) (S : Store) | bk (ρ : Env) (S : Store) | ct (ρ : Env) (S : Store) | exc (n : Nat) (ρ : Env) (S : Store) | stuck
abbrev Stm := Env → Store → SR

section
variable (K : PySem.W.Frag) (cl : Nat → Addr)
structure Zle (G G' : Gh) : Prop where
  z : Same G.Z G'.Z
  mu : ∃ t, G'.mu = G.mu ++ t
def StOnly (G : Gh) : Prop := ∀ a l, G.lab a = some l → l.st = true
def RtOk (G0 : Gh) (H0 : Hp) (S : Store) (v : Val) (Q : VK) : Prop :=
  match v with
  | .fr d => ∀ v G H, GOk K cl S G H → StOnly G → Stp G0 H0 G H → RepG K cl G v d → Q v H
  | .ow d => ∀ a as G H, GOk K cl S G H → StOnly G → Stp G0 H0 G H → NewAt K cl G H a d as → (∀ b ∈ as, H0 b = none) → Q (.ref a) H
def AftS (W : WX) (G0 : Gh) (H0 : Hp) (G : Gh) (D : Ends) (r : SR) : Prop :=
  match r with
  | .nx ρ S => ∀ G' σ' H', Rel K cl G0 H0 S ρ G' σ' H' → Zle G G' → D.nx σ' H'
  | .bk ρ S => ∀ G' σ' H', Rel K cl G0 H0 S ρ G' σ' H' → Zle G G' → D.bk σ' H'
  | .ct ρ S => ∀ G' σ' H', Rel K cl G0 H0 S ρ G' σ' H' → Zle G G' → D.ct σ' H'
  | .rt v S => RtOk K cl G0 H0 S v D.rt
  | .exc n ρ S => ∀ G' σ' H', Rel K cl G0 H0 S ρ G' σ' H' → Zle G G' → W (.ref (cl n)) none σ' H'
  | .stuck => False
def tS (W : WX) (c : Stm) : TS := fun D σ H => ∃ (G0 : Gh) (H0 : Hp) (S : Store) (ρ : Env) (G : Gh), Rel K cl G0 H0 S ρ G σ H ∧ AftS K cl W G0 H0 G D (c ρ S)
end
abbrev SS (X : Cx) (cl : Nat → Addr) (W : WX) (st : Stmt) (c : Stm) : Prop := PS X st (tS X.K cl W c)
abbrev SSs (X : Cx) (cl : Nat → Addr) (W : WX) (st : List Stmt) (c : Stm) : Prop := PSs X st (tS X.K cl W c)

section
variable {K : PySem.W.Frag} {cl : Nat → Addr} {W : WX} {G0 G G' G1 : Gh} {H0 H H' H1 : Hp} {S S' : Store} {ρ ρ' : Env} {σ : L2.St} {v : V} {d : D} {a : Addr} {as : List Addr} {i : Nat}
theorem Zle.refl (G : Gh) : Zle G G := ⟨Same.refl _, ⟨[], by simp⟩⟩
theorem Zle.trans (a : Zle G G1) (b : Zle G1 G') : Zle G G' := ⟨a.z.trans b.z, by obtain ⟨t, e⟩ := a.mu; obtain ⟨u, f⟩ := b.mu; exact ⟨t ++ u, by rw [f, e, List.append_assoc]⟩⟩
theorem Stp.zle (s : Stp G H G' H') : Zle G G' := ⟨s.z, s.mu⟩
theorem AftS.pre {D : Ends} {r : SR} (h : AftS K cl W G0 H0 G D r) (s : Zle G G1) : AftS K cl W G0 H0 G1 D r := by
  cases r with
  | nx ρ S => exact fun G' σ' H' R z => h G' σ' H' R (s.trans z)
  | bk ρ S => exact fun G' σ' H' R z => h G' σ' H' R (s.trans z)
  | ct ρ S => exact fun G' σ' H' R z => h G' σ' H' R (s.trans z)
  | rt v S => exact h
  | exc n ρ S => exact fun G' σ' H' R z => h G' σ' H' R (s.trans z)
  | stuck => exact h
theorem set_slot {ρ : List Slot} {σ : L2.St} (len : ρ.length = σ.length) {i j : Nat} {s s' : Slot} {o : Option V} {P : Nat → Slot → Option V → Prop} (h : (ρ.set i s)[j]? = some s') (hi : P i s o) (hj : ∀ s', j ≠ i → ρ[j]? = some s' → ∃ o, σ[j]? = some o ∧ P j s' o) : ∃ o', (σ.set i o)[j]? = some o' ∧ P j s' o' := by
  by_cases e : j = i
  · subst e
    have hl : j < ρ.length := by
      rcases Nat.lt_or_ge j ρ.length with h1 | h1
      · exact h1
      · rw [List.getElem?_eq_none (by simpa using h1)] at h; cases h
    rw [List.getElem?_set_self hl] at h
    cases h
    exact ⟨o, List.getElem?_set_self (by rw [← len]; exact hl), hi⟩
  · rw [List.getElem?_set_ne (Ne.symm e)] at h
    obtain ⟨o', h1, h2⟩ := hj s' e h
    exact ⟨o', by rw [List.getElem?_set_ne (Ne.symm e)]; exact h1, h2⟩
/-- a slot takes a frozen value -/
theorem Rel.setF (R : Rel K cl G0 H0 S ρ G σ H) (i : Nat) (r : RepG K cl G v d) : Rel K cl G0 H0 S (ρ.set i (.fr d)) G (σ.set i (some v)) H :=
  ⟨R.ok, by rw [List.length_set, List.length_set]; exact R.len, fun j s h => set_slot (P := fun j s o => SlotOk K cl G0 H0 G H (.slot j) s o) R.len h ⟨v, rfl, r⟩ fun s' _ e => R.slot j s' e, R.stp, R.s0⟩
theorem Rel.setU (R : Rel K cl G0 H0 S ρ G σ H) (i : Nat) (o : Option V) : Rel K cl G0 H0 S (ρ.set i .un) G (σ.set i o) H :=
  ⟨R.ok, by rw [List.length_set, List.length_set]; exact R.len, fun j s h => set_slot (P := fun j s o => SlotOk K cl G0 H0 G H (.slot j) s o) R.len h trivial fun s' _ e => R.slot j s' e, R.stp, R.s0⟩
/-- forgetting a slot -/
theorem Rel.drop1 (R : Rel K cl G0 H0 S ρ G σ H) (i : Nat) : Rel K cl G0 H0 S (ρ.set i .un) G σ H :=
  ⟨R.ok, by rw [List.length_set]; exact R.len, fun j s h => by
    by_cases e : j = i
    · subst e
      have hl : j < ρ.length := by
        rcases Nat.lt_or_ge j ρ.length with h1 | h1
        · exact h1
        · rw [List.getElem?_eq_none (by simpa using h1)] at h; cases h
      rw [List.getElem?_set_self hl] at h
      cases h
      exact ⟨σ[j]'(by rw [← R.len]; exact hl), List.getElem?_eq_getElem _, trivial⟩
    · rw [List.getElem?_set_ne (Ne.symm e)] at h
      exact R.slot j s h, R.stp, R.s0⟩
def Gh.own (G : Gh) (as : List Addr) (l : Lab) : Gh := { G with lab := fun b => if b ∈ as then some l else G.lab b }
theorem own_in {b : Addr} {l : Lab} (hb : b ∈ as) : (G.own as l).lab b = some l := by
  show (if b ∈ as then some l else G.lab b) = some l
  rw [if_pos hb]
theorem own_out {b : Addr} {l : Lab} (hb : b ∉ as) : (G.own as l).lab b = G.lab b := by
  show (if b ∈ as then some l else G.lab b) = G.lab b
  rw [if_neg hb]
/-- a slot takes a new thing -/
theorem Rel.setN (R : Rel K cl G0 H0 S ρ G σ H) (i : Nat) (n : NewAt K cl G H a d as) (hn : ∀ b ∈ as, H0 b = none) : Rel K cl G0 H0 S (ρ.set i (.ow d)) (G.own as (.slot i)) (σ.set i (some (.ref a))) H := by
  obtain ⟨c, q⟩ := n
  have lab : ∀ b l, G.lab b = some l → (G.own as (.slot i)).lab b = some l := fun b l e => by
    rw [own_out fun hb => by rw [(q b hb).1] at e; cases e]
    exact e
  have labn : ∀ b l, (G.own as (.slot i)).lab b = some l → G.lab b = some l ∨ b ∈ as := fun b l e => by
    by_cases hb : b ∈ as
    · exact .inr hb
    · rw [own_out hb] at e; exact .inl e
  refine ⟨⟨R.ok.zsub, fun b l e => ?_, fun n c e => (R.ok.st n c e).mono (fun _ _ _ _ _ e => e) (Same.refl _) (fun b l e _ => lab b l e) ⟨[], by simp [Gh.own]⟩, R.ok.stn⟩, by rw [List.length_set, List.length_set]; exact R.len,
    fun j s h => set_slot (P := fun j s o => SlotOk K cl G0 H0 (G.own as (.slot i)) H (.slot j) s o) R.len h ⟨_, rfl, a, as, rfl, c, fun b hb => own_in hb⟩ fun s' _ e => ?_, ⟨R.stp.z, fun b l e => lab b l (R.stp.lab b l e), R.stp.keep, fun b l e => ?_, R.stp.zn, R.stp.mu, R.stp.dom⟩, R.s0⟩
  · rcases labn b l e with h | h
    · exact R.ok.labz b l h
    · exact ⟨(q b h).2, c.there b h⟩
  · obtain ⟨o, h1, h2⟩ := R.slot j s' e
    exact ⟨o, h1, h2.mono (fun _ _ _ e => e) (Same.refl _) (fun b e => lab b _ e) ⟨[], by simp [Gh.own]⟩⟩
  · rcases labn b l e with h | h
    · exact R.stp.labn b l h
    · exact .inr (hn b h)
/-- what a slot owns is new since the entry -/
theorem Rel.ownNew (R : Rel K cl G0 H0 S ρ G σ H) {b : Addr} (h : G.lab b = some (.slot i)) : H0 b = none := by
  rcases R.stp.labn b _ h with q | q
  · exact absurd (R.s0 b _ q) (by simp [Lab.st])
  · exact q
/-- a slot's thing is frozen -/
noncomputable def Gh.frz (G : Gh) (H : Hp) (as : List Addr) : Gh := { G with Z := fun b => if b ∈ as then H b else G.Z b, lab := fun b => if b ∈ as then none else G.lab b }
theorem Rel.thaw (R : Rel K cl G0 H0 S ρ G σ H) (e : ρ[i]? = some (.ow d)) : ∃ G', Rel K cl G0 H0 S (ρ.set i (.fr d)) G' σ H ∧ Zle G G' := by
  obtain ⟨o, ho, v, rfl, a, as, rfl, c, hl⟩ := R.slot i _ e
  have nz : ∀ b ∈ as, G.Z b = none := fun b hb => (R.ok.labz b _ (hl b hb)).1
  have hz : Same G.Z (G.frz H as).Z := fun b o e => by
    show (if b ∈ as then H b else G.Z b) = some o
    rw [if_neg fun hb => by rw [nz b hb] at e; cases e]
    exact e
  have out : ∀ b l, G.lab b = some l → l ≠ .slot i → (G.frz H as).lab b = some l := fun b l e hne => by
    show (if b ∈ as then none else G.lab b) = some l
    rw [if_neg fun hb => by rw [hl b hb] at e; cases e; exact hne rfl]
    exact e
  have zn : ∀ b o, (G.frz H as).Z b = some o → (b ∈ as ∧ H b = some o) ∨ G.Z b = some o := fun b o e => by
    have e' : (if b ∈ as then H b else G.Z b) = some o := e
    by_cases hb : b ∈ as
    · rw [if_pos hb] at e'; exact .inl ⟨hb, e'⟩
    · rw [if_neg hb] at e'; exact .inr e'
  have ln : ∀ b l, (G.frz H as).lab b = some l → b ∉ as ∧ G.lab b = some l := fun b l e => by
    have e' : (if b ∈ as then none else G.lab b) = some l := e
    by_cases hb : b ∈ as
    · rw [if_pos hb] at e'; cases e'
    · rw [if_neg hb] at e'; exact ⟨hb, e'⟩
  have sk : ∀ l : Lab, l.st = true → l ≠ .slot i := fun l h e => by subst e; simp [Lab.st] at h
  refine ⟨G.frz H as, ⟨⟨fun b o e => ?_, fun b l e => ?_, fun n c e => (R.ok.st n c e).mono (fun _ _ _ _ _ e => e) hz (fun b l e h => out b l e (sk l h)) ⟨[], by simp [Gh.frz]⟩, R.ok.stn⟩, by rw [List.length_set]; exact R.len, fun j s h => ?_, ⟨R.stp.z.trans hz, fun b l e => out b l (R.stp.lab b l e) (sk l (R.s0 b l e)), R.stp.keep, fun b l e => R.stp.labn b l (ln b l e).2, fun b o e => ?_, R.stp.mu, R.stp.dom⟩, R.s0⟩, ⟨hz, ⟨[], by simp [Gh.frz]⟩⟩⟩
  · rcases zn b o e with ⟨_, h⟩ | h
    · exact h
    · exact R.ok.zsub b o h
  · obtain ⟨hb, e'⟩ := ln b l e
    obtain ⟨h1, h2⟩ := R.ok.labz b l e'
    refine ⟨?_, h2⟩
    show (if b ∈ as then H b else G.Z b) = none
    rw [if_neg hb]
    exact h1
  · by_cases ej : j = i
    · subst ej
      have hlt : j < ρ.length := (List.getElem?_eq_some_iff.mp e).1
      rw [List.getElem?_set_self hlt] at h
      cases h
      refine ⟨_, ho, _, rfl, c.rep (fun b hb o e => ?_) hz⟩
      show (if b ∈ as then H b else G.Z b) = some o
      rw [if_pos hb]
      exact e
    · rw [List.getElem?_set_ne (Ne.symm ej)] at h
      obtain ⟨o, h1, h2⟩ := R.slot j s h
      exact ⟨o, h1, h2.mono (fun _ _ _ e => e) hz (fun b e => out b _ e (by intro q; cases q; exact ej rfl)) ⟨[], by simp [Gh.frz]⟩⟩
  · rcases zn b o e with ⟨hb, _⟩ | h
    · exact .inr (R.ownNew (hl b hb))
    · exact R.stp.zn b o h
/-- what a slot owns is changed -/
theorem Rel.write (R : Rel K cl G0 H0 S ρ G σ H) (e : σ[i]? = some (some (.ref a))) (hl : ∀ b ∈ as, G.lab b = some (.slot i)) (ha : a ∈ as) {o' : HO} {d' : D} (c : ContG K cl G (upd H a o') a d' as) : Rel K cl G0 H0 S (ρ.set i (.ow d')) G σ (upd H a o') := by
  have la := hl a ha
  have oth : ∀ b l, G.lab b = some l → l ≠ .slot i → ∀ o, H b = some o → upd H a o' b = some o := fun b l h hne o ho => by
    rw [upd_ne fun q => by subst q; rw [la] at h; cases h; exact hne rfl]
    exact ho
  have zs : Same G.Z (upd H a o') := fun b o h => by
    rw [upd_ne fun q => by subst q; rw [(R.ok.labz _ _ la).1] at h; cases h]
    exact R.ok.zsub b o h
  refine ⟨⟨zs, fun b l h => ?_, fun n c e => (R.ok.st n c e).mono (fun b l h hs o ho => oth b l h (fun q => by subst q; simp [Lab.st] at hs) o ho) (Same.refl _) (fun _ _ e _ => e) ⟨[], by simp⟩, R.ok.stn⟩, by rw [List.length_set]; exact R.len, fun j s h => ?_, ⟨R.stp.z, R.stp.lab, fun b o h hs => ?_, R.stp.labn, R.stp.zn, R.stp.mu, fun b h => ?_⟩, R.s0⟩
  · obtain ⟨h1, o, h2⟩ := R.ok.labz b l h
    refine ⟨h1, ?_⟩
    by_cases q : b = a
    · subst q; exact ⟨_, upd_same⟩
    · exact ⟨o, by rw [upd_ne q]; exact h2⟩
  · by_cases ej : j = i
    · subst ej
      have hlt : j < ρ.length := by rw [R.len]; exact (List.getElem?_eq_some_iff.mp e).1
      rw [List.getElem?_set_self hlt] at h
      cases h
      exact ⟨_, e, _, rfl, a, as, rfl, c, hl⟩
    · rw [List.getElem?_set_ne (Ne.symm ej)] at h
      obtain ⟨o, h1, h2⟩ := R.slot j s h
      exact ⟨o, h1, h2.mono (fun b h o ho => oth b _ h (by intro q; cases q; exact ej rfl) o ho) (Same.refl _) (fun _ e => e) ⟨[], by simp⟩⟩
  · rw [upd_ne fun q => by subst q; rw [R.ownNew la] at h; cases h]
    exact R.stp.keep b o h hs
  · by_cases q : b = a
    · subst q; rw [upd_same] at h; cases h
    · rw [upd_ne q] at h; exact R.stp.dom b h

/-- .. of the instance that is being made -/
theorem Rel.writeMe (R : Rel K cl G0 H0 S ρ G σ H) {d : D} (q : ρ[i]? = some (.me d)) (e : σ[i]? = some (some (.ref a))) (hl : ∀ b ∈ as, G.lab b = some (.slot i)) (ha : a ∈ as) {o' : HO} {d' : D} (c : ContG K cl G (upd H a o') a d' as) : Rel K cl G0 H0 S (ρ.set i (.me d')) G σ (upd H a o') := by
  have R' := R.write (i := i) e hl ha c
  obtain ⟨o, ho, v, rfl, _, hm⟩ := R.slot i _ q
  rw [e] at ho
  cases ho
  refine ⟨R'.ok, by rw [List.length_set]; exact R.len, fun j s h => ?_, R'.stp, R.s0⟩
  by_cases ej : j = i
  · subst ej
    have hlt : j < ρ.length := (List.getElem?_eq_some_iff.mp q).1
    rw [List.getElem?_set_self hlt] at h
    cases h
    exact ⟨_, e, _, rfl, ⟨a, as, rfl, c, hl⟩, hm⟩
  · refine R'.slot j s ?_
    rw [List.getElem?_set_ne (Ne.symm ej)] at h ⊢
    exact h
/-- leaving: the slots' labels go -/
def Gh.out (G : Gh) : Gh := { G with lab := fun b => match G.lab b with
  | some l => if l.st = true then some l else none
  | none => none }
theorem out_some {b : Addr} {l : Lab} : G.out.lab b = some l ↔ G.lab b = some l ∧ l.st = true := by
  show (match G.lab b with
    | some l => if l.st = true then some l else none
    | none => none) = some l ↔ _
  cases q : G.lab b with
  | none => simp
  | some m =>
    simp only
    constructor
    · intro h
      split at h
      · cases h; exact ⟨rfl, by assumption⟩
      · cases h
    · rintro ⟨h1, h2⟩
      cases h1
      rw [if_pos h2]
theorem out_only : StOnly G.out := fun b l h => (out_some.mp h).2
theorem Rel.leave (R : Rel K cl G0 H0 S ρ G σ H) : GOk K cl S G.out H ∧ Stp G0 H0 G.out H :=
  ⟨⟨R.ok.zsub, fun b l h => R.ok.labz b l (out_some.mp h).1, fun n c e => (R.ok.st n c e).mono (fun _ _ _ _ _ e => e) (Same.refl _) (fun b l e h => out_some.mpr ⟨e, h⟩) ⟨[], by simp [Gh.out]⟩, R.ok.stn⟩,
    ⟨R.stp.z, fun b l e => out_some.mpr ⟨R.stp.lab b l e, R.s0 b l e⟩, R.stp.keep, fun b l e => R.stp.labn b l (out_some.mp e).1, R.stp.zn, R.stp.mu, R.stp.dom⟩⟩
end

section
variable {X : Cx} {cl : Nat → Addr} {W : WX} {e : Expr} {c : Ex} {pos : Pos} {st : Stmt} {rest : List Stmt} {s1 s2 : Stm}
/-! ### blocks -/
def sNx : Stm := fun ρ S => .nx ρ S
def sSeq (a b : Stm) : Stm := fun ρ S => match a ρ S with
  | .nx ρ' S' => b ρ' S'
  | r => r
theorem ss_nil : SSs X cl W [] sNx := PSs.weak pss_nil fun D σ H ⟨G0, H0, S, ρ, G, R, h⟩ => h G σ H R (Zle.refl _)
theorem ss_cons (h1 : SS X cl W st s1) (h2 : SSs X cl W rest s2) : SSs X cl W (st :: rest) (sSeq s1 s2) := PSs.weak (pss_cons h1 h2) fun D σ H ⟨G0, H0, S, ρ, G, R, h⟩ => by
  refine ⟨G0, H0, S, ρ, G, R, ?_⟩
  unfold sSeq at h
  cases q : s1 ρ S with
  | nx ρ' S' =>
    rw [q] at h
    exact fun G' σ' H' R' z => ⟨G0, H0, S', ρ', G', R', h.pre z⟩
  | rt v S' => rw [q] at h; exact h
  | bk ρ' S' => rw [q] at h; exact h
  | ct ρ' S' => rw [q] at h; exact h
  | exc n ρ' S' => rw [q] at h; exact h
  | stuck => rw [q] at h; exact h
theorem ss_one (h1 : SS X cl W st s1) : SSs X cl W [st] s1 := pss_one h1
/-- a step of the ghost ahead of a block: a name's thing is frozen -/
def sFz (i : Nat) : Stm := fun ρ S => match ρ[i]? with
  | some (.ow d) => .nx (ρ.set i (.fr d)) S
  | some (.fr _) => .nx ρ S
  | _ => .stuck
theorem fz_sem (i : Nat) {D : Ends} {σ : L2.St} {H : Hp} (h : tS X.K cl W (sSeq (sFz i) s1) D σ H) : tS X.K cl W s1 D σ H := by
  obtain ⟨G0, H0, S, ρ, G, R, h⟩ := h
  unfold sSeq sFz at h
  cases q : ρ[i]? with
  | none => simp only [q, AftS] at h
  | some s =>
    cases s with
    | fr d => simp only [q] at h; exact ⟨G0, H0, S, ρ, G, R, h⟩
    | ow d =>
      simp only [q] at h
      obtain ⟨G', R', z⟩ := R.thaw q
      exact ⟨G0, H0, S, _, G', R', h.pre z⟩
    | un => simp only [q, AftS] at h
    | bo d => simp only [q, AftS] at h
    | me d => simp only [q, AftS] at h
theorem ss_fz {i : Nat} (h : SSs X cl W rest s1) : SSs X cl W rest (sSeq (sFz i) s1) := PSs.weak h fun D σ H q => fz_sem i q
def sPass : Stm := fun ρ S => .nx ρ S
def sBrk : Stm := fun ρ S => .bk ρ S
def sCnt : Stm := fun ρ S => .ct ρ S
theorem ss_pass : SS X cl W (.Pass pos) sPass := PS.weak ps_pass fun D σ H ⟨G0, H0, S, ρ, G, R, h⟩ => h G σ H R (Zle.refl _)
theorem ss_doc {x j pos'} : SS X cl W (.Expr (.Constant (.str x) j pos) pos') sPass := PS.weak ps_doc fun D σ H ⟨G0, H0, S, ρ, G, R, h⟩ => h G σ H R (Zle.refl _)
theorem ss_brk : SS X cl W (.Break pos) sBrk := PS.weak ps_break fun D σ H ⟨G0, H0, S, ρ, G, R, h⟩ => h G σ H R (Zle.refl _)
theorem ss_cnt : SS X cl W (.Continue pos) sCnt := PS.weak ps_continue fun D σ H ⟨G0, H0, S, ρ, G, R, h⟩ => h G σ H R (Zle.refl _)

/-- a statement that begins with an expression -/
def sEx {α : Type} (c : Env → Store → Res α) (k : α → Stm) : Stm := fun ρ S => match c ρ S with
  | .ok d S' => k d ρ S'
  | .exc n S' => .exc n ρ S'
  | .stuck => .stuck
theorem sEx_sem {α β : Type} {P : Post α β} {c : Env → Store → Res α} {k : α → Stm} {D : Ends} {σ : L2.St} {H : Hp} {M : β → Hp → Prop} (h : tS X.K cl W (sEx c k) D σ H)
    (hk : ∀ G0 H0 S' ρ G d v G' H', Rel X.K cl G0 H0 S' ρ G' σ H' → Stp G0 H0 G H → Stp G H G' H' → P G H G' H' d v → AftS X.K cl W G0 H0 G' D (k d ρ S') → M v H') : tX X.K cl P W c σ H M := by
  obtain ⟨G0, H0, S, ρ, G, R, h⟩ := h
  refine ⟨G0, H0, S, ρ, G, R, ?_⟩
  unfold sEx at h
  cases q : c ρ S with
  | ok d S' =>
    rw [q] at h
    exact fun v G' H' R' s p => hk G0 H0 S' ρ G d v G' H' R' R.stp s p (h.pre s.zle)
  | exc n S' =>
    rw [q] at h
    exact fun G' H' R' s => h G' σ H' R' s.zle
  | stuck => rw [q] at h; exact h
def sDrop (c : Ex) : Stm := sEx c fun _ ρ S => .nx ρ S
theorem ss_drop {P : Post D V} (he : PE X e (tX X.K cl P W c)) (hs : swapsWith e none pos.line X.env = pure false := by rfl) : SS X cl W (.Expr e pos) (sDrop c) := PS.weak (ps_expr he hs) fun D σ H h =>
  sEx_sem h fun G0 H0 S' ρ G d v G' H' R' s0 s p q => q G' σ H' R' (Zle.refl _)
/-- return e -/
def sRet (c : Ex) : Stm := sEx c fun d _ S => .rt (.fr d) S
def sRetN (c : Ex) : Stm := sEx c fun d _ S => .rt (.ow d) S
theorem ss_ret (he : SE X cl W e c) : SS X cl W (.Return (some e) pos) (sRet c) := PS.weak (ps_ret he) fun D σ H h =>
  sEx_sem h fun G0 H0 S' ρ G d v G' H' R' s0 s p q => q v _ H' R'.leave.1 out_only R'.leave.2 p
theorem ss_retN (he : SN X cl W e c) : SS X cl W (.Return (some e) pos) (sRetN c) := PS.weak (ps_ret he) fun D σ H h =>
  sEx_sem h fun G0 H0 S' ρ G d v G' H' R' s0 s p q => by
    obtain ⟨a, as, rfl, ⟨cc, n⟩, hn⟩ := p
    refine q a as _ H' R'.leave.1 out_only R'.leave.2 ⟨cc, fun b hb => ⟨?_, (n b hb).2⟩⟩ fun b hb => s0.dom b (hn b hb)
    cases e : G'.out.lab b with
    | none => rfl
    | some l => have := (out_some.mp e).1; rw [(n b hb).1] at this; cases this
/-- return x: what the name owns is handed out -/
def sRetV (i : Nat) : Stm := fun ρ S => match ρ[i]? with
  | some (.ow d) => .rt (.ow d) S
  | some (.fr d) => .rt (.fr d) S
  | _ => .stuck
theorem ss_retV {i : Nat} {x : Str} {p : Pos} (hv : PE X (.Name x p) (tVar i)) : SS X cl W (.Return (some (.Name x p)) pos) (sRetV i) := PS.weak (ps_ret hv) fun D σ H ⟨G0, H0, S, ρ, G, R, h⟩ => by
  cases q : ρ[i]? with
  | none => simp only [sRetV, q, AftS] at h
  | some s =>
    obtain ⟨o, ho, hs⟩ := R.slot i s q
    cases s with
    | fr d =>
      simp only [sRetV, q] at h
      obtain ⟨v, rfl, r⟩ := hs
      exact ⟨v, ho, h v _ H R.leave.1 out_only R.leave.2 r⟩
    | ow d =>
      simp only [sRetV, q] at h
      obtain ⟨v, rfl, a, as, rfl, cc, hl⟩ := hs
      refine ⟨_, ho, h a as _ H R.leave.1 out_only R.leave.2 ⟨cc, fun b hb => ⟨?_, (R.ok.labz b _ (hl b hb)).1⟩⟩ fun b hb => R.ownNew (hl b hb)⟩
      cases e : G.out.lab b with
      | none => rfl
      | some l =>
        have := out_some.mp e
        rw [hl b hb] at this
        obtain ⟨h1, h2⟩ := this
        cases h1
        simp [Lab.st] at h2
    | un => simp only [sRetV, q, AftS] at h
    | bo d => simp only [sRetV, q, AftS] at h
    | me d => simp only [sRetV, q, AftS] at h
def sRet0 : Stm := fun _ S => .rt (.fr .non) S
theorem ss_ret0 : SS X cl W (.Return none pos) sRet0 := PS.weak ps_retN fun D σ H ⟨G0, H0, S, ρ, G, R, h⟩ => h .non _ H R.leave.1 out_only R.leave.2 .non
/-- if -/
def sIf (tc : Tx) (a b : Stm) : Stm := sEx tc fun k ρ S => if k = true then a ρ S else b ρ S
theorem ss_if {tc : Tx} {cnd : Expr} {a b : List Stmt} (hc : STt X cl W cnd tc) (ha : SSs X cl W a s1) (hb : SSs X cl W b s2) : SS X cl W (.If cnd a b pos) (sIf tc s1 s2) := PS.weak (ps_if hc ha hb) fun D σ H h =>
  sEx_sem (P := PT1) h fun G0 H0 S' ρ G d v G' H' R' s0 s p q => by
    cases (show v = d from p)
    cases d with
    | true => exact ⟨G0, H0, S', ρ, G', R', q⟩
    | false => exact ⟨G0, H0, S', ρ, G', R', q⟩
/-- x = e -/
def sSet (i : Nat) (c : Ex) : Stm := sEx c fun d ρ S => .nx (ρ.set i (.fr d)) S
def sSetN (i : Nat) (c : Ex) : Stm := sEx c fun d ρ S => .nx (ρ.set i (.ow d)) S
theorem ss_set {i : Nat} {x : Str} {pos' : Pos} (hN : X.N.Nodup) (hi : X.N[i]? = some x) (hx : Loc X.env.scope x) (he : SE X cl W e c) (hs : swapsWith e (some (.Name x pos')) pos.line X.env = pure false := by rfl) (hf : X.fn x = true ∨ X.env.scope.names.lookup x = some .local := by first | exact .inl rfl | exact .inr rfl | assumption) : SS X cl W (.Assign [.Name x pos'] e pos) (sSet i c) := PS.weak (ps_set hN hi hx he hs hf) fun D σ H h =>
  sEx_sem (P := PF X.K cl) h fun G0 H0 S' ρ G d v G' H' R' s0 s p q => q G' _ H' (R'.setF i p) (Zle.refl _)
theorem ss_setN {i : Nat} {x : Str} {pos' : Pos} (hN : X.N.Nodup) (hi : X.N[i]? = some x) (hx : Loc X.env.scope x) (he : SN X cl W e c) (hs : swapsWith e (some (.Name x pos')) pos.line X.env = pure false := by rfl) (hf : X.fn x = true ∨ X.env.scope.names.lookup x = some .local := by first | exact .inl rfl | exact .inr rfl | assumption) : SS X cl W (.Assign [.Name x pos'] e pos) (sSetN i c) := PS.weak (ps_set hN hi hx he hs hf) fun D σ H h =>
  sEx_sem (P := PN X.K cl) h fun G0 H0 S' ρ G d v G' H' R' s0 s p q => by
    obtain ⟨a, as, rfl, n, hn⟩ := p
    exact q _ _ H' (R'.setN i n fun b hb => s0.dom b (hn b hb)) ⟨Same.refl _, ⟨[], by simp [Gh.own]⟩⟩
/-- .. at a state -/
theorem sEx_at {α β : Type} {P : Post α β} {c : Env → Store → Res α} {k : α → Stm} {D : Ends} {G0 G : Gh} {H0 H : Hp} {S : Store} {ρ : Env} {σ : L2.St} {M : β → Hp → Prop} (R : Rel X.K cl G0 H0 S ρ G σ H) (h : AftS X.K cl W G0 H0 G D (sEx c k ρ S))
    (hk : ∀ S' d v G' H', Rel X.K cl G0 H0 S' ρ G' σ H' → Stp G H G' H' → P G H G' H' d v → AftS X.K cl W G0 H0 G' D (k d ρ S') → M v H') : tX X.K cl P W c σ H M := by
  refine ⟨G0, H0, S, ρ, G, R, ?_⟩
  unfold sEx at h
  cases q : c ρ S with
  | ok d S' =>
    rw [q] at h
    exact fun v G' H' R' s p => hk S' d v G' H' R' s p (h.pre s.zle)
  | exc n S' =>
    rw [q] at h
    exact fun G' H' R' s => h G' σ H' R' s.zle
  | stuck => rw [q] at h; exact h
/-- x += e -/
def sAug (i : Nat) (f : D → D → Option D) (c : Ex) : Stm := fun ρ S => match ρ[i]? with
  | some (.fr d) => sEx c (fun e ρ S => match f d e with
    | some z => .nx (ρ.set i (.fr z)) S
    | none => .stuck) ρ S
  | _ => .stuck
def IpS (X : Cx) (cl : Nat → Addr) (t : TIp) (f : D → D → Option D) : Prop := ∀ {G : Gh} {H : Hp} {x y : V} {d e z : D} {Q : VK}, Same G.Z H → RepG X.K cl G x d → RepT X.K cl G H y e → f d e = some z → (∀ v, RepG X.K cl G v z → Q v H) → t x y H Q
theorem ss_aug {i : Nat} {x : Str} {op : Operator} {pos' : Pos} {t : TIp} {f : D → D → Option D} (hN : X.N.Nodup) (hi : X.N[i]? = some x) (hx : Loc X.env.scope x) (he : SB X cl W e c) (hp : PIp X op t) (ht : IpS X cl t f) (hf : X.fn x = true ∨ X.env.scope.names.lookup x = some .local := by first | exact .inl rfl | exact .inr rfl | assumption) : SS X cl W (.AugAssign (.Name x pos') op e pos) (sAug i f c) := PS.weak (ps_aug hN hi hx he hp hf) fun D σ H ⟨G0, H0, S, ρ, G, R, h⟩ => by
  cases q : ρ[i]? with
  | none => simp only [sAug, q, AftS] at h
  | some s =>
    obtain ⟨o, ho, hs⟩ := R.slot i s q
    cases s with
    | fr d =>
      simp only [sAug, q] at h
      obtain ⟨v, rfl, r⟩ := hs
      refine ⟨v, ho, sEx_at (P := PB X.K cl) R h fun S' e y G' H' R' s p q2 => ?_⟩
      cases q3 : f d e with
      | none => rw [q3] at q2; exact q2.elim
      | some z =>
        rw [q3] at q2
        exact ht R'.ok.zsub (RepG.stp s r) p q3 fun v' r' => q2 G' _ H' (R'.setF i r') (Zle.refl _)
    | _ => simp only [sAug, q, AftS] at h
def ipAdd : D → D → Option D := oI0 fun i j => .int (i + j)
theorem is_add : IpS X cl (ipI fun i j => i + j) ipAdd := fun {G H x y d e z Q} zs r p q k => by
  obtain ⟨i, j, rfl, rfl, rfl⟩ := oI0_some _ _ _ q
  cases r
  exact ⟨i, j, rfl, p.int, k _ (.int _)⟩
theorem is_sub : IpS X cl (ipI fun i j => i - j) oSub := fun {G H x y d e z Q} zs r p q k => by
  obtain ⟨i, j, rfl, rfl, rfl⟩ := oI0_some _ _ _ q
  cases r
  exact ⟨i, j, rfl, p.int, k _ (.int _)⟩
end
end PM
set_option maxHeartbeats 1000000
/-! PM7: lists and dicts that a name owns; loops; list comprehensions. -/
namespace PM
open PySem PySem.Spec PyProof.Rows L2

section
variable {X : Cx} {cl : Nat → Addr} {W : WX} {e : Expr} {c : Ex} {pos : Pos} {st : Stmt} {rest : List Stmt} {s1 s2 : Stm} {es : List Expr}

/-! ### methods of an owned list -/
/-- a rule of a list's method told of data -/
def LmS (X : Cx) (cl : Nat → Addr) (bm : List Bool) (r : V → List V → Hp → VK → Prop) (f : List D → List D → Option (List D)) : Prop :=
  ∀ {G : Gh} {H : Hp} {a : Addr} {vs xs : List V} {ds es ds' : List D} {Q : VK}, Same G.Z H → H a = some (.lst vs) → RepAll X.K cl G.mu G.Z vs ds → ArgsOk X.K cl G H bm xs es → f ds es = some ds' →
    (∀ vs', RepAll X.K cl G.mu G.Z vs' ds' → Q .non (upd H a (.lst vs'))) → r (.ref a) xs H Q
def sLm (i : Nat) (f : List D → List D → Option (List D)) (ca : Ax) : Stm := fun ρ S => match ρ[i]? with
  | some (.ow (.lst ds)) => sEx ca (fun es ρ S => match f ds es with
    | some ds' => .nx (ρ.set i (.ow (.lst ds'))) S
    | none => .stuck) ρ S
  | _ => .stuck
theorem OwnAt.lst {K : PySem.W.Frag} {G : Gh} {H : Hp} {l : Lab} {v : V} {ds : List D} (h : OwnAt K cl G H l v (.lst ds)) : ∃ a vs, v = .ref a ∧ H a = some (.lst vs) ∧ RepAll K cl G.mu G.Z vs ds ∧ G.lab a = some l := by
  obtain ⟨a, as, rfl, c, hl⟩ := h
  cases c with
  | lst h1 r => exact ⟨a, _, rfl, h1, r, hl a (by simp)⟩
theorem OwnAt.dic {K : PySem.W.Frag} {G : Gh} {H : Hp} {l : Lab} {v : V} {ds : List (Key × D)} (h : OwnAt K cl G H l v (.dic ds)) : ∃ a vs, v = .ref a ∧ H a = some (.dK vs) ∧ RepK K cl G.mu G.Z vs ds ∧ G.lab a = some l := by
  obtain ⟨a, as, rfl, c, hl⟩ := h
  cases c with
  | dic h1 r => exact ⟨a, _, rfl, h1, r, hl a (by simp)⟩
theorem ss_lm {i : Nat} {x name : Str} {p apos cpos : Pos} {id : String} {r : V → List V → Hp → VK → Prop} {bm : List Bool} {f : List D → List D → Option (List D)} {ca : Ax} (slot : PySem.Slot "list" name id) (hty : typeOf (.builtin id) = pure (.type "method_descriptor")) (hm : MtR X id r) (hs : LmS X cl bm r f) (hv : PE X (.Name x p) (tVar i)) (ha : SA X cl W bm (e :: es) ca)
    (hbase : attributeBase (.Name x p) name X.env (eval (.Name x p) X.env) = eval (.Name x p) X.env := by rfl)
    (hfew : ((backTo cpos (starEach (e :: es) X.env)).all (fun x => !x.1) && (backToKw cpos (keywordEach [] X.env)).all (fun x => x.1.isSome)
      && decide ((e :: es).length + ([] : List Keyword).length + (if ([] : List Keyword).isEmpty then 0 else 1) < 30)) = true := by rfl)
    (hline : (apos.endLine == cpos.line) = true := by rfl) (hst : starEach (e :: es) X.env = (false, eval e X.env) :: starEach es X.env := by rfl) (hplain : (backTo cpos (starEach es X.env)).any (·.1) = false := by rfl)
    (hsw : swapsWith (.Call (.Attribute (.Name x p) name apos) (e :: es) [] cpos) none pos.line X.env = pure false := by rfl) : SS X cl W (.Expr (.Call (.Attribute (.Name x p) name apos) (e :: es) [] cpos) pos) (sLm i f ca) :=
  PS.weak (ps_expr (pe_bm PySem.F.plainAttrs_list slot hty hm hv ha hbase hfew hline hst hplain) hsw) fun D σ H ⟨G0, H0, S, ρ, G, R, h⟩ => by
    unfold sLm at h
    split at h
    · rename_i ds q
      obtain ⟨o, ho, v, rfl, ow⟩ := R.slot i _ q
      obtain ⟨a, vs, rfl, h1, r1, l1⟩ := ow.lst
      refine ⟨_, ho, .inl ⟨rfl, vs, .inl (.inl h1)⟩, sEx_at (P := PA1 X.K cl bm) R h fun S' es xs G' H' R' s p q2 => ?_⟩
      obtain ⟨o', ho', v', rfl, ow'⟩ := R'.slot i _ q
      rw [ho] at ho'
      cases ho'
      obtain ⟨a', vs', e', h1', r1', l1'⟩ := ow'.lst
      cases e'
      cases q3 : f ds es with
      | none => rw [q3] at q2; exact q2.elim
      | some ds' =>
        rw [q3] at q2
        exact hs R'.ok.zsub h1' r1' p q3 fun vs' r' => q2 G' σ _ (R'.write (as := [a]) ho (fun b hb => by simp at hb; subst hb; exact l1') (by simp) (.lst upd_same r')) (Zle.refl _)
    · exact h.elim
theorem ss_lm0 {i : Nat} {x name : Str} {p apos cpos : Pos} {id : String} {r : V → List V → Hp → VK → Prop} {f : List D → List D → Option (List D)} (slot : PySem.Slot "list" name id) (hty : typeOf (.builtin id) = pure (.type "method_descriptor")) (hm : MtR X id r) (hs : LmS X cl [] r f) (hv : PE X (.Name x p) (tVar i))
    (hbase : attributeBase (.Name x p) name X.env (eval (.Name x p) X.env) = eval (.Name x p) X.env := by rfl) (hline : (apos.endLine == cpos.line) = true := by rfl)
    (hsw : swapsWith (.Call (.Attribute (.Name x p) name apos) [] [] cpos) none pos.line X.env = pure false := by rfl) : SS X cl W (.Expr (.Call (.Attribute (.Name x p) name apos) [] [] cpos) pos) (sLm i f aNil) :=
  PS.weak (ps_expr (pe_bm0 PySem.F.plainAttrs_list slot hty hm hv hbase hline) hsw) fun D σ H ⟨G0, H0, S, ρ, G, R, h⟩ => by
    unfold sLm at h
    split at h
    · rename_i ds q
      obtain ⟨o, ho, v, rfl, ow⟩ := R.slot i _ q
      obtain ⟨a, vs, rfl, h1, r1, l1⟩ := ow.lst
      refine ⟨_, ho, .inl ⟨rfl, vs, .inl (.inl h1)⟩, ?_⟩
      unfold sEx aNil at h
      simp only at h
      cases q3 : f ds [] with
      | none => rw [q3] at h; exact h.elim
      | some ds' =>
        rw [q3] at h
        exact hs R.ok.zsub h1 r1 .nil q3 fun vs' r' => h G σ _ (R.write (as := [a]) ho (fun b hb => by simp at hb; subst hb; exact l1) (by simp) (.lst upd_same r')) (Zle.refl _)
    · exact h.elim
def lAppend : List D → List D → Option (List D)
  | ds, [d] => if ds.length < 1000000 then some (ds ++ [d]) else none
  | _, _ => none
theorem ArgsOk.oneF {K : PySem.W.Frag} {G : Gh} {H : Hp} {vs : List V} {d : D} (h : ArgsOk K cl G H [false] vs [d]) : ∃ v, vs = [v] ∧ RepG K cl G v d := by
  cases h with
  | fr h t => cases t; exact ⟨_, rfl, h⟩
theorem lm_append : LmS X cl [false] rAppend lAppend := fun {G H a vs xs ds es ds' Q} zs h1 r p q k => by
  unfold lAppend at q
  split at q
  · split at q
    · cases q
      rename_i hz
      obtain ⟨v, rfl, rv⟩ := p.oneF
      exact ⟨a, vs, v, rfl, rfl, h1, by rw [r.length]; exact lim_lt hz, k _ (r.append (.cons rv .nil))⟩
    · cases q
  · cases q
def lExtend : List D → List D → Option (List D)
  | ds, [.lst es] => if ds.length + es.length ≤ 1000000 then some (ds ++ es) else none
  | _, _ => none
theorem lm_extend : LmS X cl [true] rExtend lExtend := fun {G H a vs xs ds es ds' Q} zs h1 r p q k => by
  unfold lExtend at q
  split at q
  · split at q
    · cases q
      rename_i hz
      obtain ⟨v, rfl, rv⟩ := p.one
      obtain ⟨b, ws, rfl, h2, r2⟩ := rv.lst zs
      exact ⟨a, b, vs, ws, rfl, rfl, h1, h2, by rw [r.length, r2.length]; exact lim_ok hz, k _ (r.append r2)⟩
    · cases q
  · cases q
def lReverse : List D → List D → Option (List D) := fun ds _ => some ds.reverse
theorem lm_reverse : LmS X cl [] rReverse lReverse := fun {G H a vs xs ds es ds' Q} zs h1 r p q k => by
  cases q
  cases p
  exact ⟨a, vs, rfl, rfl, h1, k _ r.reverse⟩
def lClear : List D → List D → Option (List D) := fun _ _ => some []
theorem lm_clear : LmS X cl [] rClear lClear := fun {G H a vs xs ds es ds' Q} zs h1 r p q k => by
  cases q
  cases p
  exact ⟨a, vs, rfl, rfl, h1, k _ .nil⟩
def lInsert : List D → List D → Option (List D)
  | ds, [.int i, d] => if ds.length < 1000000 ∧ 0 ≤ i ∧ i < 1000000 then some (ds.take i.toNat ++ [d] ++ ds.drop i.toNat) else none
  | _, _ => none
theorem ArgsOk.twoF {K : PySem.W.Frag} {G : Gh} {H : Hp} {vs : List V} {d d' : D} (h : ArgsOk K cl G H [true, false] vs [d, d']) : ∃ v v', vs = [v, v'] ∧ RepT K cl G H v d ∧ RepG K cl G v' d' := by
  cases h with
  | bo h t =>
    obtain ⟨v', rfl, h'⟩ := t.oneF
    exact ⟨_, v', rfl, h, h'⟩
def rInsert : V → List V → Hp → VK → Prop := fun x vs H Q => ∃ (l : Addr) (xs : List V) (i : Int) (y : V), x = .ref l ∧ vs = [.int i, y] ∧ H l = some (.lst xs) ∧ xs.length < sizeLine ∧ 0 ≤ i ∧ i < 2 ^ 63 ∧ Q .non (upd H l (.lst (xs.take i.toNat ++ [y] ++ xs.drop i.toNat)))
theorem lm_insert : LmS X cl [true, false] rInsert lInsert := fun {G H a vs xs ds es ds' Q} zs h1 r p q k => by
  unfold lInsert at q
  split at q
  · split at q
    · cases q
      rename_i hz
      obtain ⟨v, v', rfl, rv, rv'⟩ := p.twoF
      exact ⟨a, vs, _, v', rfl, by rw [rv.int], h1, by rw [r.length]; exact lim_lt hz.1, hz.2.1, by have := hz.2.2; omega, k _ (((r.take _).append (.cons rv' .nil)).append (r.drop _))⟩
    · cases q
  · cases q
def lPop : List D → List D → Option (List D) := fun ds _ => if ds.length = 0 then none else some ds.dropLast
def rPopD : V → List V → Hp → VK → Prop := fun x vs H Q => ∃ l xs y, x = .ref l ∧ vs = [] ∧ H l = some (.lst xs) ∧ xs[xs.length - 1]? = some y ∧ Q y (upd H l (.lst xs.dropLast))

/-- x[k] = e, x an owned list -/
def sSetIx (i : Nat) (ci c : Ex) : Stm := fun ρ S => match ρ[i]? with
  | some (.ow (.lst ds)) => sEx c (fun d ρ S => sEx ci (fun k ρ S => match k with
    | .int j => (match ixN ds.length j with
      | some n => .nx (ρ.set i (.ow (.lst (ds.set n d)))) S
      | none => .stuck)
    | _ => .stuck) ρ S) ρ S
  | _ => .stuck
theorem ss_setIx {i : Nat} {x : Str} {k : Expr} {p pos' : Pos} {ck : Ex} (hv : PE X (.Name x p) (tVar i)) (hk : SB X cl W k ck) (he : SE X cl W e c)
    (ha : ∀ v, assign (.Subscript (.Name x p) k pos') X.env v = (do
      let ov ← holding [v] (eval (.Name x p) X.env)
      let iv ← holding [v, ov] (eval k X.env)
      standAt pos'
      holding [v, ov, iv] (setItem ov iv v)
      release [v, ov, iv] []) := by intro _; rfl)
    (hs : swapsWithSole [.Subscript (.Name x p) k pos'] e pos.line X.env = pure false := by rfl) (hw : swappedStores [.Subscript (.Name x p) k pos'] e X.env = pure none := by rfl)
    (h1 : (assignEach [.Subscript (.Name x p) k pos'] X.env).map (·.2) = [assign (.Subscript (.Name x p) k pos') X.env] := by rfl) : SS X cl W (.Assign [.Subscript (.Name x p) k pos'] e pos) (sSetIx i ck c) :=
  PS.weak (ps_asg he (pg_sub hv hk set_list ha) hs hw h1) fun D σ H ⟨G0, H0, S, ρ, G, R, h⟩ => by
    unfold sSetIx at h
    split at h
    · rename_i ds q
      refine sEx_at (P := PF X.K cl) R h fun S1 d v G1 H1 R1 st1 p1 q1 => ?_
      obtain ⟨o, ho, w, rfl, ow⟩ := R1.slot i _ q
      obtain ⟨a, vs, rfl, h1, r1, l1⟩ := ow.lst
      refine ⟨_, ho, sEx_at (P := PB X.K cl) R1 q1 fun S2 kd kv G2 H2 R2 st2 p2 q2 => ?_⟩
      obtain ⟨o', ho', w', rfl, ow'⟩ := R2.slot i _ q
      rw [ho] at ho'
      cases ho'
      obtain ⟨a', vs', e', h1', r1', l1'⟩ := ow'.lst
      cases e'
      cases kd <;> simp only [AftS] at q2
      rename_i j
      cases q3 : ixN ds.length j with
      | none => rw [q3] at q2; exact q2.elim
      | some n =>
        rw [q3] at q2
        exact ⟨a, vs', j, n, rfl, RepT.int p2, h1', by rw [r1'.length]; exact q3, q2 G2 σ _ (R2.write (as := [a]) ho (fun b hb => by simp at hb; subst hb; exact l1') (by simp) (.lst upd_same (RepAll.set (RepG.stp st2 p1) n r1'))) (Zle.refl _)⟩
    · exact h.elim

/-! ### dicts -/
def D.key : D → Option Key
  | .int i => some (.inl i)
  | .str x => some (.inr x)
  | _ => none
theorem RepT.key {K : PySem.W.Frag} {G : Gh} {H : Hp} {v : V} {d : D} {k : Key} (h : RepT K cl G H v d) (e : d.key = some k) : v = kV k := by
  cases d <;> simp only [D.key, reduceCtorEq] at e <;> cases e
  · exact h.int
  · exact h.str
def putD (ds : List (Key × D)) (k : Key) (d : D) : List (Key × D) := if (ds.any fun kv => decide (kv.1 = k)) = true then ds.map (fun kv => if kv.1 = k then (kv.1, d) else kv) else ds ++ [(k, d)]
def hasD (ds : List (Key × D)) (k : Key) : Bool := ds.any fun kv => decide (kv.1 = k)
theorem RepK.any {K : PySem.W.Frag} {mu : List Addr} {Z : Hp} {k : Key} : ∀ {vs : List (Key × V)} {ds : List (Key × D)}, RepK K cl mu Z vs ds → (vs.any fun kv => decide (kv.1 = k)) = (ds.any fun kv => decide (kv.1 = k))
  | _, _, .nil => rfl
  | _, _, .cons r t => by rw [List.any_cons, List.any_cons, RepK.any t]
theorem RepK.append {K : PySem.W.Frag} {mu : List Addr} {Z : Hp} : ∀ {vs ws : List (Key × V)} {ds es : List (Key × D)}, RepK K cl mu Z vs ds → RepK K cl mu Z ws es → RepK K cl mu Z (vs ++ ws) (ds ++ es)
  | _, _, _, _, .nil, t => t
  | _, _, _, _, .cons r s, t => .cons r (RepK.append s t)
theorem RepK.mapPut {K : PySem.W.Frag} {mu : List Addr} {Z : Hp} {k : Key} {v : V} {d : D} (rv : Rep K cl mu Z v d) : ∀ {vs : List (Key × V)} {ds : List (Key × D)}, RepK K cl mu Z vs ds → RepK K cl mu Z (vs.map fun kv => if kv.1 = k then (kv.1, v) else kv) (ds.map fun kv => if kv.1 = k then (kv.1, d) else kv)
  | _, _, .nil => .nil
  | _, _, @RepK.cons _ _ _ _ k' v' vs d' ds r t => by
    rw [List.map_cons, List.map_cons]
    by_cases h : k' = k
    · rw [if_pos h, if_pos h]; exact .cons rv (RepK.mapPut rv t)
    · rw [if_neg h, if_neg h]; exact .cons r (RepK.mapPut rv t)
theorem RepK.put {K : PySem.W.Frag} {mu : List Addr} {Z : Hp} {k : Key} {v : V} {d : D} (rv : Rep K cl mu Z v d) {vs : List (Key × V)} {ds : List (Key × D)} (r : RepK K cl mu Z vs ds) : RepK K cl mu Z (putK vs k v) (putD ds k d) := by
  unfold putK putD
  rw [r.any]
  split
  · exact r.mapPut rv
  · exact r.append (.cons rv .nil)
theorem RepK.val {K : PySem.W.Frag} {mu : List Addr} {Z : Hp} {k : Key} : ∀ {vs : List (Key × V)} {ds : List (Key × D)}, RepK K cl mu Z vs ds → (valV vs k).isSome = hasD ds k
  | _, _, .nil => rfl
  | _, _, @RepK.cons _ _ _ _ k' v' vs d' ds r t => by
    have ih := RepK.val (k := k) t
    unfold valV hasD at ih ⊢
    rw [List.find?_cons, List.any_cons]
    by_cases h : k' = k
    · simp [h]
    · rw [decide_eq_false h]
      simpa using ih
def sPut (i : Nat) (ci c : Ex) : Stm := fun ρ S => match ρ[i]? with
  | some (.ow (.dic ds)) => sEx c (fun d ρ S => sEx ci (fun k ρ S => match k.key with
    | some j => if ds.length < 1000000 then .nx (ρ.set i (.ow (.dic (putD ds j d)))) S else .stuck
    | none => .stuck) ρ S) ρ S
  | _ => .stuck
theorem ss_put {i : Nat} {x : Str} {k : Expr} {p pos' : Pos} {ck : Ex} (hu : X.A.units + 1 < cLine) (hv : PE X (.Name x p) (tVar i)) (hk : SB X cl W k ck) (he : SE X cl W e c) (hs : swapsWith e (some (.Subscript (.Name x p) k pos')) pos.line X.env = pure false := by rfl) : SS X cl W (.Assign [.Subscript (.Name x p) k pos'] e pos) (sPut i ck c) :=
  PS.weak (ps_dput hu hv hk he hs) fun D σ H ⟨G0, H0, S, ρ, G, R, h⟩ => by
    unfold sPut at h
    split at h
    · rename_i ds q
      refine sEx_at (P := PF X.K cl) R h fun S1 d v G1 H1 R1 st1 p1 q1 => ?_
      obtain ⟨o, ho, w, rfl, ow⟩ := R1.slot i _ q
      obtain ⟨a, vs, rfl, h1, r1, l1⟩ := ow.dic
      refine ⟨_, ho, sEx_at (P := PB X.K cl) R1 q1 fun S2 kd kv G2 H2 R2 st2 p2 q2 => ?_⟩
      obtain ⟨o', ho', w', rfl, ow'⟩ := R2.slot i _ q
      rw [ho] at ho'
      cases ho'
      obtain ⟨a', vs', e', h1', r1', l1'⟩ := ow'.dic
      cases e'
      cases q3 : kd.key with
      | none => rw [q3] at q2; exact q2.elim
      | some j =>
        rw [q3] at q2
        simp only at q2
        split at q2
        · rename_i hz
          have e2 := RepT.key p2 q3
          subst e2
          exact ⟨a, _, rfl, DPut.k h1' (by rw [r1'.length]; exact lim_lt hz), q2 G2 σ _ (R2.write (as := [a]) ho (fun b hb => by simp at hb; subst hb; exact l1') (by simp) (.dic upd_same (RepK.put (RepG.stp st2 p1) r1'))) (Zle.refl _)⟩
        · exact q2.elim
    · exact h.elim
/-- k in d -/
def oDin (neg : Bool) : D → D → Option D
  | d, .dic ds => (d.key).map fun k => .bl (if neg then !hasD ds k else hasD ds k)
  | _, _ => none
section
variable {a b : Expr} {ca cb : Ex}
theorem din_sem {neg : Bool} {σ : L2.St} {H : Hp} {Q : VK} (h : tX X.K cl (PF X.K cl) W (eBin (oDin neg) ca cb) σ H Q) :
    (tX X.K cl (PB X.K cl) W ca) σ H fun y H1 => (tX X.K cl (PB X.K cl) W cb) σ H1 fun x H2 => ∃ a o, x = .ref a ∧ DGet H2 a y o ∧ Q (.bl (if neg then !o.isSome else o.isSome)) H2 := by
  obtain ⟨G0, H0, S, ρ, G, R, h⟩ := h
  refine tX.bind (Pa := PB X.K cl) pfM R h fun d y S1 G1 H1 R1 s1 p1 h1 => ?_
  refine tX.bind (Pa := PB X.K cl) pfM R1 h1 fun e x S2 G2 H2 R2 s2 p2 h2 => ?_
  cases e <;> simp only [oDin, Res.opt, Aft] at h2
  rename_i ds
  cases q : d.key with
  | none => rw [q] at h2; exact h2.elim
  | some k =>
    rw [q] at h2
    obtain ⟨p, vs, rfl, h3, r3⟩ := RepT.dic p2 R2.ok.zsub
    have e1 := RepT.key (RepT.stp p1 s2) q
    subst e1
    exact ⟨p, _, rfl, DGet.k h3, by rw [r3.val]; exact h2 _ G2 H2 R2 (Stp.refl _ _) (.bl _)⟩
end
end
end PM
set_option maxHeartbeats 1000000
/-! PM8: what is walked; for, while, list comprehensions. -/
namespace PM
open PySem PySem.Spec PyProof.Rows L2

section
variable {K : PySem.W.Frag} {cl : Nat → Addr} {W : WX} {G0 G G' G1 : Gh} {H0 H H' H1 : Hp} {S S' : Store} {ρ ρ' : Env} {σ : L2.St} {v : V} {d : D} {a : Addr} {as : List Addr} {i : Nat}
/-- the slots stay while an expression runs -/
theorem Rel.step (R : Rel K cl G0 H0 S ρ G σ H) (s : Stp G H G' H') (ok : GOk K cl S' G' H') : Rel K cl G0 H0 S' ρ G' σ H' :=
  ⟨ok, R.len, fun i sl e => by
    obtain ⟨o, h1, h2⟩ := R.slot i sl e
    exact ⟨o, h1, h2.mono (fun b hb o ho => s.keep b o ho fun l hl => by rw [hb] at hl; cases hl; rfl) s.z (fun b hb => s.lab b _ hb) s.mu⟩, R.stp.trans s, R.s0⟩
/-- a thing of nobody's is changed -/
theorem Rel.poke (R : Rel K cl G0 H0 S ρ G σ H) (h1 : G.lab a = none) (h2 : G.Z a = none) (h3 : H0 a = none) (h4 : ∃ o, H a = some o) (o : HO) : Rel K cl G0 H0 S ρ G σ (upd H a o) := by
  have oth : ∀ b l, G.lab b = some l → ∀ o', H b = some o' → upd H a o b = some o' := fun b l e o' ho => by
    rw [upd_ne fun q => by subst q; rw [h1] at e; cases e]
    exact ho
  refine ⟨⟨fun b o' e => ?_, fun b l e => ?_, fun n c e => (R.ok.st n c e).mono (fun b l e _ o' ho => oth b l e o' ho) (Same.refl _) (fun _ _ e _ => e) ⟨[], by simp⟩, R.ok.stn⟩, R.len, fun i s e => ?_, ⟨R.stp.z, R.stp.lab, fun b o' e hs => ?_, R.stp.labn, R.stp.zn, R.stp.mu, fun b e => ?_⟩, R.s0⟩
  · rw [upd_ne fun q => by subst q; rw [h2] at e; cases e]
    exact R.ok.zsub b o' e
  · obtain ⟨q1, o', q2⟩ := R.ok.labz b l e
    exact ⟨q1, o', oth b l e o' q2⟩
  · obtain ⟨o', q1, q2⟩ := R.slot i s e
    exact ⟨o', q1, q2.mono (fun b hb o' ho => oth b _ hb o' ho) (Same.refl _) (fun _ e => e) ⟨[], by simp⟩⟩
  · rw [upd_ne fun q => by subst q; rw [h3] at e; cases e]
    exact R.stp.keep b o' e hs
  · by_cases q : b = a
    · subst q; exact h3
    · rw [upd_ne q] at e; exact R.stp.dom b e
theorem Stp.poke (s : Stp G H G' H') (h : H a = none) (o : HO) : Stp G H G' (upd H' a o) :=
  ⟨s.z, s.lab, fun b o' e hs => by rw [upd_ne fun q => by subst q; rw [h] at e; cases e]; exact s.keep b o' e hs, s.labn, s.zn, s.mu, fun b e => by
    by_cases q : b = a
    · subst q; exact h
    · rw [upd_ne q] at e; exact s.dom b e⟩

/-! ### what is walked -/
structure IterOk (K : PySem.W.Frag) (cl : Nat → Addr) (J : It) (ds : List D) (G0 : Gh) (H0 : Hp) (G : Gh) : Prop where
  go : ∀ S ρ G' σ H i d, Rel K cl G0 H0 S ρ G' σ H → Zle G G' → ds[i]? = some d → J.go i H ∧ ∀ x H2, J.yld i H x H2 → H2 = H ∧ RepG K cl G' x d
  stop : ∀ S ρ G' σ H, Rel K cl G0 H0 S ρ G' σ H → Zle G G' → J.stop ds.length H
abbrev Ix := Env → Store → Res (List D)
def tI (K : PySem.W.Frag) (cl : Nat → Addr) (W : WX) (c : Ix) : TI := fun σ H R => ∃ (G0 : Gh) (H0 : Hp) (S : Store) (ρ : Env) (G : Gh), Rel K cl G0 H0 S ρ G σ H ∧
  match c ρ S with
  | .ok ds S' => ∀ J G' H', Rel K cl G0 H0 S' ρ G' σ H' → Stp G H G' H' → IterOk K cl J ds G0 H0 G' → R J H'
  | .exc n S' => ∀ G' H', Rel K cl G0 H0 S' ρ G' σ H' → Stp G H G' H' → W (.ref (cl n)) none σ H'
  | .stuck => False
end
abbrev SI (X : Cx) (cl : Nat → Addr) (W : WX) (tg e : Expr) (c : Ix) : Prop := PI X tg e (tI X.K cl W c)
theorem PI.weak {X : Cx} {tg e : Expr} {t t' : TI} (h : PI X tg e t) (w : ∀ σ H R, t' σ H R → t σ H R) : PI X tg e t' := ⟨fun pins s σ H R I q => h.run pins s σ H R I (w σ H R q)⟩

section
variable {X : Cx} {cl : Nat → Addr} {W : WX} {e tg : Expr} {c ca cb : Ex} {pos : Pos} {st : Stmt} {rest : List Stmt} {s1 s2 : Stm} {es : List Expr}
theorem iter_list {K : PySem.W.Frag} {G0 G : Gh} {H0 : Hp} {a : Addr} {vs : List V} {ds : List D} (h : ∀ S ρ G' σ H, Rel K cl G0 H0 S ρ G' σ H → Zle G G' → SqL K H a vs) (r : RepAll K cl G.mu G.Z vs ds)
    : IterOk K cl (Itl K a) ds G0 H0 G where
  go := fun S ρ G' σ H i d R z e => by
    obtain ⟨v, hv, rv⟩ := r.get e
    refine ⟨⟨vs, v, h S ρ G' σ H R z, hv⟩, fun x H2 y => ⟨y.1, ?_⟩⟩
    have hx := y.2 vs (h S ρ G' σ H R z)
    rw [hv] at hx
    cases hx
    exact Rep.mono z.z z.mu _ _ rv
  stop := fun S ρ G' σ H R z => ⟨vs, h S ρ G' σ H R z, by rw [r.length]; exact Nat.le_refl _⟩
/-- iterating the list (or the script) that an expression gives -/
def iL (ca : Ex) : Ix := fun ρ S => (ca ρ S).bind fun d S => match d with
  | .lst ds => .ok ds S
  | .scr ns => .ok (ns.map .int) S
  | _ => .stuck
theorem si_list (ha : SE X cl W e ca) : SI X cl W tg e (iL ca) := PI.weak (pi_list ha) fun σ H Rr ⟨G0, H0, S, ρ, G, R, h⟩ => by
  refine ⟨G0, H0, S, ρ, G, R, ?_⟩
  unfold iL at h
  cases q : ca ρ S with
  | ok d S' =>
    rw [q] at h
    intro v G' H' R' s p
    cases d <;> simp only [Res.bind] at h
    · rename_i ds
      cases p with
      | lst hs ra =>
        rename_i a vs
        exact ⟨a, rfl, ⟨vs, .inl (.inl (R'.ok.zsub _ _ hs))⟩, h (Itl X.K a) G' H' R' s (iter_list (vs := vs) (fun S ρ G'' σ H'' R'' z => .inl (.inl (R''.ok.zsub _ _ (z.z _ _ hs)))) ra)⟩
    · rename_i ns
      cases p with
      | scr hs =>
        rename_i a
        exact ⟨a, rfl, ⟨_, R'.ok.zsub.seq hs⟩, h (Itl X.K a) G' H' R' s (iter_list (vs := ns.map V.int) (fun S ρ G'' σ H'' R'' z => (z.z.trans R''.ok.zsub).seq hs) (RepAll.ints ns))⟩
  | exc n S' => rw [q] at h; exact h
  | stuck => rw [q] at h; exact h
/-- .. that a name borrows or holds frozen -/
def iB (i : Nat) : Ix := fun ρ S => match ρ[i]? with
  | some (.fr (.lst ds)) => .ok ds S
  | some (.bo (.lst ds)) => .ok ds S
  | some (.fr (.scr ns)) => .ok (ns.map .int) S
  | some (.bo (.scr ns)) => .ok (ns.map .int) S
  | _ => .stuck
theorem si_bor {i : Nat} {x : Str} {p : Pos} (hv : PE X (.Name x p) (tVar i)) : SI X cl W tg (.Name x p) (iB i) := PI.weak (pi_list hv) fun σ H Rr ⟨G0, H0, S, ρ, G, R, h⟩ => by
  have lists : ∀ ds v, σ[i]? = some (some v) → RepG X.K cl G v (.lst ds) → (∀ J G' H', Rel X.K cl G0 H0 S ρ G' σ H' → Stp G H G' H' → IterOk X.K cl J ds G0 H0 G' → Rr J H') → iList X.K (tVar i) σ H Rr := fun ds v ho r k => by
    cases r with
    | lst hs ra =>
      rename_i a vs
      exact ⟨_, ho, a, rfl, ⟨vs, .inl (.inl (R.ok.zsub _ _ hs))⟩, k (Itl X.K a) G H R (Stp.refl _ _) (iter_list (vs := vs) (fun S ρ G'' σ H'' R'' z => .inl (.inl (R''.ok.zsub _ _ (z.z _ _ hs)))) ra)⟩
  have scrs : ∀ ns v, σ[i]? = some (some v) → RepG X.K cl G v (.scr ns) → (∀ J G' H', Rel X.K cl G0 H0 S ρ G' σ H' → Stp G H G' H' → IterOk X.K cl J (ns.map .int) G0 H0 G' → Rr J H') → iList X.K (tVar i) σ H Rr := fun ns v ho r k => by
    cases r with
    | scr hs =>
      rename_i a
      exact ⟨_, ho, a, rfl, ⟨_, R.ok.zsub.seq hs⟩, k (Itl X.K a) G H R (Stp.refl _ _) (iter_list (vs := ns.map V.int) (fun S ρ G'' σ H'' R'' z => (z.z.trans R''.ok.zsub).seq hs) (RepAll.ints ns))⟩
  unfold iB at h
  cases q : ρ[i]? with
  | none => rw [q] at h; exact h.elim
  | some s =>
    obtain ⟨o, ho, hs⟩ := R.slot i s q
    rw [q] at h
    cases s with
    | un => exact h.elim
    | ow d => exact h.elim
    | me d => exact h.elim
    | fr d =>
      obtain ⟨v, rfl, r⟩ := hs
      cases d <;> simp only at h
      · exact lists _ v ho r h
      · exact scrs _ v ho r h
    | bo d =>
      obtain ⟨v, rfl, r⟩ := hs
      rcases r with r | ⟨a, as, rfl, cc, hl⟩
      · cases d <;> simp only at h
        · exact lists _ v ho r h
        · exact scrs _ v ho r h
      · cases d <;> simp only at h
        · rename_i ds
          cases cc with
          | lst h1 ra =>
            rename_i vs
            have ln : ∀ l, G0.lab a = some l → l.st = false := fun l e => by rw [hl a (by simp)] at e; cases e
            exact ⟨_, ho, a, rfl, ⟨vs, .inl (.inl (R.stp.keep _ _ h1 ln))⟩, h (Itl X.K a) G H R (Stp.refl _ _) (iter_list (vs := vs) (fun S ρ G'' σ H'' R'' z => .inl (.inl (R''.stp.keep _ _ h1 ln))) ra)⟩
        · cases cc
/-- .. a tuple -/
def iT (ca : Ex) : Ix := fun ρ S => (ca ρ S).bind fun d S => match d with
  | .tup ds => .ok ds S
  | _ => .stuck
theorem si_tup (ha : SE X cl W e ca) : SI X cl W tg e (iT ca) := PI.weak (pi_tup ha) fun σ H Rr ⟨G0, H0, S, ρ, G, R, h⟩ => by
  refine ⟨G0, H0, S, ρ, G, R, ?_⟩
  unfold iT at h
  cases q : ca ρ S with
  | ok d S' =>
    rw [q] at h
    intro v G' H' R' s p
    cases d <;> simp only [Res.bind] at h
    rename_i ds
    cases p with
    | tup hs ra =>
      rename_i a vs
      refine ⟨a, rfl, ⟨vs, sameT R'.ok.zsub hs⟩, h (Itt X.K a) G' H' R' s ⟨fun S ρ G'' σ H'' i d R'' z e => ?_, fun S ρ G'' σ H'' R'' z => ⟨vs, sameT (z.z.trans R''.ok.zsub) hs, by rw [ra.length]; exact Nat.le_refl _⟩⟩⟩
      obtain ⟨v, hv, rv⟩ := ra.get e
      refine ⟨⟨vs, v, sameT (z.z.trans R''.ok.zsub) hs, hv⟩, fun x H2 y => ⟨y.1, ?_⟩⟩
      have hx := y.2 vs (sameT (z.z.trans R''.ok.zsub) hs)
      rw [hv] at hx
      cases hx
      exact Rep.mono z.z z.mu _ _ rv
  | exc n S' => rw [q] at h; exact h
  | stuck => rw [q] at h; exact h
/-- .. a text -/
def iS (ca : Ex) : Ix := fun ρ S => (ca ρ S).bind fun d S => match d with
  | .str x => .ok (x.cps.toList.map fun c => .str ⟨#[c]⟩) S
  | _ => .stuck
theorem si_str (ha : SB X cl W e ca) : SI X cl W tg e (iS ca) := PI.weak (pi_str ha) fun σ H Rr ⟨G0, H0, S, ρ, G, R, h⟩ => by
  refine ⟨G0, H0, S, ρ, G, R, ?_⟩
  unfold iS at h
  cases q : ca ρ S with
  | ok d S' =>
    rw [q] at h
    intro v G' H' R' s p
    cases d <;> simp only [Res.bind] at h
    rename_i x
    refine ⟨x, RepT.str p, h (Its x) G' H' R' s ⟨fun S ρ G'' σ H'' i d R'' z e => ?_, fun S ρ G'' σ H'' R'' z => ?_⟩⟩
    · rw [List.getElem?_map] at e
      cases q2 : x.cps.toList[i]? with
      | none => rw [q2] at e; cases e
      | some cc =>
        rw [q2] at e
        cases e
        have hlt : i < x.cps.size := by rw [← Array.length_toList]; exact (List.getElem?_eq_some_iff.mp q2).1
        refine ⟨hlt, fun y H2 hy => ⟨hy.1, ?_⟩⟩
        obtain ⟨c', h1, h2⟩ := hy.2
        rw [Array.getElem?_toList] at q2
        rw [q2] at h1
        cases h1
        subst h2
        exact .str _
    · show x.cps.size ≤ _
      rw [List.length_map, Array.length_toList]
      exact Nat.le_refl _
  | exc n S' => rw [q] at h; exact h
  | stuck => rw [q] at h; exact h
/-- ints lo, lo + 1, .. -/
def rngD (lo : Int) (n : Nat) : List D := (List.range n).map fun (k : Nat) => .int (lo + (k : Int))
theorem iter_rng {K : PySem.W.Frag} {G0 G : Gh} {H0 : Hp} {lo : Int} {n : Nat} : IterOk K cl (Itr lo n) (rngD lo n) G0 H0 G where
  go := fun S ρ G' σ H i d R z e => by
    unfold rngD at e
    rw [List.getElem?_map] at e
    by_cases hi : i < n
    · rw [List.getElem?_range hi] at e
      cases e
      refine ⟨hi, fun x H2 y => ⟨y.1, ?_⟩⟩
      rw [y.2]
      exact .int _
    · rw [List.getElem?_eq_none (by simpa using hi)] at e
      cases e
  stop := fun S ρ G' σ H R z => by
    show n ≤ (rngD lo n).length
    unfold rngD
    rw [List.length_map, List.length_range]
    exact Nat.le_refl _
def fR1 : List D → Option (List D)
  | [.int j] => if -1000000000 ≤ j ∧ j ≤ 1000000000 then some (rngD 0 j.toNat) else none
  | _ => none
def fR2 : List D → Option (List D)
  | [.int i, .int j] => if (-1000000000 ≤ i ∧ i ≤ 1000000000) ∧ -1000000000 ≤ j ∧ j ≤ 1000000000 then some (rngD i (j - i).toNat) else none
  | _ => none
theorem fR1_some {ds zs : List D} (h : fR1 ds = some zs) : ∃ j, ds = [.int j] ∧ (-1000000000 ≤ j ∧ j ≤ 1000000000) ∧ zs = rngD 0 j.toNat := by
  unfold fR1 at h
  split at h
  · split at h
    · cases h
      exact ⟨_, rfl, by assumption, rfl⟩
    · cases h
  · cases h
theorem fR2_some {ds zs : List D} (h : fR2 ds = some zs) : ∃ i j, ds = [.int i, .int j] ∧ ((-1000000000 ≤ i ∧ i ≤ 1000000000) ∧ -1000000000 ≤ j ∧ j ≤ 1000000000) ∧ zs = rngD i (j - i).toNat := by
  unfold fR2 at h
  split at h
  · split at h
    · cases h
      exact ⟨_, _, rfl, by assumption, rfl⟩
    · cases h
  · cases h
def iFn (f : List D → Option (List D)) (ca : Ax) : Ix := fun ρ S => (ca ρ S).bind fun ds S => Res.opt (f ds) S
abbrev iR1 := iFn fR1
abbrev iR2 := iFn fR2
theorem si_range1 {a : Expr} {ax : Ax} {p : Pos} (hg : Gl X "range") (hm : X.mg "range" = none) (ha : SA X cl W [true] [a] ax) (hs : starEach [a] X.env = [(false, eval a X.env)] := by rfl) : SI X cl W tg (.Call (.Name "range" p) [a] [] pos) (iR1 ax) := PI.weak (pi_range1 hg hm ha hs) fun σ H Rr ⟨G0, H0, S, ρ, G, R, h⟩ => by
  refine ⟨G0, H0, S, ρ, G, R, ?_⟩
  unfold iR1 iFn at h
  cases q : ax ρ S with
  | ok ds S' =>
    rw [q] at h
    intro vs G' H' R' s p
    simp only [Res.bind] at h
    cases q2 : fR1 ds with
    | none => rw [q2] at h; exact h.elim
    | some zs =>
      rw [q2] at h
      obtain ⟨j, rfl, hz, rfl⟩ := fR1_some q2
      obtain ⟨v, rfl, rv⟩ := ArgsOk.one p
      exact ⟨j, by rw [rv.int], by have := hz.1; omega, by have := hz.2; omega, h _ G' H' R' s iter_rng⟩
  | exc n S' => rw [q] at h; exact h
  | stuck => rw [q] at h; exact h
theorem si_range2 {a b : Expr} {ax : Ax} {p : Pos} (hg : Gl X "range") (hm : X.mg "range" = none) (ha : SA X cl W [true, true] [a, b] ax) (hs : starEach [a, b] X.env = [(false, eval a X.env), (false, eval b X.env)] := by rfl) (hs2 : starEach [b] X.env = [(false, eval b X.env)] := by rfl) : SI X cl W tg (.Call (.Name "range" p) [a, b] [] pos) (iR2 ax) := PI.weak (pi_range2 hg hm ha hs hs2) fun σ H Rr ⟨G0, H0, S, ρ, G, R, h⟩ => by
  refine ⟨G0, H0, S, ρ, G, R, ?_⟩
  unfold iR2 iFn at h
  cases q : ax ρ S with
  | ok ds S' =>
    rw [q] at h
    intro vs G' H' R' s p
    simp only [Res.bind] at h
    cases q2 : fR2 ds with
    | none => rw [q2] at h; exact h.elim
    | some zs =>
      rw [q2] at h
      obtain ⟨i, j, rfl, hz, rfl⟩ := fR2_some q2
      obtain ⟨v, v', rfl, rv, rv'⟩ := ArgsOk.two p
      exact ⟨i, j, by rw [rv.int, rv'.int], ⟨by have := hz.1.1; omega, by have := hz.1.2; omega, by have := hz.2.1; omega, by have := hz.2.2; omega⟩, h _ G' H' R' s iter_rng⟩
  | exc n S' => rw [q] at h; exact h
  | stuck => rw [q] at h; exact h

/-! ### targets -/
abbrev Tgt := D → Env → Option Env
def TgS (X : Cx) (cl : Nat → Addr) (g : TG) (tg : Tgt) : Prop :=
  ∀ {G0 : Gh} {H0 : Hp} {S : Store} {ρ ρ' : Env} {G : Gh} {σ : L2.St} {H : Hp} {x : V} {d : D} {Q : L2.St → Hp → Prop}, Rel X.K cl G0 H0 S ρ G σ H → RepG X.K cl G x d → tg d ρ = some ρ' → (∀ σ', Rel X.K cl G0 H0 S ρ' G σ' H → Q σ' H) → g x σ H Q
def gN (i : Nat) : Tgt := fun d ρ => some (ρ.set i (.fr d))
theorem tg_name {i : Nat} : TgS X cl (gName i) (gN i) := fun R r e k => by
  cases e
  exact k _ (R.setF i r)
def gTs : List Nat → List D → Env → Option Env
  | [], [], ρ => some ρ
  | i :: is, d :: ds, ρ => gTs is ds (ρ.set i (.fr d))
  | _, _, _ => none
def gT (is : List Nat) : Tgt := fun d ρ => match d with
  | .tup ds => gTs is ds ρ
  | _ => none
def gsOf : List Nat → TGs
  | [] => gNil
  | i :: is => gCons (gName i) (gsOf is)
theorem gTs_len : ∀ {is : List Nat} {ds : List D} {ρ ρ' : Env}, gTs is ds ρ = some ρ' → ds.length = is.length
  | [], [], _, _, _ => rfl
  | _ :: _, _ :: _, _, _, h => congrArg (· + 1) (gTs_len (by simpa only [gTs] using h))
  | [], _ :: _, _, _, h => by simp only [gTs, reduceCtorEq] at h
  | _ :: _, [], _, _, h => by simp only [gTs, reduceCtorEq] at h
theorem tgs_names {G0 : Gh} {H0 : Hp} {S : Store} {G : Gh} {H : Hp} {Q : L2.St → Hp → Prop} : ∀ {is : List Nat} {ds : List D} {vs : List V} {ρ ρ' : Env} {σ : L2.St}, Rel X.K cl G0 H0 S ρ G σ H → RepAll X.K cl G.mu G.Z vs ds → gTs is ds ρ = some ρ' → (∀ σ', Rel X.K cl G0 H0 S ρ' G σ' H → Q σ' H) → gsOf is vs σ H Q
  | [], [], _, _, _, _, R, r, h, k => by
    cases r
    simp only [gTs] at h
    cases h
    exact ⟨rfl, k _ R⟩
  | i :: is, d :: ds, _, _, _, _, R, r, h, k => by
    cases r with
    | cons r1 r2 => exact ⟨_, _, rfl, tgs_names (R.setF i r1) r2 (by simpa only [gTs] using h) k⟩
  | [], _ :: _, _, _, _, _, R, r, h, k => by simp only [gTs, reduceCtorEq] at h
  | _ :: _, [], _, _, _, _, R, r, h, k => by simp only [gTs, reduceCtorEq] at h
theorem tg_tup {is : List Nat} {n : Nat} (hn : is.length = n) : TgS X cl (gTup X.K n (gsOf is)) (gT is) := fun {G0 H0 S ρ ρ' G σ H x d Q} R r e k => by
  cases d <;> simp only [gT, reduceCtorEq] at e
  cases r with
  | tup hs ra => exact ⟨_, _, rfl, sameT R.ok.zsub hs, by rw [ra.length, gTs_len e, hn], tgs_names R ra e k⟩

/-! ### for -/
def forS (tg : Tgt) (body : Stm) : List D → Stm
  | [] => sNx
  | d :: ds => fun ρ S => match tg d ρ with
    | none => .stuck
    | some ρ1 => match body ρ1 S with
      | .nx ρ' S' => forS tg body ds ρ' S'
      | .ct ρ' S' => forS tg body ds ρ' S'
      | .bk ρ' S' => .nx ρ' S'
      | .rt v S' => .rt v S'
      | .exc n ρ' S' => .exc n ρ' S'
      | .stuck => .stuck
def sFor (ci : Ix) (tg : Tgt) (body : Stm) : Stm := sEx ci fun ds ρ S => forS tg body ds ρ S
theorem ss_for {iter : Expr} {body : List Stmt} {g : TG} {gt : Tgt} {ci : Ix} {cb : Stm} (hp : PassesOwn (model X.prog X.w) X.A X.env X.xe) (hc : X.calm = true) (hi : SI X cl W tg iter ci) (hg : PG X tg g) (hgs : TgS X cl g gt) (hb : SSs X cl W body cb)
    (hs : ∀ x, foldedSetIterable iter X.env x = pure x := by intro _; rfl) : SS X cl W (.For tg iter body [] pos) (sFor ci gt cb) := PS.weak (ps_for hp hc hi hg hb hs) fun D σ H ⟨G0, H0, S, ρ, G, R, h⟩ => by
  refine ⟨G0, H0, S, ρ, G, R, ?_⟩
  unfold sFor sEx at h
  cases q : ci ρ S with
  | exc n S' => rw [q] at h; exact fun G' H' R' s => h G' σ H' R' s.zle
  | stuck => rw [q] at h; exact h
  | ok ds S1 =>
    rw [q] at h
    intro J G1 H1 R1 s1 it
    refine ⟨fun i m σ H => ∃ (S : Store) (ρ : Env) (G : Gh), Rel X.K cl G0 H0 S ρ G σ H ∧ Zle G1 G ∧ m = ds.length - i ∧ i ≤ ds.length ∧ AftS X.K cl W G0 H0 G D (forS gt cb (ds.drop i) ρ S), ⟨_, S1, ρ, G1, R1, Zle.refl _, rfl, Nat.zero_le _, by rw [List.drop_zero]; exact h.pre s1.zle⟩, ?_⟩
    rintro i m σ H ⟨S, ρ, G, R, z, rfl, hi, h⟩
    by_cases hlt : i < ds.length
    · right
      have hd : ds[i]? = some ds[i] := List.getElem?_eq_getElem hlt
      obtain ⟨go, yl⟩ := it.go S ρ G σ H i _ R z hd
      rw [List.drop_eq_getElem_cons hlt] at h
      refine ⟨go, fun σ H => ∃ (S : Store) (ρ : Env) (G : Gh), Rel X.K cl G0 H0 S ρ G σ H ∧ Zle G1 G ∧ AftS X.K cl W G0 H0 G D (forS gt cb (ds.drop (i + 1)) ρ S), fun σ' H' ⟨S', ρ', G', R', z', h'⟩ => ⟨ds.length - (i + 1), by omega, S', ρ', G', R', z', rfl, hlt, h'⟩, fun x H2 y => ?_⟩
      obtain ⟨rfl, rx⟩ := yl x H2 y
      unfold forS at h
      cases qt : gt ds[i] ρ with
      | none => simp only [qt, AftS] at h
      | some ρ1 =>
        simp only [qt] at h
        refine hgs R rx qt fun σ2 R2 => ⟨G0, H0, S, ρ1, G, R2, ?_⟩
        cases qb : cb ρ1 S with
        | nx ρ' S' => simp only [qb] at h; exact fun G' σ' H' R' z' => ⟨S', ρ', G', R', z.trans z', h.pre z'⟩
        | ct ρ' S' => simp only [qb] at h; exact fun G' σ' H' R' z' => ⟨S', ρ', G', R', z.trans z', h.pre z'⟩
        | bk ρ' S' => simp only [qb] at h; exact fun G' σ' H' R' z' => h G' σ' H' R' z'
        | rt v S' => simp only [qb] at h; exact h
        | exc n ρ' S' => simp only [qb] at h; exact h
        | stuck => simp only [qb] at h; exact h
    · left
      have e : i = ds.length := by omega
      subst e
      rw [List.drop_length] at h
      exact ⟨it.stop S ρ G σ H R z, h G σ H R (Zle.refl _)⟩

/-! ### while -/
def whileS (tc : Tx) (body : Stm) : Nat → Stm
  | 0 => fun _ _ => .stuck
  | n + 1 => sEx tc fun k ρ S => if k = true then (match body ρ S with
      | .nx ρ' S' => whileS tc body n ρ' S'
      | .ct ρ' S' => whileS tc body n ρ' S'
      | .bk ρ' S' => .nx ρ' S'
      | .rt v S' => .rt v S'
      | .exc n ρ' S' => .exc n ρ' S'
      | .stuck => .stuck) else .nx ρ S
/-- so many turns are never gone; a bound that is never reckoned -/
def FUEL : Nat := 2 ^ 64
def sWhile (tc : Tx) (body : Stm) : Stm := whileS tc body FUEL
theorem ss_while {cnd : Expr} {body : List Stmt} {tc : Tx} {cb : Stm} (hp : PassesOwn (model X.prog X.w) X.A X.env X.xe) (hc : STt X cl W cnd tc) (hb : SSs X cl W body cb) : SS X cl W (.While cnd body [] pos) (sWhile tc cb) := PS.weak (ps_while hp hc hb) fun D σ H ⟨G0, H0, S, ρ, G, R, h⟩ => by
  refine ⟨fun m σ H => ∃ (S : Store) (ρ : Env) (G : Gh), Rel X.K cl G0 H0 S ρ G σ H ∧ AftS X.K cl W G0 H0 G D (whileS tc cb m ρ S), ⟨FUEL, S, ρ, G, R, h⟩, ?_⟩
  rintro m σ H ⟨S, ρ, G, R, h⟩
  cases m with
  | zero => exact h.elim
  | succ m =>
    unfold whileS at h
    refine sEx_at (P := PT1) R h fun S' d v G' H' R' s p q => ?_
    cases (show v = d from p)
    cases d with
    | false => exact q G' σ H' R' (Zle.refl _)
    | true =>
      rw [if_pos rfl] at q ⊢
      refine ⟨fun σ H => ∃ (S : Store) (ρ : Env) (G : Gh), Rel X.K cl G0 H0 S ρ G σ H ∧ AftS X.K cl W G0 H0 G D (whileS tc cb m ρ S), fun σ' H' h => ⟨m, Nat.lt_succ_self _, h⟩, G0, H0, S', ρ, G', R', ?_⟩
      cases qb : cb ρ S' with
      | nx ρ' S2 => simp only [qb] at q; exact fun G2 σ2 H2 R2 z => ⟨S2, ρ', G2, R2, q.pre z⟩
      | ct ρ' S2 => simp only [qb] at q; exact fun G2 σ2 H2 R2 z => ⟨S2, ρ', G2, R2, q.pre z⟩
      | bk ρ' S2 => simp only [qb] at q; exact fun G2 σ2 H2 R2 z => q G2 σ2 H2 R2 z
      | rt v S2 => simp only [qb] at q; exact q
      | exc n ρ' S2 => simp only [qb] at q; exact q
      | stuck => simp only [qb] at q; exact q

/-! ### list comprehensions -/
def wipeE (ρ : Env) : List Nat → Env
  | [] => ρ
  | v :: vs => (wipeE ρ vs).set v .un
theorem Rel.wipe {K : PySem.W.Frag} {G0 G : Gh} {H0 H : Hp} {S : Store} {ρ : Env} {σ : L2.St} (R : Rel K cl G0 H0 S ρ G σ H) : ∀ vs : List Nat, Rel K cl G0 H0 S (wipeE ρ vs) G (L2.wipe σ vs) H
  | [] => R
  | v :: vs => (Rel.wipe R vs).setU v none
theorem wipe_set {i : Nat} {o : Option V} : ∀ {vs : List Nat} {σ : L2.St}, i ∈ vs → L2.wipe (σ.set i o) vs = L2.wipe σ vs
  | v :: vs, σ, h => by
    unfold L2.wipe
    by_cases hv : i ∈ vs
    · rw [wipe_set hv]
    · have e : i = v := by simpa [hv] using h
      subst e
      have comm : ∀ (us : List Nat) (σ : L2.St), i ∉ us → L2.wipe (σ.set i o) us = (L2.wipe σ us).set i o := fun us => by
        induction us with
        | nil => intro σ _; rfl
        | cons u us ih =>
          intro σ hu
          unfold L2.wipe
          rw [ih σ fun q => hu (List.mem_cons_of_mem _ q), List.set_comm _ _ (show i ≠ u from fun q => hu (by simp [q]))]
      rw [comm vs σ hv, List.set_set]
theorem wipe_wipe : ∀ (us : List Nat) (vs : List Nat) (σ : L2.St), (∀ u ∈ us, u ∈ vs) → L2.wipe (L2.wipe σ us) vs = L2.wipe σ vs
  | [], vs, σ, _ => rfl
  | u :: us, vs, σ, h => by
    show L2.wipe ((L2.wipe σ us).set u none) vs = _
    rw [wipe_set (h u (by simp)), wipe_wipe us vs σ fun x hx => h x (List.mem_cons_of_mem _ hx)]
def lcS (tg : Tgt) (tt : Tx) (elt : Ex) (ρ : Env) : List D → List D → Store → Res D
  | [], acc, S => .ok (.lst acc) S
  | d :: ds, acc, S => match tg d ρ with
    | none => .stuck
    | some ρ1 => match tt ρ1 S with
      | .ok k S => if k = true then (match elt ρ1 S with
          | .ok y S => if acc.length < 1000000 then lcS tg tt elt ρ ds (acc ++ [y]) S else .stuck
          | _ => .stuck) else lcS tg tt elt ρ ds acc S
      | _ => .stuck
def eLc (own : List Nat) (ci : Ix) (tg : Tgt) (tt : Tx) (elt : Ex) : Ex := fun ρ S => (ci ρ S).bind fun ds S => lcS tg tt elt (wipeE ρ own) ds [] S
def tYesD : Tx := fun _ S => .ok true S
abbrev W0 : WX := fun _ _ _ _ => False
abbrev STs (X : Cx) (cl : Nat → Addr) (W : WX) (ifs : List Expr) (c : Tx) : Prop := PTs X ifs (tX X.K cl PT1 W c)
theorem sts_nil : STs X cl W [] tYesD := ⟨fun pins s σ H Q I ⟨G0, H0, S, ρ, G, R, h⟩ => pts_nil.run pins s σ H Q I (h true G H R (Stp.refl _ _) rfl)⟩
theorem sts_one {cnd : Expr} {tc : Tx} (h : STt X cl W cnd tc) : STs X cl W [cnd] tc := pts_one h
/-- targets within a block: the block's own slots alone -/
def TgO (g : TG) (own : List Nat) : Prop := ∀ x σ H (Q Q' : L2.St → Hp → Prop), g x σ H Q → (∀ σ' H', Q σ' H' → H' = H → L2.wipe σ' own = L2.wipe σ own → Q' σ' H') → g x σ H Q'
theorem tgo_name {i : Nat} {own : List Nat} (h : i ∈ own) : TgO (gName i) own := fun x σ H Q Q' q k => k _ _ q rfl (wipe_set h)
theorem tgso {own : List Nat} : ∀ {is : List Nat} (h : ∀ i ∈ is, i ∈ own) (vs : List V) (σ : L2.St) (H : Hp) (Q Q' : L2.St → Hp → Prop), gsOf is vs σ H Q → (∀ σ' H', Q σ' H' → H' = H → L2.wipe σ' own = L2.wipe σ own → Q' σ' H') → gsOf is vs σ H Q'
  | [], _, vs, σ, H, Q, Q', q, k => ⟨q.1, k _ _ q.2 rfl rfl⟩
  | i :: is, h, vs, σ, H, Q, Q', ⟨v, r, e, q⟩, k => ⟨v, r, e, tgso (is := is) (fun j hj => h j (List.mem_cons_of_mem _ hj)) r (σ.set i (some v)) H Q Q' q fun σ' H' q' e1 e2 => k σ' H' q' e1 (e2.trans (wipe_set (h i (by simp))))⟩
theorem tgo_tup {K : PySem.W.Frag} {is own : List Nat} {n : Nat} (h : ∀ i ∈ is, i ∈ own) : TgO (gTup K n (gsOf is)) own := fun x σ H Q Q' ⟨a, xs, e, hs, hl, q⟩ k => ⟨a, xs, e, hs, hl, tgso h xs σ H Q Q' q k⟩
theorem lc_sem {G0 : Gh} {H0 : Hp} {g : TG} {gt : Tgt} {own : List Nat} {tt : Tx} {elt : Ex} {ds : List D} {J : It} {Gs G1 : Gh} {Hs H1 : Hp} {S1 : Store} {ρ : Env} {σ : L2.St} {Q : VK} (R1 : Rel X.K cl G0 H0 S1 ρ G1 σ H1) (s1 : Stp Gs Hs G1 H1) (it : IterOk X.K cl J ds G0 H0 G1)
    (hgs : TgS X cl g gt) (hgo : TgO g own) (h : Aft X.K cl (PN X.K cl) W G0 H0 ρ σ Gs Hs (lcS gt tt elt (wipeE ρ own) ds [] S1) Q) (L : Addr) (hL : H1 L = none) :
    ∃ Wv : Nat → Nat → Hp → Prop, (∃ m, Wv 0 m (upd H1 L (.lst []))) ∧ ∀ i m H, Wv i m H → (J.stop i H ∧ Q (.ref L) H) ∨ (J.go i H ∧ ∃ Nx : Hp → Prop, (∀ H', Nx H' → ∃ m', m' < m ∧ Wv (i + 1) m' H') ∧ ∀ x H', J.yld i H x H' → g x (L2.wipe σ own) H' fun σ2 H2 => L2.wipe σ2 own = L2.wipe σ own ∧ (tX X.K cl PT1 W0 tt) σ2 H2 fun b H3 =>
      if b = true then (tX X.K cl (PF X.K cl) W0 elt) σ2 H3 fun y H4 => ∃ acc, H4 L = some (.lst acc) ∧ acc.length < sizeLine ∧ Nx (upd H4 L (.lst (acc ++ [y]))) else Nx H3) := by
  have hLs : Hs L = none := s1.dom L hL
  let Wv : Nat → Hp → Prop := fun i H => ∃ (S : Store) (G : Gh) (vs : List V) (acc : List D), Rel X.K cl G0 H0 S ρ G σ H ∧ Stp Gs Hs G H ∧ Zle G1 G ∧ H L = some (.lst vs) ∧ RepAll X.K cl G.mu G.Z vs acc ∧ G.lab L = none ∧ G.Z L = none ∧ i ≤ ds.length ∧
    Aft X.K cl (PN X.K cl) W G0 H0 ρ σ Gs Hs (lcS gt tt elt (wipeE ρ own) (ds.drop i) acc S) Q
  refine ⟨fun i m H => m = ds.length - i ∧ Wv i H, ⟨_, rfl, ?_⟩, ?_⟩
  · obtain ⟨R2, s2, n⟩ := R1.newL hL (vs := []) (ds := []) .nil
    exact ⟨S1, G1, [], [], R2, s1.trans s2, Zle.refl _, upd_same, .nil, (n.2 L (by simp)).1, (n.2 L (by simp)).2, Nat.zero_le _, by rw [List.drop_zero]; exact h⟩
  · rintro i m H ⟨rfl, S, G, vs, acc, R, s, z, hv, r, l1, l2, hi, h⟩
    by_cases hlt : i < ds.length
    · right
      have hd : ds[i]? = some ds[i] := List.getElem?_eq_getElem hlt
      obtain ⟨go, yl⟩ := it.go S ρ G σ H i _ R z hd
      rw [List.drop_eq_getElem_cons hlt] at h
      refine ⟨go, fun H' => Wv (i + 1) H', fun H' w => ⟨ds.length - (i + 1), by omega, rfl, w⟩, fun x H2 y => ?_⟩
      obtain ⟨rfl, rx⟩ := yl x H2 y
      unfold lcS at h
      cases qt : gt ds[i] (wipeE ρ own) with
      | none => simp only [qt, Aft] at h
      | some ρ1 =>
        simp only [qt] at h
        refine hgo _ _ _ _ _ (hgs (Q := fun σ' H' => Rel X.K cl G0 H0 S ρ1 G σ' H2) (R.wipe own) rx qt fun σ2 R2 => R2) fun σ2 H2' R2 eH hw => ⟨hw.trans (wipe_wipe own own σ fun _ h => h), G0, H0, S, ρ1, G, by rw [eH]; exact R2, ?_⟩
        subst eH
        cases qtt : tt ρ1 S with
        | exc n S2 => simp only [qtt, Aft] at h
        | stuck => simp only [qtt, Aft] at h
        | ok k S2 =>
          simp only [qtt] at h
          intro b G2 H3 R3 s3 eb
          obtain rfl : b = k := eb
          have out : ∀ {G' : Gh} {H' : Hp}, Stp G H2' G' H' → H' L = some (.lst vs) ∧ G'.lab L = none ∧ G'.Z L = none := fun {G' H'} st => by
            refine ⟨st.keep L _ hv (fun l e => by rw [l1] at e; cases e), ?_, ?_⟩
            · cases e : G'.lab L with
              | none => rfl
              | some l =>
                rcases st.labn L l e with h | h
                · rw [l1] at h; cases h
                · rw [hv] at h; cases h
            · cases e : G'.Z L with
              | none => rfl
              | some o =>
                rcases st.zn L o e with h | h
                · rw [l2] at h; cases h
                · rw [hv] at h; cases h
          cases b with
          | false =>
            obtain ⟨o1, o2, o3⟩ := out s3
            exact ⟨S2, G2, vs, acc, R.step s3 R3.ok, s.trans s3, z.trans s3.zle, o1, RepAll.mono s3.z s3.mu _ _ r, o2, o3, hlt, h⟩
          | true =>
            rw [if_pos rfl]
            refine ⟨G0, H0, S2, ρ1, G2, R3, ?_⟩
            cases qe : elt ρ1 S2 with
            | exc n S3 => simp only [qe, if_true, Aft] at h
            | stuck => simp only [qe, if_true, Aft] at h
            | ok y S3 =>
              simp only [qe, if_true] at h
              intro yv G3 H4 R4 s4 ry
              have s34 := s3.trans s4
              obtain ⟨o1, o2, o3⟩ := out s34
              split at h
              · rename_i hz
                refine ⟨vs, o1, by rw [r.length]; exact lim_lt hz, S3, G3, vs ++ [yv], acc ++ [y], (R.step s34 R4.ok).poke o2 o3 (R1.stp.dom L hL) ⟨_, o1⟩ _, (s.trans s34).poke hLs _, z.trans s34.zle, upd_same, (RepAll.mono s34.z s34.mu _ _ r).append (.cons ry .nil), o2, o3, hlt, h⟩
              · exact h.elim
    · left
      have e : i = ds.length := by omega
      subst e
      rw [List.drop_length] at h
      exact ⟨it.stop S ρ G σ H R z, h _ G H R s ⟨L, [L], rfl, ⟨.lst hv r, fun b hb => by simp at hb; subst hb; exact ⟨l1, l2⟩⟩, fun b hb => by simp at hb; subst hb; exact hLs⟩⟩
theorem sn_lc {elt iter : Expr} {ifs : List Expr} {scope : Scope} {own : List (Str × Nat)} {g : TG} {gt : Tgt} {ci : Ix} {tt : Tx} {ce : Ex} (hc : X.calm = true) (hN : X.N.Nodup) (hi : SI X cl W tg iter ci) (ok : BlkOk X.N X.env.scope scope own)
    (hg : ∀ (s : Shared) (H : Hp) (C : Addr) (cs : List (Str × Addr)) (fp : List Addr), PG (X.blk s H scope (compEnvC scope cs C X.env) fp) tg g) (hgs : TgS X cl g gt) (hgo : TgO g (own.map (·.2)))
    (ht : ∀ (s : Shared) (H : Hp) (C : Addr) (cs : List (Str × Addr)) (fp : List Addr), STs (X.blk s H scope (compEnvC scope cs C X.env) fp) cl W0 ifs tt) (he : ∀ (s : Shared) (H : Hp) (C : Addr) (cs : List (Str × Addr)) (fp : List Addr), SE (X.blk s H scope (compEnvC scope cs C X.env) fp) cl W0 elt ce)
    (hs : ∀ x, foldedSetIterable iter X.env x = pure x := by intro _; rfl) : SN X cl W (.ListComp elt [⟨tg, iter, ifs, 0⟩] scope pos) (eLc (own.map (·.2)) ci gt tt ce) := PE.weak (pe_lc (tt := tX X.K cl PT1 W0 tt) (te := tX X.K cl (PF X.K cl) W0 ce) hc hN hi ok hg ht he hs) fun σ H Q ⟨G0, H0, S, ρ, G, R, h⟩ => by
  refine ⟨G0, H0, S, ρ, G, R, ?_⟩
  unfold eLc at h
  cases q : ci ρ S with
  | exc n S' => rw [q] at h; exact h
  | stuck => rw [q] at h; exact h
  | ok ds S1 =>
    rw [q] at h
    exact fun J G1 H1 R1 s1 it L hL => lc_sem R1 s1 it hgs hgo h L hL
/-- name = [..] on one line -/
theorem ss_setLcN {i : Nat} {y : Str} {py spos : Pos} {elt iter : Expr} {ifs : List Expr} {scope : Scope} {own : List (Str × Nat)} {g : TG} {gt : Tgt} {ci : Ix} {tt : Tx} {ce : Ex} (hc : X.calm = true) (hN : X.N.Nodup) (hy : X.N[i]? = some y) (hyl : X.env.scope.names.lookup y = some .local)
    (hsw : swapsWith (.ListComp elt [⟨tg, iter, ifs, 0⟩] scope pos) (some (.Name y py)) spos.line X.env = pure true) (hi : SI X cl W tg iter ci) (ok : BlkOk X.N X.env.scope scope own)
    (hg : ∀ (s : Shared) (H : Hp) (C : Addr) (cs : List (Str × Addr)) (fp : List Addr), PG (X.blk s H scope (compEnvC scope cs C X.env) fp) tg g) (hgs : TgS X cl g gt) (hgo : TgO g (own.map (·.2)))
    (ht : ∀ (s : Shared) (H : Hp) (C : Addr) (cs : List (Str × Addr)) (fp : List Addr), STs (X.blk s H scope (compEnvC scope cs C X.env) fp) cl W0 ifs tt) (he : ∀ (s : Shared) (H : Hp) (C : Addr) (cs : List (Str × Addr)) (fp : List Addr), SE (X.blk s H scope (compEnvC scope cs C X.env) fp) cl W0 elt ce)
    (hs : ∀ x, foldedSetIterable iter X.env x = pure x := by intro _; rfl) : SS X cl W (.Assign [.Name y py] (.ListComp elt [⟨tg, iter, ifs, 0⟩] scope pos) spos) (sSetN i (eLc (own.map (·.2)) ci gt tt ce)) := PS.weak (ps_setLc (tt := tX X.K cl PT1 W0 tt) (te := tX X.K cl (PF X.K cl) W0 ce) hc hN hy hyl hsw hi ok hg ht he hs) fun D σ H ⟨G0, H0, S, ρ, G, R, h⟩ => by
  refine ⟨G0, H0, S, ρ, G, R, ?_⟩
  unfold sSetN sEx eLc at h
  cases q : ci ρ S with
  | exc n S' => simp only [q, Res.bind] at h; exact fun G' H' R' s => h G' σ H' R' s.zle
  | stuck => simp only [q, Res.bind] at h; exact h
  | ok ds S1 =>
    simp only [q, Res.bind] at h
    intro J G1 H1 R1 s1 it L hL
    refine lc_sem (W := W) (Q := fun x H1 => gName i x σ H1 D.nx) (tt := tt) (elt := ce) R1 s1 it hgs hgo ?_ L hL
    cases q2 : lcS gt tt ce (wipeE ρ (own.map (·.2))) ds [] S1 with
    | exc n S2 => simp only [q2] at h; exact fun G' H' R' s => h G' σ H' R' s.zle
    | stuck => simp only [q2] at h; exact h
    | ok d S2 =>
      simp only [q2] at h
      rintro v G' H' R' s ⟨a, as, rfl, n, hn⟩
      exact h _ _ H' (R'.setN i n fun b hb => R.stp.dom b (hn b hb)) ⟨s.z, s.mu⟩
theorem ss_setLc {i : Nat} {y : Str} {py spos : Pos} {elt iter : Expr} {ifs : List Expr} {scope : Scope} {own : List (Str × Nat)} {g : TG} {gt : Tgt} {ci : Ix} {tt : Tx} {ce : Ex} (hc : X.calm = true) (hN : X.N.Nodup) (hy : X.N[i]? = some y) (hyl : X.env.scope.names.lookup y = some .local)
    (hsw : swapsWith (.ListComp elt [⟨tg, iter, ifs, 0⟩] scope pos) (some (.Name y py)) spos.line X.env = pure true) (hi : SI X cl W tg iter ci) (ok : BlkOk X.N X.env.scope scope own)
    (hg : ∀ (s : Shared) (H : Hp) (C : Addr) (cs : List (Str × Addr)) (fp : List Addr), PG (X.blk s H scope (compEnvC scope cs C X.env) fp) tg g) (hgs : TgS X cl g gt) (hgo : TgO g (own.map (·.2)))
    (ht : ∀ (s : Shared) (H : Hp) (C : Addr) (cs : List (Str × Addr)) (fp : List Addr), STs (X.blk s H scope (compEnvC scope cs C X.env) fp) cl W0 ifs tt) (he : ∀ (s : Shared) (H : Hp) (C : Addr) (cs : List (Str × Addr)) (fp : List Addr), SE (X.blk s H scope (compEnvC scope cs C X.env) fp) cl W0 elt ce)
    (hs : ∀ x, foldedSetIterable iter X.env x = pure x := by intro _; rfl) : SS X cl W (.Assign [.Name y py] (.ListComp elt [⟨tg, iter, ifs, 0⟩] scope pos) spos) (sSet i (eLc (own.map (·.2)) ci gt tt ce)) := PS.weak (ss_setLcN hc hN hy hyl hsw hi ok hg hgs hgo ht he hs) fun D σ H ⟨G0, H0, S, ρ, G, R, h⟩ => by
  refine ⟨G0, H0, S, ρ, G, R, ?_⟩
  unfold sSet sEx at h
  unfold sSetN sEx
  cases q : eLc (own.map (·.2)) ci gt tt ce ρ S with
  | exc n S2 => simp only [q] at h ⊢; exact h
  | stuck => simp only [q] at h ⊢; exact h
  | ok d S2 =>
    simp only [q] at h ⊢
    intro G' σ' H' R' z
    by_cases hi2 : i < ρ.length
    · obtain ⟨G2, R2, z2⟩ := R'.thaw (i := i) (List.getElem?_set_self hi2)
      rw [List.set_set] at R2
      exact h G2 σ' H' R2 (z.trans z2)
    · have e1 : ∀ s : Slot, ρ.set i s = ρ := fun s => List.set_eq_of_length_le (by omega)
      rw [e1] at R' h
      exact h G' σ' H' R' z
end
end PM
set_option maxHeartbeats 1000000
/-! PM9: what a def promises, told of data; calls, methods, new instances, attributes; raise, try. -/
namespace PM
open PySem PySem.Spec PyProof.Rows L2

section
variable (K : PySem.W.Frag) (cl : Nat → Addr)
/-- the promise of a def whose worth is m; bm: which arguments are borrowed -/
def FnEnd (G : Gh) (H : Hp) (r : Res Val) (Q : VK) (E : XK) : Prop :=
  match r with
  | .ok v S' => RtOk K cl G H S' v Q
  | .exc n S' => ∀ G' H', GOk K cl S' G' H' → StOnly G' → Stp G H G' H' → E (.ref (cl n)) none H'
  | .stuck => False
def spOf (bm : List Bool) (m : Fn) : Sp := fun vs H Q E => ∃ (G : Gh) (S : Store) (ds : List D), GOk K cl S G H ∧ StOnly G ∧ ArgsOk K cl G H bm vs ds ∧ FnEnd K cl G H (m ds S) Q E
end
def parE : List Bool → List D → List Slot
  | true :: bm, d :: ds => .bo d :: parE bm ds
  | false :: bm, d :: ds => .fr d :: parE bm ds
  | _, _ => []
def startE (bm : List Bool) (ds : List D) (k : Nat) : Env := parE bm ds ++ List.replicate k .un
def fin (r : SR) : Res Val := match r with
  | .nx _ S => .ok (.fr .non) S
  | .rt v S => .ok v S
  | .exc n _ S => .exc n S
  | _ => .stuck
def mkFn (bm : List Bool) (k : Nat) (body : Stm) : Fn := fun ds S => fin (body (startE bm ds k) S)

section
variable {K : PySem.W.Frag} {cl : Nat → Addr} {W : WX} {G0 G G' G1 : Gh} {H0 H H' H1 : Hp} {S S' : Store} {ρ ρ' : Env} {σ : L2.St} {v : V} {d : D} {a : Addr} {as : List Addr} {i : Nat}
theorem ArgsOk.slots : ∀ {bm : List Bool} {vs : List V} {ds : List D}, ArgsOk K cl G H bm vs ds → StOnly G → ∀ (j i : Nat) (s : Slot), (parE bm ds)[i]? = some s → ∃ o, (vs.map some)[i]? = some o ∧ SlotOk K cl G H G H (.slot j) s o
  | _, _, _, .nil, _, _, _, _, h => by simp [parE] at h
  | _, _, _, .fr r t, hs, j, 0, s, h => by
    simp only [parE, List.getElem?_cons_zero, Option.some.injEq] at h
    subst h
    exact ⟨_, rfl, _, rfl, r⟩
  | _, _, _, .bo r t, hs, j, 0, s, h => by
    simp only [parE, List.getElem?_cons_zero, Option.some.injEq] at h
    subst h
    refine ⟨_, rfl, _, rfl, ?_⟩
    rcases r with r | ⟨a, as, e, c, q⟩
    · exact .inl r
    · refine .inr ⟨a, as, e, c, fun b hb => ?_⟩
      cases e2 : G.lab b with
      | none => rfl
      | some l =>
        have h1 := q b hb l e2
        rw [hs b l e2] at h1
        cases h1
  | _, _, _, .fr r t, hs, j, i + 1, s, h => by
    simp only [parE, List.getElem?_cons_succ] at h
    obtain ⟨o, h1, h2⟩ := t.slots hs j i s h
    exact ⟨o, by simpa using h1, h2⟩
  | _, _, _, .bo r t, hs, j, i + 1, s, h => by
    simp only [parE, List.getElem?_cons_succ] at h
    obtain ⟨o, h1, h2⟩ := t.slots hs j i s h
    exact ⟨o, by simpa using h1, h2⟩
theorem parE_len : ∀ {bm : List Bool} {vs : List V} {ds : List D}, ArgsOk K cl G H bm vs ds → (parE bm ds).length = vs.length
  | _, _, _, .nil => rfl
  | _, _, _, .fr r t => congrArg (· + 1) (parE_len t)
  | _, _, _, .bo r t => congrArg (· + 1) (parE_len t)
/-- the state at a def's entry -/
theorem Rel.start {bm : List Bool} {vs : List V} {ds : List D} {k n : Nat} (ok : GOk K cl S G H) (so : StOnly G) (p : ArgsOk K cl G H bm vs ds) (hn : n = k) : Rel K cl G H S (startE bm ds k) G (vs.map some ++ List.replicate n none) H := by
  have sl : ∀ i s, (startE bm ds k)[i]? = some s → ∃ o, (vs.map some ++ List.replicate n none)[i]? = some o ∧ SlotOk K cl G H G H (.slot i) s o := fun i s h => by
    unfold startE at h
    by_cases hi : i < (parE bm ds).length
    · rw [List.getElem?_append_left hi] at h
      obtain ⟨o, h1, h2⟩ := p.slots so i i s h
      exact ⟨o, by rw [List.getElem?_append_left (by rw [List.length_map, ← parE_len p]; exact hi)]; exact h1, h2⟩
    · rw [List.getElem?_append_right (by omega), List.getElem?_replicate] at h
      split at h
      · cases h
        rename_i h2
        refine ⟨none, ?_, trivial⟩
        rw [List.getElem?_append_right (by rw [List.length_map, ← parE_len p]; omega), List.getElem?_replicate, if_pos (by rw [List.length_map, ← parE_len p, hn]; exact h2)]
      · cases h
  exact ⟨ok, by unfold startE; rw [List.length_append, List.length_append, parE_len p, List.length_map, List.length_replicate, List.length_replicate, hn], sl, Stp.refl _ _, so⟩

/-- the caller's slots and what the callee left -/
def Gh.join (G G' : Gh) : Gh := { G' with lab := fun b => match G.lab b with
  | some l => if l.st = true then G'.lab b else some l
  | none => G'.lab b }
theorem join_cases {b : Addr} {l : Lab} (h : (G.join G').lab b = some l) : (G.lab b = some l ∧ l.st = false) ∨ G'.lab b = some l := by
  have h' : (match G.lab b with
    | some l => if l.st = true then G'.lab b else some l
    | none => G'.lab b) = some l := h
  cases q : G.lab b with
  | none => rw [q] at h'; exact .inr h'
  | some m =>
    rw [q] at h'
    simp only at h'
    split at h'
    · exact .inr h'
    · cases h'
      exact .inl ⟨rfl, by simpa using (by assumption : ¬ l.st = true)⟩
theorem join_slot {b : Addr} {l : Lab} (h : G.lab b = some l) (hs : l.st = false) : (G.join G').lab b = some l := by
  show (match G.lab b with
    | some l => if l.st = true then G'.lab b else some l
    | none => G'.lab b) = some l
  rw [h]
  simp [hs]
theorem join_new {b : Addr} (h : G.lab b = none) : (G.join G').lab b = G'.lab b := by
  show (match G.lab b with
    | some l => if l.st = true then G'.lab b else some l
    | none => G'.lab b) = G'.lab b
  rw [h]
theorem join_st {b : Addr} {l : Lab} (h : G.lab b = some l) (hs : l.st = true) : (G.join G').lab b = G'.lab b := by
  show (match G.lab b with
    | some l => if l.st = true then G'.lab b else some l
    | none => G'.lab b) = G'.lab b
  rw [h]
  simp [hs]
theorem Rel.join (R : Rel K cl G0 H0 S ρ G σ H) (ok : GOk K cl S' G' H') (so : StOnly G') (st : Stp G.out H G' H') : Rel K cl G0 H0 S' ρ (G.join G') σ H' ∧ Stp G H (G.join G') H' := by
  have slotOut : ∀ b l, G.lab b = some l → l.st = false → G.out.lab b = none := fun b l h hs => by
    cases e : G.out.lab b with
    | none => rfl
    | some m =>
      have := out_some.mp e
      rw [h] at this
      obtain ⟨h1, h2⟩ := this
      cases h1
      rw [hs] at h2
      cases h2
  -- a store label of the callee is one of the join
  have stl : ∀ b l, G'.lab b = some l → (G.join G').lab b = some l := fun b l h => by
    cases q : G.lab b with
    | none => rw [join_new q]; exact h
    | some m =>
      cases hm : m.st with
      | true => rw [join_st q hm]; exact h
      | false =>
        rcases st.labn b l h with h2 | h2
        · rw [slotOut b m q hm] at h2; cases h2
        · obtain ⟨_, o, h3⟩ := R.ok.labz b m q
          rw [h2] at h3; cases h3
  have sj : Stp G H (G.join G') H' := by
    refine ⟨st.z, fun b l h => ?_, fun b o h hs => st.keep b o h fun l hl => ?_, fun b l h => ?_, st.zn, st.mu, st.dom⟩
    · cases hl : l.st with
      | false => exact join_slot h hl
      | true => exact stl b l (st.lab b l (out_some.mpr ⟨h, hl⟩))
    · exact hs l (out_some.mp hl).1
    · rcases join_cases h with ⟨h1, _⟩ | h1
      · exact .inl h1
      · rcases st.labn b l h1 with h2 | h2
        · exact .inl (out_some.mp h2).1
        · exact .inr h2
  refine ⟨R.step sj ⟨ok.zsub, fun b l h => ?_, fun n c e => (ok.st n c e).mono (fun _ _ _ _ _ e => e) (Same.refl _) (fun b l e _ => stl b l e) ⟨[], by simp [Gh.join]⟩, ok.stn⟩, sj⟩
  rcases join_cases h with ⟨h1, h2⟩ | h1
  · obtain ⟨z, o, ho⟩ := R.ok.labz b l h1
    refine ⟨?_, o, st.keep b o ho fun l' e => ?_⟩
    · cases q : G'.Z b with
      | none => exact q
      | some o' =>
        rcases st.zn b o' q with h3 | h3
        · have z' : G.out.Z b = none := z
          rw [z'] at h3; cases h3
        · rw [ho] at h3; cases h3
    · rw [slotOut b l h1 h2] at e; cases e
  · exact ok.labz b l h1
theorem ArgsOk.out : ∀ {bm : List Bool} {vs : List V} {ds : List D}, ArgsOk K cl G H bm vs ds → ArgsOk K cl G.out H bm vs ds
  | _, _, _, .nil => .nil
  | _, _, _, .fr r t => .fr r t.out
  | _, _, _, .bo r t => .bo (by
    rcases r with r | ⟨a, as, e, c, q⟩
    · exact .inl r
    · exact .inr ⟨a, as, e, c, fun b hb l h => q b hb l (out_some.mp h).1⟩) t.out
/-- what a call is worth -/
def resF (r : Res Val) : Res D := match r with
  | .ok (.fr d) S => .ok d S
  | .ok (.ow d) S => .ok d S
  | .exc n S => .exc n S
  | .stuck => .stuck
def resN (r : Res Val) : Res D := match r with
  | .ok (.ow d) S => .ok d S
  | .exc n S => .exc n S
  | _ => .stuck
theorem new_join (R : Rel K cl G0 H0 S ρ G σ H) (n : NewAt K cl G' H' a d as) (hn : ∀ b ∈ as, H b = none) : NewAt K cl (G.join G') H' a d as :=
  ⟨n.1, fun b hb => ⟨by rw [join_new (R.nobody (hn b hb)).1]; exact (n.2 b hb).1, (n.2 b hb).2⟩⟩
theorem call_semF {r : Res Val} {Q : VK} (R : Rel K cl G0 H0 S ρ G σ H) (h : Aft K cl (PF K cl) W G0 H0 ρ σ G H (resF r) Q) : FnEnd K cl G.out H r Q (WE W σ) := by
  cases r with
  | ok v S' =>
    cases v with
    | fr d =>
      intro v G' H' ok so st r
      obtain ⟨R', s'⟩ := R.join ok so st
      exact h v _ H' R' s' r
    | ow d =>
      intro a as G' H' ok so st n hn
      obtain ⟨R', s'⟩ := R.join ok so st
      obtain ⟨R2, s2, rp⟩ := R'.freeze R.stp s' (new_join R n hn) hn
      exact h _ _ H' R2 s2 rp
  | exc n S' =>
    intro G' H' ok so st
    obtain ⟨R', s'⟩ := R.join ok so st
    exact h _ H' R' s'
  | stuck => exact h
theorem call_semN {r : Res Val} {Q : VK} (R : Rel K cl G0 H0 S ρ G σ H) (h : Aft K cl (PN K cl) W G0 H0 ρ σ G H (resN r) Q) : FnEnd K cl G.out H r Q (WE W σ) := by
  cases r with
  | ok v S' =>
    cases v with
    | fr d => exact h.elim
    | ow d =>
      intro a as G' H' ok so st n hn
      obtain ⟨R', s'⟩ := R.join ok so st
      exact h _ _ H' R' s' ⟨a, as, rfl, new_join R n hn, hn⟩
  | exc n S' =>
    intro G' H' ok so st
    obtain ⟨R', s'⟩ := R.join ok so st
    exact h _ H' R' s'
  | stuck => exact h
end

/-! ### a def -/
section
variable {P : Program} {w : World} {K : PySem.W.Frag} {mg : Str → Option Value} {base : Heap} {cl : Nat → Addr}
theorem fn_ok {x qual : Str} {st : Stmt} {f : Addr} {fd : FuncData} {N ps : List Str} {lv k : Nat} {bm : List Bool} {body : Stm} (F : Fun K x qual st f fd) (Sc : FnScope N ps (defScope st)) (hbm : bm.length = ps.length) (hk : N.length = ps.length + k)
    (hbody : ∀ (cdv : Value) (A : Around) (outer : List PySem.Env) (s : Shared) (H : Hp) (E : XK), Room lv (A.deeper (envOfC qual (defScope st) s.heap.objs.size f cdv)) →
      Takes (cxOf (L2.CX P w) P w K mg base N qual (defScope st) f cdv A outer s H E) (fun c d _ H => E c d H) →
      SSs (cxOf (L2.CX P w) P w K mg base N qual (defScope st) f cdv A outer s H E) cl (fun c d _ H => E c d H) (defBody st) body) : FnOk P w K mg base (L2.CX P w) (lv + 1) f fd ps (spOf K cl bm (mkFn bm k body)) := by
  refine F.okX Sc (fun vs H Q E ⟨G, S, ds, ok, so, p, q⟩ => (p.len.1).trans hbm) (fun cdv A outer s H vs Q E hr ⟨G, S, ds, ok, so, p, q⟩ => ?_)
  refine ⟨_, hbody cdv A outer s H E hr (takes_of rfl rfl rfl rfl), G, H, S, startE bm ds k, G, Rel.start ok so p (by rw [p.len.1, hbm, hk]; omega), ?_⟩
  unfold mkFn at q
  cases r : body (startE bm ds k) S with
  | nx ρ' S' => rw [r] at q; exact fun G' σ' H' R' z => q .non _ H' R'.leave.1 out_only R'.leave.2 .non
  | rt v S' => rw [r] at q; exact q
  | exc n ρ' S' => rw [r] at q; exact fun G' σ' H' R' z => q _ H' R'.leave.1 out_only R'.leave.2
  | bk ρ' S' => rw [r] at q; exact q.elim
  | ct ρ' S' => rw [r] at q; exact q.elim
  | stuck => rw [r] at q; exact q.elim
end

/-! ### calls -/
section
variable {X : Cx} {cl : Nat → Addr} {W : WX} {e o : Expr} {es : List Expr} {pos : Pos} {k : Nat} {f : Addr} {fd : FuncData} {ps : List Str} {m : Fn} {bm : List Bool} {x : Str} {p : Pos} {ax : Ax}
def eCall (m : Fn) (ca : Ax) : Ex := fun ρ S => (ca ρ S).bind fun ds S => resF (m ds S)
def eCallN (m : Fn) (ca : Ax) : Ex := fun ρ S => (ca ρ S).bind fun ds S => resN (m ds S)
theorem se_call (F : FnOk X.prog X.w X.K X.mg X.base (L2.CX X.prog X.w) k f fd ps (spOf X.K cl bm m)) (hr : Room k X.A) (hg : Gl X x) (hm : X.mg x = some (.ref f)) (hk : PySem.W.keepIn X.K (.ref f) = true) (hb : Binds X.K fd ps []) (tk : Takes X W) (ha : SA X cl W bm (e :: es) ax)
    (hdb : (x == ("__debug__" : Str)) = false := by decide) (he : starEach (e :: es) X.env = (false, eval e X.env) :: starEach es X.env := by rfl) (hpl : (backTo pos (starEach es X.env)).any (·.1) = false := by rfl) : SE X cl W (.Call (.Name x p) (e :: es) [] pos) (eCall m ax) :=
  PE.weak (pe_callS F hr hg hm hk hb (passAt tk) ha hdb he hpl) fun σ H Q ⟨G0, H0, S, ρ, G, R, h⟩ => by
    refine tX.bind (Pa := PA1 X.K cl bm) pfM R h fun ds vs S1 G1 H1 R1 s1 p1 h1 => ?_
    exact ⟨G1.out, S1, ds, R1.leave.1, out_only, ArgsOk.out p1, call_semF R1 h1⟩
theorem sn_call (F : FnOk X.prog X.w X.K X.mg X.base (L2.CX X.prog X.w) k f fd ps (spOf X.K cl bm m)) (hr : Room k X.A) (hg : Gl X x) (hm : X.mg x = some (.ref f)) (hk : PySem.W.keepIn X.K (.ref f) = true) (hb : Binds X.K fd ps []) (tk : Takes X W) (ha : SA X cl W bm (e :: es) ax)
    (hdb : (x == ("__debug__" : Str)) = false := by decide) (he : starEach (e :: es) X.env = (false, eval e X.env) :: starEach es X.env := by rfl) (hpl : (backTo pos (starEach es X.env)).any (·.1) = false := by rfl) : SN X cl W (.Call (.Name x p) (e :: es) [] pos) (eCallN m ax) :=
  PE.weak (pe_callS F hr hg hm hk hb (passAt tk) ha hdb he hpl) fun σ H Q ⟨G0, H0, S, ρ, G, R, h⟩ => by
    refine tX.bind (Pa := PA1 X.K cl bm) pnM R h fun ds vs S1 G1 H1 R1 s1 p1 h1 => ?_
    exact ⟨G1.out, S1, ds, R1.leave.1, out_only, ArgsOk.out p1, call_semN R1 h1⟩

/-! ### methods, by the class that the receiver has -/
/-- a method of the class C that keeps the promise sp -/
def MethOk (X : Cx) (m : Str) (C : Addr) (sp : Sp) : Prop := ∃ (g : Addr) (fd : FuncData) (j : Nat) (ps : List Str), Cls X.K C ∧ Meth X.K C m g ∧ FnOk X.prog X.w X.K X.mg X.base (L2.CX X.prog X.w) j g fd ps sp ∧ Room j X.A ∧ Binds X.K fd ps []
def tMD (X : Cx) (m : Str) (W : WX) (ta : TE) (t : TA) : TE := fun σ H Q => ta σ H fun v H1 => ∃ (a C dx : Addr) (fs : List (Str × V)) (sp : Sp), v = .ref a ∧ H1 a = some (.ins C dx fs) ∧ fs.lookup m = none ∧ MethOk X m C sp ∧ t σ H1 fun vs H2 => sp (v :: vs) H2 Q (WE W σ)
theorem pe_md {mn : Str} {apos : Pos} {ta : TE} {t : TA} {pl : Sem Bool} (ho : PE X o ta) (tk : Takes X W) (ha : PA X (e :: es) t)
    (hst : starEach (e :: es) X.env = (false, eval e X.env) :: starEach es X.env := by rfl) (hpl : (backTo pos (starEach es X.env)).any (·.1) = false := by rfl)
    (ht : eval (.Call (.Attribute o mn apos) (e :: es) [] pos) X.env = (do
      let ov ← eval o X.env
      standAt apos.atName
      let (f, first) ← holding [ov] (getMethod ov mn pl)
      callWith pos f first (backTo pos (starEach (e :: es) X.env)) (backToKw pos (keywordEach [] X.env))) := by rfl) : PE X (.Call (.Attribute o mn apos) (e :: es) [] pos) (tMD X mn W ta t) :=
  ⟨fun pins s σ H Q I h => PySem.W.methodCall_KW (pl := pl) (thn (ho.run pins s σ H _ I h) fun u s1 ⟨v, H1, I1, rv, a, C, dx, fs, sp, ev, ea, l, ⟨g, fd, j, ps, c, hm, F, hr, hb⟩, q⟩ => by
    subst ev
    cases (show u = Value.ref a from rv)
    refine getmeth_ok I1 ea c hm l ?_
    refine PySem.W.callWith_K (first := [.ref a]) (h₀ := X.base) I.ok.mod.kin hm.kp (thn (ha.run pos pins s1 σ H1 _ I1 q) fun us s2 ⟨vs, H2, I2, r, q2⟩ => ⟨I2.kIn, ?_⟩) hst hpl
    exact run_fnS (E := WE W) (us := Value.ref a :: us) (vs := V.ref a :: vs) F hr hb (passAt tk σ) I2 (.cons rfl r) q2) ht⟩
theorem pe_md0 {mn : Str} {apos : Pos} {ta : TE} {pl : Sem Bool} (ho : PE X o ta) (tk : Takes X W)
    (ht : eval (.Call (.Attribute o mn apos) [] [] pos) X.env = (do
      let ov ← eval o X.env
      standAt apos.atName
      let (f, first) ← holding [ov] (getMethod ov mn pl)
      callWith pos f first (backTo pos (starEach [] X.env)) (backToKw pos (keywordEach [] X.env))) := by rfl) : PE X (.Call (.Attribute o mn apos) [] [] pos) (tMD X mn W ta tNil) :=
  ⟨fun pins s σ H Q I h => PySem.W.methodCall_KW (pl := pl) (thn (ho.run pins s σ H _ I h) fun u s1 ⟨v, H1, I1, rv, a, C, dx, fs, sp, ev, ea, l, ⟨g, fd, j, ps, c, hm, F, hr, hb⟩, q⟩ => by
    subst ev
    cases (show u = Value.ref a from rv)
    refine getmeth_ok I1 ea c hm l ?_
    exact PySem.W.callWith_K0 (first := [.ref a]) I1.kIn hm.kp (run_fnS (E := WE W) (us := [Value.ref a]) (vs := [V.ref a]) F hr hb (passAt tk σ) I1 (.cons rfl .nil) q)) ht⟩
/-- the worth of a method, by the class -/
abbrev MTab := Nat → Option Fn
def eMeth (mn : Str) (mt : MTab) (co : Ex) (ca : Ax) (fin : Res Val → Res D) : Ex := fun ρ S => (co ρ S).bind fun d S => match d with
  | .obj c fs => (match fs.lookup mn, mt c with
    | none, some fn => (ca ρ S).bind fun ds S => fin (fn (d :: ds) S)
    | _, _ => .stuck)
  | .rf n => (match S[n]? with
    | some cell => (match cell.fs.lookup mn, mt cell.c with
      | none, some fn => (ca ρ S).bind fun ds S => fin (fn (d :: ds) S)
      | _, _ => .stuck)
    | none => .stuck)
  | _ => .stuck
/-- the class's methods are so -/
def MtOk (X : Cx) (cl : Nat → Addr) (mn : Str) (bm : List Bool) (mt : MTab) : Prop := ∀ c fn, mt c = some fn → MethOk X mn (cl c) (spOf X.K cl (true :: bm) fn)
theorem lookup_none {f : Str} {α β : Type} : ∀ {xs : List (Str × α)} {ys : List (Str × β)}, xs.map (·.1) = ys.map (·.1) → ys.lookup f = none → xs.lookup f = none
  | [], [], _, _ => rfl
  | (a, x) :: xs, (b, y) :: ys, h, e => by
    simp only [List.map_cons, List.cons.injEq] at h
    obtain ⟨rfl, h⟩ := h
    rw [List.lookup_cons] at e ⊢
    cases q : f == a with
    | true => rw [q] at e; simp at e
    | false => rw [q] at e; exact lookup_none h e
/-- where the receiver stands -/
theorem recv {K : PySem.W.Frag} {G0 G : Gh} {H0 H : Hp} {S : Store} {ρ : Env} {σ : L2.St} {v : V} {mn : Str} {mt : MTab} {d : D} {fn : Fn} {c : Nat} (R : Rel K cl G0 H0 S ρ G σ H) (p : RepT K cl G H v d)
    (h : (∃ fs, d = .obj c fs ∧ fs.lookup mn = none ∧ mt c = some fn) ∨ ∃ n cell, d = .rf n ∧ S[n]? = some cell ∧ cell.c = c ∧ cell.fs.lookup mn = none ∧ mt c = some fn) : ∃ a dx fs, v = .ref a ∧ H a = some (.ins (cl c) dx fs) ∧ fs.lookup mn = none := by
  rcases h with ⟨fs, rfl, h1, h2⟩ | ⟨n, cell, rfl, hn, rfl, h1, h2⟩
  · rcases p with p | ⟨a, as, rfl, cc, _⟩
    · cases p with
      | obj hs hx ha => exact ⟨_, _, _, rfl, R.ok.zsub _ _ hs, ha.lookupN h1⟩
    · cases cc with
      | obj hs hx ha => exact ⟨_, _, _, rfl, hs, ha.lookupN h1⟩
  · rcases p with p | ⟨a, as, rfl, cc, _⟩
    · cases p with
      | rf e =>
        obtain ⟨a, dx, vs, e1, l1, l2, h3, h4, h5, h6⟩ := (R.ok.st n cell hn).ok
        rw [e] at e1
        cases e1
        exact ⟨_, _, _, rfl, h3, lookup_none h5 h1⟩
    · cases cc
theorem meth_sem {mn : Str} {mt : MTab} {co : Ex} {bm : List Bool} {P : Post D V} {fn : Res Val → Res D} (hP : PostM P) (hfin : ∀ {G0 : Gh} {H0 : Hp} {S : Store} {ρ : Env} {G : Gh} {σ : L2.St} {H : Hp} {r : Res Val} {Q : VK}, Rel X.K cl G0 H0 S ρ G σ H → Aft X.K cl P W G0 H0 ρ σ G H (fn r) Q → FnEnd X.K cl G.out H r Q (WE W σ)) (hmt : MtOk X cl mn bm mt)
    {σ : L2.St} {H : Hp} {Q : VK} (h : tX X.K cl P W (eMeth mn mt co ax fn) σ H Q) : tMD X mn W (tX X.K cl (PB X.K cl) W co) (tX X.K cl (PA1 X.K cl bm) W ax) σ H Q := by
  obtain ⟨G0, H0, S, ρ, G, R, h⟩ := h
  refine tX.bind hP R h fun d v S1 G1 H1 R1 s1 p1 h1 => ?_
  have go : ∀ (c : Nat) (fn1 : Fn), mt c = some fn1 → ((∃ fs, d = .obj c fs ∧ fs.lookup mn = none ∧ mt c = some fn1) ∨ ∃ n cell, d = .rf n ∧ S1[n]? = some cell ∧ cell.c = c ∧ cell.fs.lookup mn = none ∧ mt c = some fn1) →
      Aft X.K cl P W G0 H0 ρ σ G1 H1 ((ax ρ S1).bind fun ds S => fn (fn1 (d :: ds) S)) Q → ∃ (a C dx : Addr) (fs : List (Str × V)) (sp : Sp), v = .ref a ∧ H1 a = some (.ins C dx fs) ∧ fs.lookup mn = none ∧ MethOk X mn C sp ∧ tX X.K cl (PA1 X.K cl bm) W ax σ H1 fun vs H2 => sp (v :: vs) H2 Q (WE W σ) := fun c fn1 hf hr h1 => by
    obtain ⟨a, dx, fs, rfl, h2, h3⟩ := recv R1 p1 hr
    refine ⟨a, cl c, dx, fs, _, rfl, h2, h3, hmt c fn1 hf, tX.bind (Pa := PA1 X.K cl bm) hP R1 h1 fun ds vs S2 G2 H2 R2 s2 p2 h4 => ?_⟩
    exact ⟨G2.out, S2, d :: ds, R2.leave.1, out_only, ArgsOk.out (.bo (RepT.stp p1 s2) p2), hfin R2 h4⟩
  cases d with
  | obj c fs =>
    simp only at h1
    cases q1 : fs.lookup mn with
    | some y => simp only [q1, Aft] at h1
    | none =>
      cases q2 : mt c with
      | none => simp only [q1, q2, Aft] at h1
      | some fn1 =>
        simp only [q1, q2] at h1
        exact go c fn1 q2 (.inl ⟨fs, rfl, q1, q2⟩) h1
  | rf n =>
    simp only at h1
    cases q0 : S1[n]? with
    | none => simp only [q0, Aft] at h1
    | some cell =>
      simp only [q0] at h1
      cases q1 : cell.fs.lookup mn with
      | some y => simp only [q1, Aft] at h1
      | none =>
        cases q2 : mt cell.c with
        | none => simp only [q1, q2, Aft] at h1
        | some fn1 =>
          simp only [q1, q2] at h1
          exact go cell.c fn1 q2 (.inr ⟨n, cell, rfl, q0, rfl, q1, q2⟩) h1
  | _ => simp only [Aft] at h1
theorem se_meth {mn : Str} {apos : Pos} {mt : MTab} {co : Ex} {pl : Sem Bool} (hmt : MtOk X cl mn bm mt) (ho : SB X cl W o co) (tk : Takes X W) (ha : SA X cl W bm (e :: es) ax)
    (hst : starEach (e :: es) X.env = (false, eval e X.env) :: starEach es X.env := by rfl) (hpl : (backTo pos (starEach es X.env)).any (·.1) = false := by rfl)
    (ht : eval (.Call (.Attribute o mn apos) (e :: es) [] pos) X.env = (do
      let ov ← eval o X.env
      standAt apos.atName
      let (f, first) ← holding [ov] (getMethod ov mn pl)
      callWith pos f first (backTo pos (starEach (e :: es) X.env)) (backToKw pos (keywordEach [] X.env))) := by rfl) : SE X cl W (.Call (.Attribute o mn apos) (e :: es) [] pos) (eMeth mn mt co ax resF) :=
  PE.weak (pe_md (pl := pl) ho tk ha hst hpl ht) fun σ H Q h => meth_sem pfM call_semF hmt h
theorem sn_meth {mn : Str} {apos : Pos} {mt : MTab} {co : Ex} {pl : Sem Bool} (hmt : MtOk X cl mn bm mt) (ho : SB X cl W o co) (tk : Takes X W) (ha : SA X cl W bm (e :: es) ax)
    (hst : starEach (e :: es) X.env = (false, eval e X.env) :: starEach es X.env := by rfl) (hpl : (backTo pos (starEach es X.env)).any (·.1) = false := by rfl)
    (ht : eval (.Call (.Attribute o mn apos) (e :: es) [] pos) X.env = (do
      let ov ← eval o X.env
      standAt apos.atName
      let (f, first) ← holding [ov] (getMethod ov mn pl)
      callWith pos f first (backTo pos (starEach (e :: es) X.env)) (backToKw pos (keywordEach [] X.env))) := by rfl) : SN X cl W (.Call (.Attribute o mn apos) (e :: es) [] pos) (eMeth mn mt co ax resN) :=
  PE.weak (pe_md (pl := pl) ho tk ha hst hpl ht) fun σ H Q h => meth_sem pnM call_semN hmt h
theorem aNil_sem {σ : L2.St} {H : Hp} {Q : List V → Hp → Prop} (h : tX X.K cl (PA1 X.K cl []) W aNil σ H Q) : tNil σ H Q := by
  obtain ⟨G0, H0, S, ρ, G, R, h⟩ := h
  exact h _ G H R (Stp.refl _ _) .nil
theorem tMD_nil {mn : Str} {ta : TE} {σ : L2.St} {H : Hp} {Q : VK} (mono : ∀ (M M' : V → Hp → Prop), (∀ v H, M v H → M' v H) → ta σ H M → ta σ H M') (h : tMD X mn W ta (tX X.K cl (PA1 X.K cl []) W aNil) σ H Q) : tMD X mn W ta tNil σ H Q :=
  mono _ _ (fun v H1 ⟨a, C, dx, fs, sp, e1, e2, e3, e4, q⟩ => ⟨a, C, dx, fs, sp, e1, e2, e3, e4, aNil_sem q⟩) h
theorem tX_mono {K : PySem.W.Frag} {α β : Type} {P : Post α β} {c : Env → Store → Res α} {σ : L2.St} {H : Hp} {Q Q' : β → Hp → Prop} (k : ∀ v H, Q v H → Q' v H) (h : tX K cl P W c σ H Q) : tX K cl P W c σ H Q' := by
  obtain ⟨G0, H0, S, ρ, G, R, h⟩ := h
  refine ⟨G0, H0, S, ρ, G, R, ?_⟩
  cases q : c ρ S with
  | ok d S' => rw [q] at h; exact fun v G' H' R' s p => k _ _ (h v G' H' R' s p)
  | exc n S' => rw [q] at h; exact h
  | stuck => rw [q] at h; exact h
theorem se_meth0 {mn : Str} {apos : Pos} {mt : MTab} {co : Ex} {pl : Sem Bool} (hmt : MtOk X cl mn [] mt) (ho : SB X cl W o co) (tk : Takes X W)
    (ht : eval (.Call (.Attribute o mn apos) [] [] pos) X.env = (do
      let ov ← eval o X.env
      standAt apos.atName
      let (f, first) ← holding [ov] (getMethod ov mn pl)
      callWith pos f first (backTo pos (starEach [] X.env)) (backToKw pos (keywordEach [] X.env))) := by rfl) : SE X cl W (.Call (.Attribute o mn apos) [] [] pos) (eMeth mn mt co aNil resF) :=
  PE.weak (pe_md0 (pl := pl) ho tk ht) fun σ H Q h => tMD_nil (fun _ _ k q => tX_mono k q) (meth_sem pfM call_semF hmt h)
theorem sn_meth0 {mn : Str} {apos : Pos} {mt : MTab} {co : Ex} {pl : Sem Bool} (hmt : MtOk X cl mn [] mt) (ho : SB X cl W o co) (tk : Takes X W)
    (ht : eval (.Call (.Attribute o mn apos) [] [] pos) X.env = (do
      let ov ← eval o X.env
      standAt apos.atName
      let (f, first) ← holding [ov] (getMethod ov mn pl)
      callWith pos f first (backTo pos (starEach [] X.env)) (backToKw pos (keywordEach [] X.env))) := by rfl) : SN X cl W (.Call (.Attribute o mn apos) [] [] pos) (eMeth mn mt co aNil resN) :=
  PE.weak (pe_md0 (pl := pl) ho tk ht) fun σ H Q h => tMD_nil (fun _ _ k q => tX_mono k q) (meth_sem pnM call_semN hmt h)
end

section
variable {X : Cx} {cl : Nat → Addr} {W : WX} {a b c : Expr} {ca cb cc : Ex} {pos : Pos}
theorem se_glE {x : Str} {v : V} {d : D} (hg : Gl X x) (h : ∃ u, X.mg x = some u ∧ RelV v u) (rp : ∀ mu Z, Rep X.K cl mu Z v d) (hd : (x == ("__debug__" : Str)) = false := by decide) : SE X cl W (.Name x pos) (eC d) := by
  obtain ⟨u, hm, r⟩ := h
  exact se_gl hg hm r rp hd
theorem se_ch {op op' : CmpOp} {r r' : R2} {f f' : D → D → Option D} (ho : OpR X (compareOp op) r) (ho' : OpR X (compareOp op') r') (hs : OpS X cl r f (PF X.K cl)) (hs' : OpS X cl r' f' (PF X.K cl)) (ha : SB X cl W a ca) (hb : SB X cl W b cb) (hc : SB X cl W c cc) (hm : lastMarks [op, op'] [b, c] = false := by with_unfolding_all rfl) : SE X cl W (.Compare a [op, op'] [b, c] pos) (eChain f f' ca cb cc) :=
  PE.weak (pe_chain ho ho' ha hb hc hm) fun _ _ _ h => chain_sem hs hs' h
end
theorem _root_.L2.Room.u65 {k : Nat} {A : Around} (r : Room k A) : A.units + 65 < cLine := by have := r.un; omega
theorem _root_.L2.Room.u1 {k : Nat} {A : Around} (r : Room k A) : A.units + 1 < cLine := by have := r.un; omega
end PM
set_option maxHeartbeats 1000000
/-! PM10: the law's start. -/
namespace PM
open PySem PySem.Spec PyProof.Rows L2
theorem sp_start {K : PySem.W.Frag} {cl : Nat → Addr} (bm : List Bool) {m : Fn} {H : Hp} {a : Addr} {ns : List Int} (hb : bm = [true] ∨ bm = [false]) (h : ∃ S, m [.scr ns] [] = .ok (.fr (.bl true)) S) (hS : SqL K H a (ns.map V.int)) : spOf K cl bm m [.ref a] H (fun v _ => v = .bl true) (fun _ _ _ => False) := by
  obtain ⟨S, e⟩ := h
  refine ⟨{ Z := H, lab := fun _ => none, mu := [], me := none }, [], [.scr ns], ⟨fun _ _ e => e, fun _ _ e => (by cases e), fun n c e => (by simp at e), rfl⟩, fun _ _ e => (by cases e), ?_, ?_⟩
  · rcases hb with rfl | rfl
    · exact .bo (.inl (.scr hS)) .nil
    · exact .fr (.scr hS) .nil
  · rw [e]
    intro v G' H' _ _ _ r
    cases r
    rfl
theorem cx_end {P : Program} {w : World} {H : Hp} {s : Shared} {e : Value} {s' : Shared} (z : L2.CX P w [] H s (fun _ _ _ => False) e s') : False := by
  obtain ⟨_, _, _, _, _, _, _, _, _, _, _, _, h⟩ := z
  exact h
end PM
set_option maxHeartbeats 1000000
/-! PU1: running the worth of a def, rule by rule, on data. -/
namespace PM
open PySem PySem.Spec PyProof.Rows L2

/-! ### places of an environment -/
inductive Nth : Env → Nat → Slot → Prop
  | z {s : Slot} {l : Env} : Nth (s :: l) 0 s
  | s {a s : Slot} {l : Env} {n : Nat} : Nth l n s → Nth (a :: l) (n + 1) s
inductive SetR : Env → Nat → Slot → Env → Prop
  | z {a s : Slot} {l : Env} : SetR (a :: l) 0 s (s :: l)
  | s {a s : Slot} {l l' : Env} {n : Nat} : SetR l n s l' → SetR (a :: l) (n + 1) s (a :: l')
theorem Nth.eq {l : Env} {n : Nat} {s : Slot} (h : Nth l n s) : l[n]? = some s := by
  induction h with
  | z => rfl
  | s _ ih => simpa using ih
theorem SetR.eq {l l' : Env} {n : Nat} {s : Slot} (h : SetR l n s l') : l.set n s = l' := by
  induction h with
  | z => rfl
  | s _ ih => simp [ih]

section
variable {ρ ρ' : Env} {S S1 S2 S3 : Store} {c ca cb cc : Ex} {d e u z : D} {i n : Nat} {ta tb : Tx} {k p q : Bool} {ax : Ax} {ds : List D} {r : Res D}

/-! ### expressions -/
theorem x_C : eC d ρ S = .ok d S := rfl
theorem x_V (h : Nth ρ i (.fr d)) : eV i ρ S = .ok d S := by simp only [eV, h.eq]
theorem x_Bf (h : Nth ρ i (.fr d)) : eB i ρ S = .ok d S := by simp only [eB, h.eq]
theorem x_Bo (h : Nth ρ i (.ow d)) : eB i ρ S = .ok d S := by simp only [eB, h.eq]
theorem x_Bb (h : Nth ρ i (.bo d)) : eB i ρ S = .ok d S := by simp only [eB, h.eq]
theorem x_Bm (h : Nth ρ i (.me d)) : eB i ρ S = .ok d S := by simp only [eB, h.eq]
theorem x_Bin {f : D → D → Option D} (ha : ca ρ S = .ok d S1) (hb : cb ρ S1 = .ok e S2) (h : f d e = some z) : eBin f ca cb ρ S = .ok z S2 := by
  simp only [eBin, ha, hb, Res.bind, h, Res.opt]
theorem x_Un {f : D → Option D} (ha : ca ρ S = .ok d S1) (h : f d = some z) : eUn f ca ρ S = .ok z S1 := by
  simp only [eUn, ha, Res.bind, h, Res.opt]
theorem x_Tr (ha : ca ρ S = .ok d S1) (h : d.truth = some k) : eTr ca ρ S = .ok k S1 := by
  simp only [eTr, ha, Res.bind, h, Res.opt]
theorem x_TrB (ha : ca ρ S = .ok (.bl k) S1) : eTr ca ρ S = .ok k S1 := x_Tr ha rfl
theorem x_tAndF (ha : ta ρ S = .ok k S1) (hk : k = false) : tAndD ta tb ρ S = .ok false S1 := by
  subst hk; simp [tAndD, ha, Res.bind]
theorem x_tAndT (ha : ta ρ S = .ok k S1) (hk : k = true) (hb : tb ρ S1 = .ok q S2) : tAndD ta tb ρ S = .ok q S2 := by
  subst hk; simp [tAndD, ha, Res.bind, hb]
theorem x_tAnd (ha : ta ρ S = .ok p S1) (hb : p = true → tb ρ S1 = .ok q S1) : tAndD ta tb ρ S = .ok (p && q) S1 := by
  cases p with
  | true => simp [tAndD, ha, Res.bind, hb rfl]
  | false => simp [tAndD, ha, Res.bind]
theorem x_tOrT (ha : ta ρ S = .ok k S1) (hk : k = true) : tOrD ta tb ρ S = .ok true S1 := by
  subst hk; simp [tOrD, ha, Res.bind]
theorem x_tOrF (ha : ta ρ S = .ok k S1) (hk : k = false) (hb : tb ρ S1 = .ok q S2) : tOrD ta tb ρ S = .ok q S2 := by
  subst hk; simp [tOrD, ha, Res.bind, hb]
theorem x_tOr (ha : ta ρ S = .ok p S1) (hb : p = false → tb ρ S1 = .ok q S1) : tOrD ta tb ρ S = .ok (p || q) S1 := by
  cases p with
  | true => simp [tOrD, ha, Res.bind]
  | false => simp [tOrD, ha, Res.bind, hb rfl]
def tAndK (k : Bool) (tb : Tx) : Tx := fun ρ S => if k = true then tb ρ S else .ok false S
def tOrK (k : Bool) (tb : Tx) : Tx := fun ρ S => if k = true then .ok true S else tb ρ S
def eAndK (k : Bool) (cb : Ex) : Ex := fun ρ S => if k = true then cb ρ S else .ok (.bl false) S
def eOrK (k : Bool) (cb : Ex) : Ex := fun ρ S => if k = true then .ok (.bl true) S else cb ρ S
def eIfK (k : Bool) (ca cb : Ex) : Ex := fun ρ S => if k = true then ca ρ S else cb ρ S
def sIfK (k : Bool) (a b : Stm) : Stm := fun ρ S => if k = true then a ρ S else b ρ S
section
variable {rb : Res Bool}
theorem k_tAnd (ha : ta ρ S = .ok k S1) (h : tAndK k tb ρ S1 = rb) : tAndD ta tb ρ S = rb := by simp only [tAndD, ha, Res.bind]; exact h
theorem k_tOr (ha : ta ρ S = .ok k S1) (h : tOrK k tb ρ S1 = rb) : tOrD ta tb ρ S = rb := by simp only [tOrD, ha, Res.bind]; exact h
theorem k_And (ha : ca ρ S = .ok (.bl k) S1) (h : eAndK k cb ρ S1 = r) : eAndD ca cb ρ S = r := by
  simp only [eAndD, ha, Res.bind]; cases k <;> exact h
theorem k_Or (ha : ca ρ S = .ok (.bl k) S1) (h : eOrK k cb ρ S1 = r) : eOrD ca cb ρ S = r := by
  simp only [eOrD, ha, Res.bind]; cases k <;> exact h
theorem k_If (ha : ta ρ S = .ok k S1) (h : eIfK k ca cb ρ S1 = r) : eIf ta ca cb ρ S = r := by simp only [eIf, ha, Res.bind]; exact h
theorem k_tAndF (h : k = false) : tAndK k tb ρ S = .ok false S := by subst h; rfl
theorem k_tAndT (h : k = true) (hb : tb ρ S = rb) : tAndK k tb ρ S = rb := by subst h; exact hb
theorem k_tAndS (hb : k = true → tb ρ S = .ok q S) : tAndK k tb ρ S = .ok (k && q) S := by cases k <;> simp [tAndK, hb]
theorem k_tOrT (h : k = true) : tOrK k tb ρ S = .ok true S := by subst h; rfl
theorem k_tOrF (h : k = false) (hb : tb ρ S = rb) : tOrK k tb ρ S = rb := by subst h; exact hb
theorem k_tOrS (hb : k = false → tb ρ S = .ok q S) : tOrK k tb ρ S = .ok (k || q) S := by cases k <;> simp [tOrK, hb]
theorem k_AndF (h : k = false) : eAndK k cb ρ S = .ok (.bl false) S := by subst h; rfl
theorem k_AndT (h : k = true) (hb : cb ρ S = r) : eAndK k cb ρ S = r := by subst h; exact hb
theorem k_AndS (hb : k = true → cb ρ S = .ok (.bl q) S) : eAndK k cb ρ S = .ok (.bl (k && q)) S := by cases k <;> simp [eAndK, hb]
theorem k_OrT (h : k = true) : eOrK k cb ρ S = .ok (.bl true) S := by subst h; rfl
theorem k_OrF (h : k = false) (hb : cb ρ S = r) : eOrK k cb ρ S = r := by subst h; exact hb
theorem k_OrS (hb : k = false → cb ρ S = .ok (.bl q) S) : eOrK k cb ρ S = .ok (.bl (k || q)) S := by cases k <;> simp [eOrK, hb]
theorem k_IfT (h : k = true) (hb : ca ρ S = r) : eIfK k ca cb ρ S = r := by subst h; exact hb
theorem k_IfF (h : k = false) (hb : cb ρ S = r) : eIfK k ca cb ρ S = r := by subst h; exact hb
end
theorem x_tNot (ha : ta ρ S = .ok p S1) : tNotD ta ρ S = .ok (!p) S1 := by simp [tNotD, ha, Res.bind]
theorem x_AndF (ha : ca ρ S = .ok (.bl k) S1) (hk : k = false) : eAndD ca cb ρ S = .ok (.bl false) S1 := by
  subst hk; simp [eAndD, ha, Res.bind]
theorem x_AndT (ha : ca ρ S = .ok (.bl k) S1) (hk : k = true) (hb : cb ρ S1 = .ok z S2) : eAndD ca cb ρ S = .ok z S2 := by
  subst hk; simp [eAndD, ha, Res.bind, hb]
theorem x_And (ha : ca ρ S = .ok (.bl p) S1) (hb : p = true → cb ρ S1 = .ok (.bl q) S1) : eAndD ca cb ρ S = .ok (.bl (p && q)) S1 := by
  cases p with
  | true => simp [eAndD, ha, Res.bind, hb rfl]
  | false => simp [eAndD, ha, Res.bind]
theorem x_OrT (ha : ca ρ S = .ok (.bl k) S1) (hk : k = true) : eOrD ca cb ρ S = .ok (.bl true) S1 := by
  subst hk; simp [eOrD, ha, Res.bind]
theorem x_OrF (ha : ca ρ S = .ok (.bl k) S1) (hk : k = false) (hb : cb ρ S1 = .ok z S2) : eOrD ca cb ρ S = .ok z S2 := by
  subst hk; simp [eOrD, ha, Res.bind, hb]
theorem x_Or (ha : ca ρ S = .ok (.bl p) S1) (hb : p = false → cb ρ S1 = .ok (.bl q) S1) : eOrD ca cb ρ S = .ok (.bl (p || q)) S1 := by
  cases p with
  | true => simp [eOrD, ha, Res.bind]
  | false => simp [eOrD, ha, Res.bind, hb rfl]
theorem x_Not (ha : ca ρ S = .ok (.bl p) S1) : eNotD ca ρ S = .ok (.bl (!p)) S1 := by simp [eNotD, ha, Res.bind]
theorem x_IfT (ha : ta ρ S = .ok k S1) (hk : k = true) (h : ca ρ S1 = r) : eIf ta ca cb ρ S = r := by
  subst hk; simp [eIf, ha, Res.bind, h]
theorem x_IfF (ha : ta ρ S = .ok k S1) (hk : k = false) (h : cb ρ S1 = r) : eIf ta ca cb ρ S = r := by
  subst hk; simp [eIf, ha, Res.bind, h]
theorem x_aNil : aNil ρ S = .ok [] S := rfl
theorem x_aCons (ha : ca ρ S = .ok d S1) (hb : ax ρ S1 = .ok ds S2) : aCons ca ax ρ S = .ok (d :: ds) S2 := by simp [aCons, ha, Res.bind, hb]
theorem x_Lst (ha : ax ρ S = .ok ds S1) (h : ds.length ≤ 1000000) : eLst ax ρ S = .ok (.lst ds) S1 := by simp [eLst, ha, Res.bind, h]
theorem x_Tup (ha : ax ρ S = .ok ds S1) (h : ds.length ≤ 1000000) : eTup ax ρ S = .ok (.tup ds) S1 := by simp [eTup, ha, Res.bind, h]
theorem x_Dic0 : eDic0 ρ S = .ok (.dic []) S := rfl
theorem x_pNo : pNo ρ S = .ok none S := rfl
theorem x_pAt {j : Int} (ha : ca ρ S = .ok (.int j) S1) : pAt ca ρ S = .ok (some j) S1 := by simp [pAt, ha, Res.bind]
theorem x_Cut {f : D → Option Int → Option Int → Option D} {pl ph : Px} {lo hi : Option Int} (ha : ca ρ S = .ok d S1) (hl : pl ρ S1 = .ok lo S2) (hh : ph ρ S2 = .ok hi S3) (h : f d lo hi = some z) : eCut f ca pl ph ρ S = .ok z S3 := by
  simp [eCut, ha, hl, hh, Res.bind, h, Res.opt]
theorem x_Fn {f : List D → Option D} (ha : ax ρ S = .ok ds S1) (h : f ds = some z) : eFn f ax ρ S = .ok z S1 := by
  simp [eFn, ha, Res.bind, h, Res.opt]
theorem x_IsT {T : String} (ha : ca ρ S = .ok d S1) (h : d.isT T = some k) : eIsT T ca ρ S = .ok (.bl k) S1 := by
  simp [eIsT, ha, Res.bind, h, Res.opt]
theorem x_Call {m : Fn} {v : Val} (ha : ax ρ S = .ok ds S1) (h : m ds S1 = .ok v S2) (hr : resF (.ok v S2) = .ok d S3) : eCall m ax ρ S = .ok d S3 := by
  simp [eCall, ha, Res.bind, h, hr]
theorem x_CallN {m : Fn} (ha : ax ρ S = .ok ds S1) (h : m ds S1 = .ok (.ow d) S2) : eCallN m ax ρ S = .ok d S2 := by
  simp [eCallN, ha, Res.bind, h, resN]
theorem x_Meth {mn : Str} {mt : MTab} {cls : Nat} {fs : List (Str × D)} {fn : Fn} {fin : Res Val → Res D} {v : Res Val} (ha : ca ρ S = .ok (.obj cls fs) S1) (hl : fs.lookup mn = none) (hm : mt cls = some fn) (hx : ax ρ S1 = .ok ds S2) (h : fn (.obj cls fs :: ds) S2 = v) (hr : fin v = r) : eMeth mn mt ca ax fin ρ S = r := by
  simp [eMeth, ha, Res.bind, hl, hm, hx, h, hr]
theorem x_MethR {mn : Str} {mt : MTab} {n : Nat} {cell : PM.Cell} {fn : Fn} {fin : Res Val → Res D} {v : Res Val} (ha : ca ρ S = .ok (.rf n) S1) (hc : S1[n]? = some cell) (hl : cell.fs.lookup mn = none) (hm : mt cell.c = some fn) (hx : ax ρ S1 = .ok ds S2) (h : fn (.rf n :: ds) S2 = v) (hr : fin v = r) : eMeth mn mt ca ax fin ρ S = r := by
  simp [eMeth, ha, Res.bind, hc, hl, hm, hx, h, hr]
theorem x_ChT {f f' : D → D → Option D} (ha : ca ρ S = .ok d S1) (hb : cb ρ S1 = .ok e S2) (h : f d e = some (.bl k)) (hk : k = true) (hc : cc ρ S2 = .ok u S3) (h' : f' e u = some z) : eChain f f' ca cb cc ρ S = .ok z S3 := by
  subst hk; simp [eChain, ha, hb, Res.bind, h, hc, h', Res.opt]
theorem x_ChF {f f' : D → D → Option D} (ha : ca ρ S = .ok d S1) (hb : cb ρ S1 = .ok e S2) (h : f d e = some (.bl k)) (hk : k = false) : eChain f f' ca cb cc ρ S = .ok (.bl false) S2 := by
  subst hk; simp [eChain, ha, hb, Res.bind, h]
theorem x_Ch {f f' : D → D → Option D} (ha : ca ρ S = .ok d S1) (hb : cb ρ S1 = .ok e S2) (h : f d e = some (.bl p)) (hc : cc ρ S2 = .ok u S2) (h' : f' e u = some (.bl q)) : eChain f f' ca cb cc ρ S = .ok (.bl (p && q)) S2 := by
  cases p <;> simp [eChain, ha, hb, Res.bind, h, hc, h', Res.opt]

/-! ### what is walked -/
theorem x_iL (ha : ca ρ S = .ok (.lst ds) S1) : iL ca ρ S = .ok ds S1 := by simp [iL, ha, Res.bind]
theorem x_iLs {ns : List Int} (ha : ca ρ S = .ok (.scr ns) S1) : iL ca ρ S = .ok (ns.map .int) S1 := by simp [iL, ha, Res.bind]
theorem x_iBf (h : Nth ρ i (.fr (.lst ds))) : iB i ρ S = .ok ds S := by simp [iB, h.eq]
theorem x_iBb (h : Nth ρ i (.bo (.lst ds))) : iB i ρ S = .ok ds S := by simp [iB, h.eq]
theorem x_iT (ha : ca ρ S = .ok (.tup ds) S1) : iT ca ρ S = .ok ds S1 := by simp [iT, ha, Res.bind]
theorem x_iS {x : Str} (ha : ca ρ S = .ok (.str x) S1) : iS ca ρ S = .ok (x.cps.toList.map fun c => .str ⟨#[c]⟩) S1 := by simp [iS, ha, Res.bind]
theorem x_iFn {f : List D → Option (List D)} {es : List D} (ha : ax ρ S = .ok ds S1) (h : f ds = some es) : iFn f ax ρ S = .ok es S1 := by simp [iFn, ha, Res.bind, h, Res.opt]
theorem fR1_ok {j : Int} (h : -1000000000 ≤ j ∧ j ≤ 1000000000) : fR1 [.int j] = some (rngD 0 j.toNat) := by simp [fR1, h]
theorem fR2_ok {i j : Int} (h : (-1000000000 ≤ i ∧ i ≤ 1000000000) ∧ -1000000000 ≤ j ∧ j ≤ 1000000000) : fR2 [.int i, .int j] = some (rngD i (j - i).toNat) := by simp [fR2, h]

/-! ### statements -/
variable {Q : SR → Prop} {a b : Stm} {tg : Tgt}
structure Run (c : Stm) (ρ : Env) (S : Store) (Q : SR → Prop) : Prop where
  run : Q (c ρ S)
theorem r_of (h : c ρ S = r) : c ρ S = r := h
def seqQ (b : Stm) (Q : SR → Prop) : SR → Prop := fun r => match r with
  | .nx ρ S => Run b ρ S Q
  | r => Q r
theorem r_Seq (h : Run a ρ S (seqQ b Q)) : Run (sSeq a b) ρ S Q := by
  refine ⟨?_⟩
  have h := h.run
  unfold sSeq
  unfold seqQ at h
  cases q : a ρ S <;> simp only [q] at h ⊢
  · exact h.run
  all_goals exact h
theorem r_seqQ (h : Run b ρ S Q) : seqQ b Q (.nx ρ S) := h
theorem r_seqR {v : Val} (h : Q (.rt v S)) : seqQ b Q (.rt v S) := h
theorem r_Nx (h : Q (.nx ρ S)) : Run sNx ρ S Q := ⟨h⟩
theorem r_Pass (h : Q (.nx ρ S)) : Run sPass ρ S Q := ⟨h⟩
theorem r_Brk (h : Q (.bk ρ S)) : Run sBrk ρ S Q := ⟨h⟩
theorem r_Cnt (h : Q (.ct ρ S)) : Run sCnt ρ S Q := ⟨h⟩
theorem r_Ex {α : Type} {c : Env → Store → Res α} {k : α → Stm} {x : α} (h : c ρ S = .ok x S1) (hk : Q (k x ρ S1)) : Run (sEx c k) ρ S Q := by
  refine ⟨?_⟩; unfold sEx; rw [h]; exact hk
theorem r_Drop (h : c ρ S = .ok d S1) (hk : Q (.nx ρ S1)) : Run (sDrop c) ρ S Q := r_Ex h hk
theorem r_Set (h : c ρ S = .ok d S1) (hs : SetR ρ i (.fr d) ρ') (hk : Q (.nx ρ' S1)) : Run (sSet i c) ρ S Q := r_Ex h (by rw [hs.eq]; exact hk)
theorem r_SetN (h : c ρ S = .ok d S1) (hs : SetR ρ i (.ow d) ρ') (hk : Q (.nx ρ' S1)) : Run (sSetN i c) ρ S Q := r_Ex h (by rw [hs.eq]; exact hk)
theorem r_Ret (h : c ρ S = .ok d S1) (hk : Q (.rt (.fr d) S1)) : Run (sRet c) ρ S Q := r_Ex h hk
theorem r_RetN (h : c ρ S = .ok d S1) (hk : Q (.rt (.ow d) S1)) : Run (sRetN c) ρ S Q := r_Ex h hk
theorem r_Ret0 (hk : Q (.rt (.fr .non) S)) : Run sRet0 ρ S Q := ⟨hk⟩
theorem r_RetVo (h : Nth ρ i (.ow d)) (hk : Q (.rt (.ow d) S)) : Run (sRetV i) ρ S Q := by refine ⟨?_⟩; unfold sRetV; rw [h.eq]; exact hk
theorem r_RetVf (h : Nth ρ i (.fr d)) (hk : Q (.rt (.fr d) S)) : Run (sRetV i) ρ S Q := by refine ⟨?_⟩; unfold sRetV; rw [h.eq]; exact hk
theorem r_IfT (h : ta ρ S = .ok k S1) (e : k = true) (hk : Run a ρ S1 Q) : Run (sIf ta a b) ρ S Q := r_Ex h (by rw [if_pos e]; exact hk.run)
theorem r_IfF (h : ta ρ S = .ok k S1) (e : k = false) (hk : Run b ρ S1 Q) : Run (sIf ta a b) ρ S Q := r_Ex h (by rw [if_neg (by simp [e])]; exact hk.run)
theorem r_If (h : ta ρ S = .ok k S1) (ha : k = true → Run a ρ S1 Q) (hb : k = false → Run b ρ S1 Q) : Run (sIf ta a b) ρ S Q := by
  cases k with
  | true => exact r_IfT h rfl (ha rfl)
  | false => exact r_IfF h rfl (hb rfl)
theorem r_IfK (h : ta ρ S = .ok k S1) (hk : Run (sIfK k a b) ρ S1 Q) : Run (sIf ta a b) ρ S Q := r_Ex h hk.run
theorem r_KT (e : k = true) (hk : Run a ρ S Q) : Run (sIfK k a b) ρ S Q := by subst e; exact ⟨hk.run⟩
theorem r_KF (e : k = false) (hk : Run b ρ S Q) : Run (sIfK k a b) ρ S Q := by subst e; exact ⟨hk.run⟩
theorem r_K2 (ha : k = true → Run a ρ S Q) (hb : k = false → Run b ρ S Q) : Run (sIfK k a b) ρ S Q := by
  cases k with
  | true => exact ⟨(ha rfl).run⟩
  | false => exact ⟨(hb rfl).run⟩
theorem r_Fzo (h : Nth ρ i (.ow d)) (hs : SetR ρ i (.fr d) ρ') (hk : Q (.nx ρ' S)) : Run (sFz i) ρ S Q := by refine ⟨?_⟩; unfold sFz; simp only [h.eq, hs.eq]; exact hk
theorem r_Fzf (h : Nth ρ i (.fr d)) (hk : Q (.nx ρ S)) : Run (sFz i) ρ S Q := by refine ⟨?_⟩; unfold sFz; rw [h.eq]; exact hk
theorem r_Aug {f : D → D → Option D} (h : Nth ρ i (.fr d)) (he : c ρ S = .ok e S1) (hf : f d e = some z) (hs : SetR ρ i (.fr z) ρ') (hk : Q (.nx ρ' S1)) : Run (sAug i f c) ρ S Q := by
  refine ⟨?_⟩; unfold sAug; simp only [h.eq, sEx, he, hf, hs.eq]; exact hk
theorem r_Lm {f : List D → List D → Option (List D)} {xs es zs : List D} (h : Nth ρ i (.ow (.lst xs))) (he : ax ρ S = .ok es S1) (hf : f xs es = some zs) (hs : SetR ρ i (.ow (.lst zs)) ρ') (hk : Q (.nx ρ' S1)) : Run (sLm i f ax) ρ S Q := by
  refine ⟨?_⟩; unfold sLm; simp only [h.eq, sEx, he, hf, hs.eq]; exact hk
theorem r_SetIx {ci : Ex} {xs : List D} {j : Int} (h : Nth ρ i (.ow (.lst xs))) (he : c ρ S = .ok d S1) (hi : ci ρ S1 = .ok (.int j) S2) (hn : ixN xs.length j = some n) (hs : SetR ρ i (.ow (.lst (xs.set n d))) ρ') (hk : Q (.nx ρ' S2)) : Run (sSetIx i ci c) ρ S Q := by
  refine ⟨?_⟩; unfold sSetIx; simp only [h.eq, sEx, he, hi, hn, hs.eq]; exact hk
theorem r_Put {ci : Ex} {xs : List (Key × D)} {j : Key} (h : Nth ρ i (.ow (.dic xs))) (he : c ρ S = .ok d S1) (hi : ci ρ S1 = .ok e S2) (hj : e.key = some j) (hl : xs.length < 1000000) (hs : SetR ρ i (.ow (.dic (putD xs j d))) ρ') (hk : Q (.nx ρ' S2)) : Run (sPut i ci c) ρ S Q := by
  refine ⟨?_⟩; unfold sPut; simp only [h.eq, sEx, he, hi, hj, hl, if_true, hs.eq]; exact hk
theorem r_For {ci : Ix} (h : ci ρ S = .ok ds S1) (hk : Run (forS tg a ds) ρ S1 Q) : Run (sFor ci tg a) ρ S Q := r_Ex h hk.run
/-- a loop by what holds ahead of the items left -/
theorem r_forS (I : List D → Env → Store → Prop) (h0 : I ds ρ S)
    (hs : ∀ d ds ρ S, I (d :: ds) ρ S → ∃ ρ1, tg d ρ = some ρ1 ∧ Run a ρ1 S fun r => match r with
      | .nx ρ' S' => I ds ρ' S'
      | .ct ρ' S' => I ds ρ' S'
      | .bk ρ' S' => Q (.nx ρ' S')
      | .rt v S' => Q (.rt v S')
      | .exc n ρ' S' => Q (.exc n ρ' S')
      | .stuck => False)
    (hd : ∀ ρ S, I [] ρ S → Q (.nx ρ S)) : Run (forS tg a ds) ρ S Q := by
  induction ds generalizing ρ S with
  | nil => exact ⟨hd ρ S h0⟩
  | cons d ds ih =>
    obtain ⟨ρ1, h1, h2⟩ := hs d ds ρ S h0
    have h2 := h2.run
    refine ⟨?_⟩
    unfold forS
    rw [h1]
    simp only
    cases q : a ρ1 S <;> simp only [q] at h2 ⊢
    · exact (ih h2).run
    · exact h2
    · exact h2
    · exact (ih h2).run
    · exact h2
theorem r_while (I : Nat → Env → Store → Prop) {m : Nat} (hm : m < FUEL) (h0 : I m ρ S)
    (hs : ∀ m ρ S, I m ρ S → ∃ k S1, ta ρ S = .ok k S1 ∧ (k = true → Run a ρ S1 fun r => match r with
      | .nx ρ' S' => ∃ m', m' < m ∧ I m' ρ' S'
      | .ct ρ' S' => ∃ m', m' < m ∧ I m' ρ' S'
      | .bk ρ' S' => Q (.nx ρ' S')
      | .rt v S' => Q (.rt v S')
      | .exc n ρ' S' => Q (.exc n ρ' S')
      | .stuck => False) ∧ (k = false → Q (.nx ρ S1))) : Run (sWhile ta a) ρ S Q := by
  have go : ∀ (f m : Nat) (ρ : Env) (S : Store), m < f → I m ρ S → Q (whileS ta a f ρ S) := by
    intro f
    induction f with
    | zero => intro m ρ S h; omega
    | succ f ih =>
      intro m ρ S hf hI
      obtain ⟨k, S1, h1, h2, h3⟩ := hs m ρ S hI
      unfold whileS sEx
      rw [h1]
      simp only
      cases k with
      | false => simpa using h3 rfl
      | true =>
        have h2 := (h2 rfl).run
        rw [if_pos rfl]
        cases q : a ρ S1 <;> simp only [q] at h2 ⊢
        · obtain ⟨m', h4, h5⟩ := h2
          exact ih m' _ _ (by omega) h5
        · exact h2
        · exact h2
        · obtain ⟨m', h4, h5⟩ := h2
          exact ih m' _ _ (by omega) h5
        · exact h2
  exact ⟨go FUEL m ρ S hm h0⟩
theorem r_fn {bm : List Bool} {k : Nat} {R : Res Val → Prop} (h : Run a (startE bm ds k) S fun r => R (fin r)) : R (mkFn bm k a ds S) := h.run
/-- a comprehension item by item -/
theorem x_Lc {own : List Nat} {ci : Ix} {tt : Tx} {elt : Ex} {zs : List D} (hi : ci ρ S = .ok ds S1) (h : lcS tg tt elt (wipeE ρ own) ds [] S1 = .ok (.lst zs) S2) : eLc own ci tg tt elt ρ S = .ok (.lst zs) S2 := by
  simp only [eLc, hi, Res.bind, h]
theorem lc_map {α : Type} {tt : Tx} {elt : Ex} (f g : α → D) (ρ : Env) (S : Store) (xs : List α) (h : ∀ x ∈ xs, ∃ ρ1, tg (f x) ρ = some ρ1 ∧ tt ρ1 S = .ok true S ∧ elt ρ1 S = .ok (g x) S) (acc : List D) (hl : acc.length + xs.length ≤ 1000000) : lcS tg tt elt ρ (xs.map f) acc S = .ok (.lst (acc ++ xs.map g)) S := by
  induction xs generalizing acc with
  | nil => simp [lcS]
  | cons x xs ih =>
    obtain ⟨ρ1, h1, h2, h3⟩ := h x (by simp)
    simp only [List.length_cons] at hl
    simp only [List.map_cons, lcS, h1, h2, h3, if_true, show acc.length < 1000000 by omega]
    rw [ih (fun y hy => h y (by simp [hy])) _ (by simp; omega)]
    simp
theorem lc_filter {α : Type} {tt : Tx} {elt : Ex} (f g : α → D) (t : α → Bool) (ρ : Env) (S : Store) (xs : List α) (h : ∀ x ∈ xs, ∃ ρ1, tg (f x) ρ = some ρ1 ∧ tt ρ1 S = .ok (t x) S ∧ (t x = true → elt ρ1 S = .ok (g x) S)) (acc : List D) (hl : acc.length + xs.length ≤ 1000000) : lcS tg tt elt ρ (xs.map f) acc S = .ok (.lst (acc ++ (xs.filter t).map g)) S := by
  induction xs generalizing acc with
  | nil => simp [lcS]
  | cons x xs ih =>
    obtain ⟨ρ1, h1, h2, h3⟩ := h x (by simp)
    simp only [List.length_cons] at hl
    cases q : t x with
    | true =>
      simp only [List.map_cons, lcS, h1, h2, q, h3 q, if_true, show acc.length < 1000000 by omega]
      rw [ih (fun y hy => h y (by simp [hy])) _ (by simp; omega)]
      simp [List.filter_cons, q]
    | false =>
      simp only [List.map_cons, lcS, h1, h2, q]
      rw [if_neg (by simp), ih (fun y hy => h y (by simp [hy])) _ (by omega)]
      simp [List.filter_cons, q]
end
end PM
namespace PM
open PySem PySem.Spec PyProof.Rows L2
section
variable {ρ ρ' : Env} {S S1 : Store} {Q : SR → Prop} {a : Stm} {tg : Tgt} {i : Nat} {d : D} {v : Val}
/-- what follows a turn -/
def LQ (P : Env → Store → Prop) (Q : SR → Prop) : SR → Prop := fun r => match r with
  | .nx ρ' S' => P ρ' S'
  | .ct ρ' S' => P ρ' S'
  | .bk ρ' S' => Q (.nx ρ' S')
  | .rt v S' => Q (.rt v S')
  | .exc n ρ' S' => Q (.exc n ρ' S')
  | .stuck => False
section
variable {P : Env → Store → Prop}
theorem q_nx (h : P ρ S) : LQ P Q (.nx ρ S) := h
theorem q_ct (h : P ρ S) : LQ P Q (.ct ρ S) := h
theorem q_bk (h : Q (.nx ρ S)) : LQ P Q (.bk ρ S) := h
theorem q_rt (h : Q (.rt v S)) : LQ P Q (.rt v S) := h
end
theorem tg_N (h : SetR ρ i (.fr d) ρ') : gN i d ρ = some ρ' := by rw [← h.eq]; rfl
/-- by what holds behind the items gone -/
theorem r_forP {α : Type} {f : α → D} {xs : List α} (I : List α → Env → Store → Prop) (h0 : I [] ρ S)
    (hs : ∀ pre x post ρ S, xs = pre ++ x :: post → I pre ρ S → ∃ ρ1, tg (f x) ρ = some ρ1 ∧ Run a ρ1 S (LQ (I (pre ++ [x])) Q))
    (hd : ∀ ρ S, I xs ρ S → Q (.nx ρ S)) : Run (forS tg a (xs.map f)) ρ S Q := by
  refine r_forS (I := fun ds ρ S => ∃ pre post, xs = pre ++ post ∧ ds = post.map f ∧ I pre ρ S) ⟨[], xs, rfl, rfl, h0⟩ ?_ ?_
  · rintro d ds ρ S ⟨pre, post, e1, e2, hI⟩
    cases post with
    | nil => simp at e2
    | cons x post =>
      simp only [List.map_cons, List.cons.injEq] at e2
      obtain ⟨rfl, rfl⟩ := e2
      obtain ⟨ρ1, h1, h2⟩ := hs pre x post ρ S e1 hI
      refine ⟨ρ1, h1, ?_⟩
      have h2 := h2.run
      unfold LQ at h2
      refine ⟨?_⟩
      cases q : a ρ1 S <;> simp only [q] at h2 ⊢
      · exact ⟨_, post, by rw [e1]; simp, rfl, h2⟩
      · exact h2
      · exact h2
      · exact ⟨_, post, by rw [e1]; simp, rfl, h2⟩
      · exact h2
  · rintro ρ S ⟨pre, post, e1, e2, hI⟩
    have : post = [] := by simpa using e2.symm
    subst this
    rw [List.append_nil] at e1
    subst e1
    exact hd ρ S hI
/-- that goes on as long as p holds -/
theorem r_forAll {α J : Type} {f : α → D} {xs : List α} (p : α → Bool) (E : J → Env) (B : J → α → Env) (ht : ∀ j x, tg (f x) (E j) = some (B j x)) {j0 : J}
    (hb : ∀ j x, x ∈ xs → p x = true → Run a (B j x) S fun r => (∃ j', r = .nx (E j') S) ∨ ∃ j', r = .ct (E j') S)
    (hf : ∀ j x, x ∈ xs → p x = false → Run a (B j x) S fun r => r = .rt v S)
    (h1 : xs.all p = true → ∀ j, Q (.nx (E j) S)) (h2 : xs.all p = false → Q (.rt v S)) : Run (forS tg a (xs.map f)) (E j0) S Q := by
  refine r_forP (I := fun pre ρ S' => S' = S ∧ pre.all p = true ∧ ∃ j, ρ = E j) ⟨rfl, rfl, j0, rfl⟩ ?_ ?_
  · rintro pre x post ρ S' e ⟨rfl, ha, j, rfl⟩
    refine ⟨_, ht j x, ?_⟩
    have hm : x ∈ xs := by rw [e]; simp
    cases hp : p x with
    | true =>
      have := hb j x hm hp
      have this := this.run
      refine ⟨?_⟩
      rcases this with ⟨j', e⟩ | ⟨j', e⟩
      · rw [e]; exact ⟨rfl, by simp only [List.all_append, ha, List.all_cons, hp, List.all_nil, Bool.and_self], j', rfl⟩
      · rw [e]; exact ⟨rfl, by simp only [List.all_append, ha, List.all_cons, hp, List.all_nil, Bool.and_self], j', rfl⟩
    | false =>
      have := hf j x hm hp
      have this := this.run
      refine ⟨?_⟩
      rw [this]
      refine h2 ?_
      rw [e]
      simp [hp]
  · rintro ρ S' ⟨rfl, ha, j, rfl⟩
    exact h1 ha j
end
end PM
namespace PM
theorem tt_nT {b : Bool} (h : b = false) : (!b) = true := by simp [h]
theorem tt_nF {b : Bool} (h : b = true) : (!b) = false := by simp [h]
theorem tt_aT {a b : Bool} (h : a = true) (h2 : b = true) : (a && b) = true := by simp [h, h2]
theorem tt_aF1 {a b : Bool} (h : a = false) : (a && b) = false := by simp [h]
theorem tt_aF2 {a b : Bool} (h : b = false) : (a && b) = false := by simp [h]
theorem tt_oF {a b : Bool} (h : a = false) (h2 : b = false) : (a || b) = false := by simp [h, h2]
theorem tt_oT1 {a b : Bool} (h : a = true) : (a || b) = true := by simp [h]
theorem tt_oT2 {a b : Bool} (h : b = true) : (a || b) = true := by simp [h]
end PM
namespace PM
open PySem PySem.Spec PyProof.Rows L2
inductive UnR : Nat → Env → Prop
  | z : UnR 0 []
  | s {k : Nat} {l : Env} : UnR k l → UnR (k + 1) (.un :: l)
inductive StartR : List Bool → List D → Nat → Env → Prop
  | n {k : Nat} {l : Env} : UnR k l → StartR [] [] k l
  | t {bm : List Bool} {d : D} {ds : List D} {k : Nat} {l : Env} : StartR bm ds k l → StartR (true :: bm) (d :: ds) k (.bo d :: l)
  | f {bm : List Bool} {d : D} {ds : List D} {k : Nat} {l : Env} : StartR bm ds k l → StartR (false :: bm) (d :: ds) k (.fr d :: l)
theorem UnR.eq {k : Nat} {l : Env} (h : UnR k l) : List.replicate k .un = l := by
  induction h with
  | z => rfl
  | s _ ih => rw [List.replicate_succ, ih]
theorem StartR.eq {bm : List Bool} {ds : List D} {k : Nat} {l : Env} (h : StartR bm ds k l) : startE bm ds k = l := by
  unfold startE
  induction h with
  | n h => simpa [parE] using h.eq
  | t _ ih => simp [parE, ih]
  | f _ ih => simp [parE, ih]
theorem r_fnE {m : Fn} {bm : List Bool} {k : Nat} {a : Stm} {ds : List D} {S : Store} {ρ : Env} (hm : m = mkFn bm k a) (R : Res Val → Prop) (hs : StartR bm ds k ρ) (h : Run a ρ S fun r => R (fin r)) : R (m ds S) := by
  subst hm; unfold mkFn; rw [hs.eq]; exact h.run
end PM
namespace PM
open PySem PySem.Spec PyProof.Rows L2
theorem r_forR {ρ : Env} {S : Store} {Q : SR → Prop} {a : Stm} {tg : Tgt} {lo : Int} {n : Nat} (I : Nat → Env → Store → Prop) (h0 : I 0 ρ S)
    (hs : ∀ k ρ S, k < n → I k ρ S → ∃ ρ1, tg (.int (lo + (k : Int))) ρ = some ρ1 ∧ Run a ρ1 S (LQ (I (k + 1)) Q))
    (hd : ∀ ρ S, I n ρ S → Q (.nx ρ S)) : Run (forS tg a (rngD lo n)) ρ S Q := by
  unfold rngD
  refine r_forP (xs := List.range n) (I := fun pre ρ S => I pre.length ρ S) h0 ?_ ?_
  · intro pre x post ρ S e hI
    have hx : pre.length = x ∧ x < n := by
      have h1 := congrArg List.length e
      have h2 : (List.range n)[pre.length]? = some x := by rw [e]; simp
      simp at h1
      rw [List.getElem?_range (by omega)] at h2
      simp at h2
      omega
    obtain ⟨rfl, hn⟩ := hx
    obtain ⟨ρ1, h1, h2⟩ := hs _ ρ S hn hI
    exact ⟨ρ1, h1, by simpa using h2⟩
  · intro ρ S hI
    simp only [List.length_range] at hI
    exact hd ρ S hI
end PM
namespace PM
open PySem PySem.Spec PyProof.Rows L2
theorem tgRun {ρ ρ' : Env} {S : Store} {Q : SR → Prop} {a : Stm} {i : Nat} {d : D} (h : SetR ρ i (.fr d) ρ') (hr : Run a ρ' S Q) : ∃ ρ1, gN i d ρ = some ρ1 ∧ Run a ρ1 S Q := ⟨ρ', tg_N h, hr⟩
end PM
namespace PM
open PySem PySem.Spec PyProof.Rows L2
theorem r_forD {ρ : Env} {S : Store} {Q : SR → Prop} {a : Stm} {tg : Tgt} {xs : List D} (I : List D → Env → Store → Prop) (h0 : I [] ρ S)
    (hs : ∀ pre x post ρ S, xs = pre ++ x :: post → I pre ρ S → ∃ ρ1, tg x ρ = some ρ1 ∧ Run a ρ1 S (LQ (I (pre ++ [x])) Q))
    (hd : ∀ ρ S, I xs ρ S → Q (.nx ρ S)) : Run (forS tg a xs) ρ S Q := by
  have := r_forP (f := fun d : D => d) (xs := xs) (tg := tg) (a := a) I h0 hs hd
  simpa using this
end PM
set_option maxHeartbeats 1000000
/-! PU2: the operators at typed data. -/
namespace PM
open PySem PySem.Spec PyProof.Rows L2
section
variable {i j : Int} {x y : Str} {xs ys : List D} {d e : D}
theorem op_addI : oAdd (.int i) (.int j) = some (.int (i + j)) := rfl
theorem op_addS (h : x.length + y.length ≤ 1000000) : oAdd (.str x) (.str y) = some (.str (x ++ y)) := by simp [oAdd, h]
theorem op_addL (h : xs.length + ys.length ≤ 1000000) : oAdd (.lst xs) (.lst ys) = some (.lst (xs ++ ys)) := by simp [oAdd, h]
theorem op_addT (h : xs.length + ys.length ≤ 1000000) : oAdd (.tup xs) (.tup ys) = some (.tup (xs ++ ys)) := by simp [oAdd, h]
theorem op_cat (h : xs.length + ys.length ≤ 1000000) : oCat (.lst xs) (.lst ys) = some (.lst (xs ++ ys)) := by simp [oCat, h]
theorem op_rep (h : -1000000 ≤ j ∧ j ≤ 1000000 ∧ xs.length * j.toNat ≤ 1000000) : oRep (.lst xs) (.int j) = some (.lst (List.replicate j.toNat xs).flatten) := by simp [oRep, h]
theorem op_sub : oSub (.int i) (.int j) = some (.int (i - j)) := rfl
theorem op_mulR (h : -(2 ^ 64) < j ∧ j < 2 ^ 64) : oMulI (.int i) (.int j) = some (.int (i * j)) := by simp only [oI, cMul, decide_eq_true (Or.inr h), if_true]
theorem op_mulL (h : -(2 ^ 64) < i ∧ i < 2 ^ 64) : oMulI (.int i) (.int j) = some (.int (i * j)) := by simp only [oI, cMul, decide_eq_true (Or.inl h), if_true]
theorem op_div (h : 0 < j ∧ j < 1073741824) : oDiv (.int i) (.int j) = some (.int (i / j)) := by simp only [oI, cDiv, decide_eq_true h, if_true]
theorem op_mod (h : 0 < j) : oMod (.int i) (.int j) = some (.int (i % j)) := by simp only [oI, cMod, decide_eq_true h, if_true]
theorem op_pow_10_20 : oPow (.int 10) (.int 20) = some (.int 100000000000000000000) := by rfl
theorem op_pow_10_60 : oPow (.int 10) (.int 60) = some (.int 1000000000000000000000000000000000000000000000000000000000000) := by rfl
theorem op_pow_10_12 : oPow (.int 10) (.int 12) = some (.int 1000000000000) := by rfl
theorem op_pow_10_15 : oPow (.int 10) (.int 15) = some (.int 1000000000000000) := by rfl
theorem op_pow_2_61 : oPow (.int 2) (.int 61) = some (.int 2305843009213693952) := by rfl
theorem op_pow_10_9 : oPow (.int 10) (.int 9) = some (.int 1000000000) := by rfl
theorem op_pow_10_18 : oPow (.int 10) (.int 18) = some (.int 1000000000000000000) := by rfl
theorem op_pow_2_64 : oPow (.int 2) (.int 64) = some (.int 18446744073709551616) := by rfl
theorem op_pow_10_30 : oPow (.int 10) (.int 30) = some (.int 1000000000000000000000000000000) := by rfl
theorem op_pow_2_20 : oPow (.int 2) (.int 20) = some (.int 1048576) := by rfl
theorem op_pow_10_50 : oPow (.int 10) (.int 50) = some (.int 100000000000000000000000000000000000000000000000000) := by rfl
theorem op_pow_10_59 : oPow (.int 10) (.int 59) = some (.int 100000000000000000000000000000000000000000000000000000000000) := by rfl
theorem op_pow_10_6 : oPow (.int 10) (.int 6) = some (.int 1000000) := by rfl
theorem op_pow_2_5 : oPow (.int 2) (.int 5) = some (.int 32) := by rfl
theorem op_pow_2_8 : oPow (.int 2) (.int 8) = some (.int 256) := by rfl
theorem op_lt : oLt (.int i) (.int j) = some (.bl (decide (i < j))) := rfl
theorem op_le : oLe (.int i) (.int j) = some (.bl (decide (i ≤ j))) := rfl
theorem op_gt : oGt (.int i) (.int j) = some (.bl (decide (j < i))) := rfl
theorem op_ge : oGe (.int i) (.int j) = some (.bl (decide (j ≤ i))) := rfl
theorem op_neg : oNeg (.int i) = some (.int (-i)) := rfl
theorem op_eqI : oEq (.int i) (.int j) = some (.bl (decide (i = j))) := by simp [oEq, D.eq?, D.py, PyData.depth, PyData.eqv, BEq.beq]
theorem op_eqS : oEq (.str x) (.str y) = some (.bl (decide (x = y))) := by
  simp only [oEq, D.eq?, D.py, PyData.depth, PyData.eqv, Option.map_some, Nat.min_self, Nat.zero_le, if_true]
  congr 2
theorem op_neI : oNe (.int i) (.int j) = some (.bl (!decide (i = j))) := by simp [oNe, D.eq?, D.py, PyData.depth, PyData.eqv, BEq.beq]
theorem op_neS : oNe (.str x) (.str y) = some (.bl (!decide (x = y))) := by
  simp only [oNe, D.eq?, D.py, PyData.depth, PyData.eqv, Option.map_some, Nat.min_self, Nat.zero_le, if_true]
  congr 2
theorem op_eqB {p q : Bool} : oEq (.bl p) (.bl q) = some (.bl (p == q)) := by simp [oEq, D.eq?, D.py, PyData.depth, PyData.eqv]
theorem op_neB {p q : Bool} : oNe (.bl p) (.bl q) = some (.bl (!(p == q))) := by simp [oNe, D.eq?, D.py, PyData.depth, PyData.eqv]
theorem op_is : oIs d .non = some (.bl d.isNon) := rfl
theorem op_isN : oIsN d .non = some (.bl (!d.isNon)) := rfl
/-- the same data -/
theorem D.eq_self {p : PyData} (h : d.py = some p) (hd : p.depth ≤ 60) : D.eq? d d = some true := by
  simp only [D.eq?, h, Nat.min_self, hd, if_true, SeqAt.eqv_refl_plain p (D.py_plain d p h)]
theorem op_ixL {n : Nat} (h : xs[n]? = some d) (hn : i = (n : Int)) : oIx (.lst xs) (.int i) = some d := by
  subst hn
  exact atI_of (j := n) (by simp [ixN]; exact (List.getElem?_eq_some_iff.mp h).1) h
end
end PM
namespace PM
open PySem PySem.Spec PyProof.Rows L2
/-- a text of one sign -/
def S1 (c : Nat) : Str := ⟨#[c]⟩
@[simp] theorem S1_len (c : Nat) : (S1 c).length = 1 := rfl
@[simp] theorem len_add (x y : Str) : (x ++ y).length = x.length + y.length := by
  show (x.cps ++ y.cps).size = _; rw [Array.size_append]; rfl
theorem lit_len (s : String) : (Str.ofString s).length = s.toList.length := by
  rw [Str.ofString_eq_toList]; simp [Str.length]
theorem lit_cps (s : String) : (Str.ofString s).cps.toList = s.toList.map Char.toNat := by
  rw [Str.ofString_eq_toList]
/-- the signs of a text -/
def Sl (x : Str) : List Nat := x.cps.toList
theorem Sl_len (x : Str) : (Sl x).length = x.length := by simp [Sl, Str.length]
theorem Sl_add (x y : Str) : Sl (x ++ y) = Sl x ++ Sl y := by
  show (x.cps ++ y.cps).toList = _; simp [Sl]
theorem Sl_one (c : Nat) : Sl (S1 c) = [c] := rfl
theorem Sl_inj {x y : Str} (h : Sl x = Sl y) : x = y := by
  cases x; cases y; simp only [Sl] at h; congr 1; exact Array.toList_inj.mp h
def mkS (l : List Nat) : Str := ⟨l.toArray⟩
@[simp] theorem Sl_mk (l : List Nat) : Sl (mkS l) = l := rfl
@[simp] theorem mk_Sl (x : Str) : mkS (Sl x) = x := rfl
@[simp] theorem mk_len (l : List Nat) : (mkS l).length = l.length := by simp [mkS, Str.length]
section
variable {i j : Int} {x y : Str} {xs ys : List D} {d e : D}
theorem ixN_of {n k : Nat} (hn : i = (k : Int)) (h : k < n) : ixN n i = some k := by
  subst hn; simp [ixN, h]
theorem op_ixS (h : 0 ≤ i ∧ i < x.length ∧ x.length ≤ 1000000) : oIx (.str x) (.int i) = some (.str (S1 ((Sl x).getD i.toNat 0))) := by
  have h1 : ixN x.cps.toList.length i = some i.toNat := ixN_of (by omega) (by have := h.2.1; unfold Str.length at this; simp only [Array.length_toList]; omega)
  have h2 : i.toNat < x.cps.toList.length := by have := h.2.1; unfold Str.length at this; simp only [Array.length_toList]; omega
  simp only [oIx, h.2.2, if_true, atI, h1, Option.bind_some, List.getElem?_eq_getElem h2, Option.map_some]
  simp only [S1, Sl, List.getD_eq_getElem?_getD, List.getElem?_eq_getElem h2, Option.getD_some]
theorem op_ixLd (h : 0 ≤ i ∧ i < xs.length) : oIx (.lst xs) (.int i) = some (xs.getD i.toNat .non) := by
  have h2 : i.toNat < xs.length := by omega
  rw [op_ixL (n := i.toNat) (d := xs.getD i.toNat .non) (by simp [List.getElem?_eq_getElem h2]) (by omega)]
theorem op_ixScr {ns : List Int} (h : 0 ≤ i ∧ i < ns.length) : oIx (.scr ns) (.int i) = some (.int (ns.getD i.toNat 0)) := by
  have h2 : i.toNat < ns.length := by omega
  simp only [oIx, atI, ixN_of (i := i) (k := i.toNat) (by omega) h2, Option.bind_some, List.getElem?_eq_getElem h2, Option.map_some]
  simp [List.getElem?_eq_getElem h2]
theorem op_cutS (h : x.length ≤ 1000000) {lo hi : Option Int} : oCut (.str x) lo hi = some (.str (cutS x lo hi)) := by simp [oCut, h]
theorem fn_lenS (h : x.length ≤ 1000000) : fLen [.str x] = some (.int x.length) := by simp [fLen, h]
theorem fn_lenL : fLen [.lst xs] = some (.int xs.length) := rfl
theorem fn_lenT : fLen [.tup xs] = some (.int xs.length) := rfl
theorem fn_lenScr {ns : List Int} : fLen [.scr ns] = some (.int ns.length) := rfl
theorem op_inS {c : Nat} : oIn (.str (S1 c)) (.str x) = some (.bl (decide (c ∈ Sl x))) := by
  simp [oIn, D.in?, S1, Sl]
theorem op_ninS {c : Nat} : oNin (.str (S1 c)) (.str x) = some (.bl (!decide (c ∈ Sl x))) := by
  simp [oNin, D.in?, S1, Sl]
theorem x_iS' {ca : Ex} {ρ : Env} {S S1' : Store} (ha : ca ρ S = .ok (.str x) S1') : iS ca ρ S = .ok ((Sl x).map fun c => .str (S1 c)) S1' := x_iS ha
end
end PM
namespace PM
open PySem PySem.Spec PyProof.Rows L2
section
variable {i j : Int} {x y : Str} {xs ys : List D} {d e : D}
theorem op_ixSm (h : 0 < x.length ∧ x.length ≤ 1000000) : oIx (.str x) (.int (i % (x.length : Int))) = some (.str (S1 ((Sl x).getD (i % (x.length : Int)).toNat 0))) :=
  op_ixS ⟨Int.emod_nonneg _ (by omega), Int.emod_lt_of_pos _ (by omega), h.2⟩
theorem op_ixLm (h : 0 < xs.length) : oIx (.lst xs) (.int (i % (xs.length : Int))) = some (xs.getD (i % (xs.length : Int)).toNat .non) :=
  op_ixLd ⟨Int.emod_nonneg _ (by omega), Int.emod_lt_of_pos _ (by omega)⟩
theorem op_ixTd (h : 0 ≤ i ∧ i < xs.length) : oIx (.tup xs) (.int i) = some (xs.getD i.toNat .non) := op_ixLd h
end
end PM
set_option maxHeartbeats 4000000
namespace PM
open PySem PySem.Spec PyProof.Rows L2
abbrev D.k_LETTERS : D := (.str "abcdefghijklmnopqrstuvwxyz")
abbrev D.k_MOST_LETTERS : D := (.int 8)
def c_p_is_whole : Stm := sRet (eAndD (eIsT "int" (eB 0)) (eNotD (eIsT "bool" (eB 0))))
def m_p_is_whole : Fn := mkFn [true] 0 c_p_is_whole
def c_p_is_mark : Stm := sSeq (sIf (tOrD (tNotD (eTr (eIsT "str" (eB 0)))) (tOrD (eTr (eBin oEq (eB 0) (eC (.str "")))) (eTr (eBin oGt (eFn fLen (aCons (eB 0) (aNil))) (eC D.k_MOST_LETTERS))))) (sRet (eC (.bl false))) (sNx)) (sSeq (sFor (iS (eB 0)) (gN 1) (sIf (eTr (eBin oNin (eB 1) (eC D.k_LETTERS))) (sRet (eC (.bl false))) (sNx))) (sRet (eC (.bl true))))
def m_p_is_mark : Fn := mkFn [true] 1 c_p_is_mark
def c_l_cell_at : Stm := sSeq (sIf (eTr (eBin oLt (eB 1) (eFn fLen (aCons (eB 0) (aNil))))) (sRet (eBin oIx (eB 0) (eB 1))) (sNx)) (sRet (eC (.int 0)))
def m_l_cell_at : Fn := mkFn [true, true] 0 c_l_cell_at
def c_l_mix : Stm := sSeq (sSet 2 (eBin oMod (eBin oMulI (eBin oAdd (eBin oAdd (eBin oAdd (eBin oMod (eB 0) (eBin oPow (eC (.int 10)) (eC (.int 20)))) (eBin oMulI (eC (.int 17)) (eB 1))) (eBin oMulI (eBin oMulI (eB 1) (eB 1)) (eB 1))) (eC (.int 5))) (eC (.int 48271))) (eC (.int 1000003)))) (sRet (eBin oMod (eBin oMulI (eB 2) (eC (.int 69621))) (eC (.int 999983))))
def m_l_mix : Fn := mkFn [true, true] 1 c_l_mix
def c_l_text_by : Stm := sSeq (sSet 3 (eC (.str " !\"#$&'()*+,-./0123456789:;<=>?@"))) (sSeq (sSet 3 (eBin oAdd (eB 3) (eC (.str "ABCDEFGHIJKLMNOPQRSTUVWXYZ[\\]^_`{|}~\n\t")))) (sSeq (sSet 4 (eC (.str "abcdefghijklmnopqrstuvwxyz"))) (sSeq (sSet 5 (eC (.str ""))) (sSeq (sFor (iR1 (aCons (eB 1) (aNil))) (gN 6) (sSeq (sSet 7 (eCall m_l_mix (aCons (eB 0) (aCons (eB 6) (aNil))))) (sIf (tAndD (eTr (eBin oEq (eB 2) (eC (.int 0)))) (eTr (eBin oEq (eBin oMod (eB 7) (eC (.int 2))) (eC (.int 0))))) (sSet 5 (eBin oAdd (eB 5) (eBin oIx (eB 3) (eBin oMod (eBin oDiv (eB 7) (eC (.int 2))) (eFn fLen (aCons (eB 3) (aNil))))))) (sSet 5 (eBin oAdd (eB 5) (eBin oIx (eB 4) (eBin oMod (eBin oDiv (eB 7) (eC (.int 5))) (eC (.int 26))))))))) (sSeq (sIf (tAndD (eTr (eBin oEq (eB 2) (eC (.int 1)))) (eTr (eBin oGt (eB 1) (eC (.int 0))))) (sSeq (sSet 8 (eBin oMod (eB 0) (eB 1))) (sSeq (sSet 9 (eBin oIx (eB 3) (eBin oMod (eBin oDiv (eB 0) (eB 1)) (eFn fLen (aCons (eB 3) (aNil)))))) (sSet 5 (eBin oAdd (eBin oAdd (eCut oCut (eB 5) (pNo) (pAt (eB 8))) (eB 9)) (eCut oCut (eB 5) (pAt (eBin oAdd (eB 8) (eC (.int 1)))) (pNo)))))) (sNx)) (sRet (eV 5)))))))
def m_l_text_by : Fn := mkFn [true, true, true] 7 c_l_text_by
def c_l_neither : Stm := sRet (eBin oIx (eLst (aCons (eC .non) (aCons (eC (.bl true)) (aCons (eC (.bl false)) (aCons (eLst (aCons (eV 1) (aNil))) (aCons (eTup (aCons (eV 1) (aNil))) (aCons (eLst (aCons (eV 2) (aCons (eV 1) (aNil)))) (aCons (eTup (aNil)) (aCons (eLst (aNil)) (aNil)))))))))) (eBin oMod (eB 0) (eC (.int 8))))
def m_l_neither : Fn := mkFn [true, false, false] 0 c_l_neither
def c_l_mark : Stm := sSeq (sIf (tOrD (tNotD (eTr (eIsT "str" (eB 0)))) (tOrD (eTr (eBin oEq (eFn fLen (aCons (eB 0) (aNil))) (eC (.int 0)))) (eTr (eBin oGt (eFn fLen (aCons (eB 0) (aNil))) (eC (.int 8)))))) (sRet (eC (.bl false))) (sNx)) (sSeq (sFor (iS (eB 0)) (gN 1) (sIf (eTr (eBin oNin (eB 1) (eC (.str "abcdefghijklmnopqrstuvwxyz")))) (sRet (eC (.bl false))) (sNx))) (sRet (eC (.bl true))))
def m_l_mark : Fn := mkFn [true] 1 c_l_mark
def c_p_law : Stm := sSeq (sSet 1 (eCall m_l_cell_at (aCons (eB 0) (aCons (eC (.int 0)) (aNil))))) (sSeq (sSet 2 (eCall m_l_text_by (aCons (eCall m_l_cell_at (aCons (eB 0) (aCons (eC (.int 1)) (aNil)))) (aCons (eBin oMod (eBin oDiv (eB 1) (eC (.int 4))) (eC (.int 10))) (aCons (eBin oMod (eB 1) (eC (.int 4))) (aNil)))))) (sSeq (sSet 3 (eBin oMod (eBin oDiv (eCall m_l_cell_at (aCons (eB 0) (aCons (eC (.int 2)) (aNil)))) (eC (.int 2))) (eBin oPow (eC (.int 10)) (eC (.int 60))))) (sSeq (sIf (eTr (eBin oEq (eBin oMod (eCall m_l_cell_at (aCons (eB 0) (aCons (eC (.int 2)) (aNil)))) (eC (.int 2))) (eC (.int 1)))) (sSet 3 (eUn oNeg (eB 3))) (sNx)) (sSeq (sFor (iL (eLst (aCons (eV 2) (aCons (eV 3) (aCons (eCall m_l_neither (aCons (eCall m_l_cell_at (aCons (eB 0) (aCons (eC (.int 3)) (aNil)))) (aCons (eV 2) (aCons (eV 3) (aNil))))) (aNil)))))) (gN 4) (sSeq (sSet 5 (eCall m_p_is_mark (aCons (eB 4) (aNil)))) (sSeq (sIf (tOrD (tNotD (eTr (eIsT "bool" (eB 5)))) (eTr (eBin oNe (eB 5) (eCall m_l_mark (aCons (eB 4) (aNil)))))) (sRet (eC (.bl false))) (sNx)) (sSeq (sSet 5 (eCall m_p_is_whole (aCons (eB 4) (aNil)))) (sIf (tOrD (tNotD (eTr (eIsT "bool" (eB 5)))) (eTr (eBin oNe (eB 5) (eAndD (eIsT "int" (eB 4)) (eNotD (eIsT "bool" (eB 4))))))) (sRet (eC (.bl false))) (sNx)))))) (sRet (eC (.bl true)))))))
def m_p_law : Fn := mkFn [true] 5 c_p_law
end PM
namespace PM
open PySem PySem.Spec PyProof.Rows L2
local macro_rules | `(tactic| k_subL) => `(tactic| first | (with_reducible assumption) | omega | (constructor <;> omega) | (simp only [len_add, S1_len, lit_len, mk_len, List.length_cons, List.length_nil, List.length_append, List.length_map, List.length_replicate]; omega) | ((with_reducible show _ = _); exact rfl) | (simp [lit_len]; done) | (simp [lit_len]; omega))
local macro_rules | `(tactic| k_memK) => `(tactic| first
  | (with_reducible exact Nth.z)
  | ((with_reducible refine' Nth.s ?a1_0); (case a1_0 => k_memK)))
local macro_rules | `(tactic| k_clsL) => `(tactic| first
  | (with_reducible exact SetR.z)
  | ((with_reducible refine' SetR.s ?a2_0); (case a2_0 => k_clsL)))
local macro_rules | `(tactic| k_offL) => `(tactic| first | exact rfl | (apply decide_eq_true; first | (with_reducible assumption) | omega) | (apply decide_eq_false; first | (with_reducible assumption) | omega) | (with_reducible assumption) | ((with_reducible apply tt_nT); k_offL) | ((with_reducible apply tt_nF); k_offL) | ((with_reducible apply tt_aT); k_offL; k_offL) | ((with_reducible apply tt_oF); k_offL; k_offL) | ((with_reducible apply tt_aF1); k_offL) | ((with_reducible apply tt_aF2); k_offL) | ((with_reducible apply tt_oT1); k_offL) | ((with_reducible apply tt_oT2); k_offL))
local macro_rules | `(tactic| k_ownIn) => `(tactic| first
  | ((with_reducible refine' StartR.t ?a3_0); (case a3_0 => k_ownIn))
  | ((with_reducible refine' StartR.f ?a4_0); (case a4_0 => k_ownIn))
  | ((with_reducible refine' StartR.n ?a5_0); (case a5_0 => k_ownIn))
  | ((with_reducible refine' UnR.s ?a6_0); (case a6_0 => k_ownIn))
  | (with_reducible exact UnR.z))
local macro_rules | `(tactic| k_updF) => `(tactic| first | (with_reducible assumption))
local macro_rules | `(tactic| k_places) => `(tactic| first
  | (with_reducible exact op_addI)
  | (with_reducible exact op_sub)
  | ((with_reducible refine' op_mulR ?a7_0); (case a7_0 => k_subL))
  | ((with_reducible refine' op_mulL ?a8_0); (case a8_0 => k_subL))
  | ((with_reducible refine' op_div ?a9_0); (case a9_0 => k_subL))
  | ((with_reducible refine' op_mod ?a10_0); (case a10_0 => k_subL))
  | ((with_reducible refine' op_addS ?a11_0); (case a11_0 => k_subL))
  | ((with_reducible refine' op_addL ?a12_0); (case a12_0 => k_subL))
  | ((with_reducible refine' op_addT ?a13_0); (case a13_0 => k_subL))
  | ((with_reducible refine' op_cat ?a14_0); (case a14_0 => k_subL))
  | ((with_reducible refine' op_rep ?a15_0); (case a15_0 => k_subL))
  | (with_reducible exact op_lt)
  | (with_reducible exact op_le)
  | (with_reducible exact op_gt)
  | (with_reducible exact op_ge)
  | (with_reducible exact op_neg)
  | (with_reducible exact op_eqI)
  | (with_reducible exact op_eqS)
  | (with_reducible exact op_neI)
  | (with_reducible exact op_neS)
  | (with_reducible exact op_eqB)
  | (with_reducible exact op_neB)
  | (with_reducible exact op_is)
  | (with_reducible exact op_isN)
  | (with_reducible exact op_pow_10_20)
  | (with_reducible exact op_pow_10_60)
  | (with_reducible exact op_pow_10_12)
  | (with_reducible exact op_pow_10_15)
  | (with_reducible exact op_pow_2_61)
  | (with_reducible exact op_pow_10_9)
  | (with_reducible exact op_pow_10_30)
  | (with_reducible exact op_pow_10_50)
  | (with_reducible exact op_pow_10_59)
  | (with_reducible exact op_pow_10_6)
  | (with_reducible exact op_pow_2_5)
  | (with_reducible exact op_pow_2_8)
  | ((with_reducible refine' op_ixSm ?a16_0); (case a16_0 => k_subL))
  | ((with_reducible refine' op_ixLm ?a17_0); (case a17_0 => k_subL))
  | ((with_reducible refine' op_ixS ?a18_0); (case a18_0 => k_subL))
  | ((with_reducible refine' op_ixTd ?a19_0); (case a19_0 => k_subL))
  | ((with_reducible refine' op_ixLd ?a20_0); (case a20_0 => k_subL))
  | ((with_reducible refine' op_ixScr ?a21_0); (case a21_0 => k_subL))
  | ((with_reducible refine' op_cutS ?a22_0); (case a22_0 => k_subL))
  | ((with_reducible refine' fn_lenS ?a23_0); (case a23_0 => k_subL))
  | (with_reducible exact fn_lenL)
  | (with_reducible exact fn_lenT)
  | (with_reducible exact fn_lenScr)
  | (with_reducible exact op_inS)
  | (with_reducible exact op_ninS)
  | (with_reducible assumption)
  | ((with_reducible show oIx (.tup (_ :: _)) (.int (OfNat.ofNat _)) = _); exact rfl)
  | ((with_reducible show oIx (.lst (_ :: _)) (.int (OfNat.ofNat _)) = _); exact rfl))
local macro_rules | `(tactic| k_allIn) => `(tactic| first
  | (with_reducible exact x_C)
  | ((with_reducible refine' x_V ?a24_0); (case a24_0 => k_memK))
  | ((with_reducible refine' x_Bf ?a25_0); (case a25_0 => k_memK))
  | ((with_reducible refine' x_Bb ?a26_0); (case a26_0 => k_memK))
  | ((with_reducible refine' x_Bo ?a27_0); (case a27_0 => k_memK))
  | ((with_reducible refine' x_Bm ?a28_0); (case a28_0 => k_memK))
  | ((with_reducible refine' x_Bin ?a29_0 ?a29_1 ?a29_2); (case a29_0 => k_allIn); (case a29_1 => k_allIn); (case a29_2 => k_places))
  | ((with_reducible refine' x_Un ?a30_0 ?a30_1); (case a30_0 => k_allIn); (case a30_1 => k_places))
  | (with_reducible exact x_aNil)
  | ((with_reducible refine' x_aCons ?a31_0 ?a31_1); (case a31_0 => k_allIn); (case a31_1 => k_allIn))
  | ((with_reducible refine' x_TrB ?a32_0); (case a32_0 => k_allIn))
  | ((with_reducible refine' x_Tr ?a33_0 ?a33_1); (case a33_0 => k_allIn); (case a33_1 => exact rfl))
  | ((with_reducible refine' x_Fn ?a34_0 ?a34_1); (case a34_0 => k_allIn); (case a34_1 => k_places))
  | ((with_reducible refine' x_IsT ?a35_0 ?a35_1); (case a35_0 => k_allIn); (case a35_1 => exact rfl))
  | ((with_reducible refine' x_Call ?a36_0 ?a36_1 ?a36_2); (case a36_0 => k_allIn); (case a36_1 => k_updF); (case a36_2 => exact rfl))
  | ((with_reducible refine' x_CallN ?a37_0 ?a37_1); (case a37_0 => k_allIn); (case a37_1 => k_updF))
  | ((with_reducible refine' k_tAnd ?a41_0 ?a41_1); (case a41_0 => k_allIn); (case a41_1 => first
  | ((with_reducible refine' k_tAndF ?a38_0); (case a38_0 => k_offL))
  | ((with_reducible refine' k_tAndT ?a39_0 ?a39_1); (case a39_0 => k_offL); (case a39_1 => k_allIn))
  | ((with_reducible refine' k_tAndS ?a40_0); (case a40_0 => (intro _; k_allIn)))))
  | ((with_reducible refine' k_tOr ?a45_0 ?a45_1); (case a45_0 => k_allIn); (case a45_1 => first
  | ((with_reducible refine' k_tOrT ?a42_0); (case a42_0 => k_offL))
  | ((with_reducible refine' k_tOrF ?a43_0 ?a43_1); (case a43_0 => k_offL); (case a43_1 => k_allIn))
  | ((with_reducible refine' k_tOrS ?a44_0); (case a44_0 => (intro _; k_allIn)))))
  | ((with_reducible refine' k_And ?a49_0 ?a49_1); (case a49_0 => k_allIn); (case a49_1 => first
  | ((with_reducible refine' k_AndF ?a46_0); (case a46_0 => k_offL))
  | ((with_reducible refine' k_AndT ?a47_0 ?a47_1); (case a47_0 => k_offL); (case a47_1 => k_allIn))
  | ((with_reducible refine' k_AndS ?a48_0); (case a48_0 => (intro _; k_allIn)))))
  | ((with_reducible refine' k_Or ?a53_0 ?a53_1); (case a53_0 => k_allIn); (case a53_1 => first
  | ((with_reducible refine' k_OrT ?a50_0); (case a50_0 => k_offL))
  | ((with_reducible refine' k_OrF ?a51_0 ?a51_1); (case a51_0 => k_offL); (case a51_1 => k_allIn))
  | ((with_reducible refine' k_OrS ?a52_0); (case a52_0 => (intro _; k_allIn)))))
  | ((with_reducible refine' x_tNot ?a54_0); (case a54_0 => k_allIn))
  | ((with_reducible refine' x_Not ?a55_0); (case a55_0 => k_allIn))
  | ((with_reducible refine' k_If ?a58_0 ?a58_1); (case a58_0 => k_allIn); (case a58_1 => first
  | ((with_reducible refine' k_IfT ?a56_0 ?a56_1); (case a56_0 => k_offL); (case a56_1 => k_allIn))
  | ((with_reducible refine' k_IfF ?a57_0 ?a57_1); (case a57_0 => k_offL); (case a57_1 => k_allIn))))
  | ((with_reducible refine' x_Lst ?a59_0 ?a59_1); (case a59_0 => k_allIn); (case a59_1 => k_subL))
  | ((with_reducible refine' x_Tup ?a60_0 ?a60_1); (case a60_0 => k_allIn); (case a60_1 => k_subL))
  | (with_reducible exact x_Dic0)
  | (with_reducible exact x_pNo)
  | ((with_reducible refine' x_pAt ?a61_0); (case a61_0 => k_allIn))
  | ((with_reducible refine' x_Cut ?a62_0 ?a62_1 ?a62_2 ?a62_3); (case a62_0 => k_allIn); (case a62_1 => k_allIn); (case a62_2 => k_allIn); (case a62_3 => k_places))
  | ((with_reducible refine' x_iFn ?a65_0 ?a65_1); (case a65_0 => k_allIn); (case a65_1 => first
  | ((with_reducible refine' fR1_ok ?a63_0); (case a63_0 => k_subL))
  | ((with_reducible refine' fR2_ok ?a64_0); (case a64_0 => k_subL))))
  | ((with_reducible refine' x_iBf ?a66_0); (case a66_0 => k_memK))
  | ((with_reducible refine' x_iBb ?a67_0); (case a67_0 => k_memK))
  | ((with_reducible refine' x_iS' ?a68_0); (case a68_0 => k_allIn))
  | ((with_reducible refine' x_iT ?a69_0); (case a69_0 => k_allIn))
  | ((with_reducible refine' x_iL ?a70_0); (case a70_0 => k_allIn))
  | ((with_reducible refine' x_iLs ?a71_0); (case a71_0 => k_allIn))
  | (with_reducible assumption))
local macro_rules | `(tactic| k_upd) => `(tactic| first
  | (with_reducible refine r_Seq ?_)
  | (with_reducible refine r_seqQ ?_)
  | (with_reducible refine r_seqR ?_)
  | (with_reducible refine r_Nx ?_)
  | (with_reducible refine r_Pass ?_)
  | (with_reducible refine q_nx ?_)
  | (with_reducible refine q_ct ?_)
  | (with_reducible refine q_rt ?_)
  | (with_reducible refine q_bk ?_)
  | (with_reducible refine r_Brk ?_)
  | (with_reducible refine r_Cnt ?_)
  | ((with_reducible refine' r_Set ?a72_0 ?a72_1 ?a72_2); (case a72_0 => k_allIn); (case a72_1 => k_clsL))
  | ((with_reducible refine' r_SetN ?a73_0 ?a73_1 ?a73_2); (case a73_0 => k_allIn); (case a73_1 => k_clsL))
  | ((with_reducible refine' r_Ret ?a74_0 ?a74_1); (case a74_0 => k_allIn))
  | ((with_reducible refine' r_RetN ?a75_0 ?a75_1); (case a75_0 => k_allIn))
  | ((with_reducible refine' r_RetVo ?a76_0 ?a76_1); (case a76_0 => k_memK))
  | ((with_reducible refine' r_RetVf ?a77_0 ?a77_1); (case a77_0 => k_memK))
  | ((with_reducible refine' r_IfK ?a80_0 ?a80_1); (case a80_0 => k_allIn); (case' a80_1 => first
  | ((with_reducible refine' r_KT ?a78_0 ?a78_1); (case a78_0 => k_offL))
  | ((with_reducible refine' r_KF ?a79_0 ?a79_1); (case a79_0 => k_offL))
  | ((with_reducible refine r_K2 ?_ ?_) <;> intro _)))
  | ((with_reducible refine' r_Fzo ?a81_0 ?a81_1 ?a81_2); (case a81_0 => k_memK); (case a81_1 => k_clsL))
  | ((with_reducible refine' r_Fzf ?a82_0 ?a82_1); (case a82_0 => k_memK))
  | ((with_reducible refine' r_Aug ?a83_0 ?a83_1 ?a83_2 ?a83_3 ?a83_4); (case a83_0 => k_memK); (case a83_1 => k_allIn); (case a83_2 => k_places); (case a83_3 => k_clsL))
  | ((with_reducible refine' r_Lm ?a84_0 ?a84_1 ?a84_2 ?a84_3 ?a84_4); (case a84_0 => k_memK); (case a84_1 => k_allIn); (case a84_2 => k_places); (case a84_3 => k_clsL))
  | ((with_reducible refine' r_Drop ?a85_0 ?a85_1); (case a85_0 => k_allIn))
  | ((with_reducible refine' r_For ?a86_0 ?a86_1); (case a86_0 => k_allIn)))
def lett : List Nat := Sl (Str.ofString "abcdefghijklmnopqrstuvwxyz")
def isMk : D → Bool
  | .str x => decide (x ≠ Str.ofString "") && decide (x.length ≤ 8) && (Sl x).all (fun c => decide (c ∈ lett))
  | _ => false
theorem s_is_mark (d : D) (S : Store) (hd : ∀ x, d = .str x → x.length ≤ 1000000) (h : d.isT "str" ≠ none) : m_p_is_mark [d] S = .ok (.fr (.bl (isMk d))) S := by
  refine r_fnE (m := m_p_is_mark) rfl (fun r => r = _) (by k_ownIn) ?_
  unfold c_p_is_mark
  cases d
  case str x =>
    have hx := hd x rfl
    by_cases h0 : x = Str.ofString ""
    · (repeat k_upd)
      subst h0; rfl
    · by_cases h1 : x.length ≤ 8
      · (repeat k_upd)
        refine r_forAll (v := .fr (.bl false)) (fun c => decide (c ∈ lett)) (fun j : Slot => [.bo (.str x), j]) (fun j c => [.bo (.str x), .fr (.str (S1 c))]) (fun _ _ => rfl) ?_ ?_ ?_ ?_
        · intro j c hc hp
          have hp : decide (c ∈ Sl (Str.ofString "abcdefghijklmnopqrstuvwxyz")) = true := hp
          (repeat k_upd)
          exact .inl ⟨_, rfl⟩
        · intro j c hc hp
          have hp : decide (c ∈ Sl (Str.ofString "abcdefghijklmnopqrstuvwxyz")) = false := hp
          (repeat k_upd)
          rfl
        · intro h j
          (repeat k_upd)
          simp [isMk, h, h0, h1, fin]
        · intro h
          (repeat k_upd)
          simp [isMk, h, h0, h1, fin]
      · (repeat k_upd)
        simp [isMk, h1, fin]
  case obj => exact absurd rfl h
  case rf => exact absurd rfl h
  all_goals
    (repeat k_upd)
    rfl
theorem s_law_mark (d : D) (S : Store) (hd : ∀ x, d = .str x → x.length ≤ 1000000) (h : d.isT "str" ≠ none) : m_l_mark [d] S = .ok (.fr (.bl (isMk d))) S := by
  refine r_fnE (m := m_l_mark) rfl (fun r => r = _) (by k_ownIn) ?_
  unfold c_l_mark
  cases d
  case str x =>
    have hx := hd x rfl
    have he : x = Str.ofString "" ↔ (x.length : Int) = 0 := by
      constructor
      · rintro rfl; rfl
      · intro h; apply Sl_inj; apply List.eq_nil_of_length_eq_zero; rw [Sl_len]; omega
    by_cases h0 : (x.length : Int) = 0
    · (repeat k_upd)
      simp [isMk, he, h0, fin]
    · by_cases h1 : x.length ≤ 8
      · (repeat k_upd)
        refine r_forAll (v := .fr (.bl false)) (fun c => decide (c ∈ lett)) (fun j : Slot => [.bo (.str x), j]) (fun j c => [.bo (.str x), .fr (.str (S1 c))]) (fun _ _ => rfl) ?_ ?_ ?_ ?_
        · intro j c hc hp
          have hp : decide (c ∈ Sl (Str.ofString "abcdefghijklmnopqrstuvwxyz")) = true := hp
          (repeat k_upd)
          exact .inl ⟨_, rfl⟩
        · intro j c hc hp
          have hp : decide (c ∈ Sl (Str.ofString "abcdefghijklmnopqrstuvwxyz")) = false := hp
          (repeat k_upd)
          rfl
        · intro h j
          (repeat k_upd)
          simp [isMk, h, he, h1, fin]; omega
        · intro h
          (repeat k_upd)
          simp [isMk, h, h0, h1, fin]
      · (repeat k_upd)
        simp [isMk, h1, fin]
  case obj => exact absurd rfl h
  case rf => exact absurd rfl h
  all_goals
    (repeat k_upd)
    rfl
theorem s_is_whole (d : D) (S : Store) (p q : Bool) (hp : d.isT "int" = some p) (hq : d.isT "bool" = some q) : m_p_is_whole [d] S = .ok (.fr (.bl (p && !q))) S := by
  refine r_fnE (m := m_p_is_whole) rfl (fun r => r = _) (by k_ownIn) ?_
  unfold c_p_is_whole
  cases d <;> simp only [D.isT, reduceCtorEq] at hp hq <;> cases hp <;> cases hq <;> ((repeat k_upd)) <;> rfl
def mix (a k : Int) : Int := ((a % 10^20 + 17*k + k*k*k + 5) * 48271 % 1000003) * 69621 % 999983
theorem s_mix (a k : Int) (S : Store) (hk : 0 ≤ k ∧ k < 100000) : m_l_mix [.int a, .int k] S = .ok (.fr (.int (mix a k))) S := by
  refine r_fnE (m := m_l_mix) rfl (fun r => r = _) (by k_ownIn) ?_
  unfold c_l_mix
  (repeat k_upd)
  rfl
theorem mix_nn (a k : Int) : 0 ≤ mix a k := by unfold mix; omega
def cell (ns : List Int) (k : Int) (z : Int) : Int := if k < ns.length then ns.getD k.toNat 0 else z
theorem s_cell_at (ns : List Int) (k : Int) (S : Store) (hk : 0 ≤ k) : m_l_cell_at [.scr ns, .int k] S = .ok (.fr (.int (cell ns k 0))) S := by
  refine r_fnE (m := m_l_cell_at) rfl (fun r => r = _) (by k_ownIn) ?_
  unfold c_l_cell_at
  by_cases h : k < ns.length
  · (repeat k_upd)
    simp [cell, h, fin]
  · (repeat k_upd)
    simp [cell, h, fin]
end PM
namespace PM
open PySem PySem.Spec PyProof.Rows L2
local macro_rules | `(tactic| k_subL) => `(tactic| first | (with_reducible assumption) | omega | (constructor <;> omega) | (simp only [len_add, S1_len, lit_len, mk_len, List.length_cons, List.length_nil, List.length_append, List.length_map, List.length_replicate]; omega) | ((with_reducible show _ = _); exact rfl) | (simp [lit_len]; done) | (simp [lit_len]; omega))
local macro_rules | `(tactic| k_memK) => `(tactic| first
  | (with_reducible exact Nth.z)
  | ((with_reducible refine' Nth.s ?a1_0); (case a1_0 => k_memK)))
local macro_rules | `(tactic| k_clsL) => `(tactic| first
  | (with_reducible exact SetR.z)
  | ((with_reducible refine' SetR.s ?a2_0); (case a2_0 => k_clsL)))
local macro_rules | `(tactic| k_offL) => `(tactic| first | exact rfl | (apply decide_eq_true; first | (with_reducible assumption) | omega) | (apply decide_eq_false; first | (with_reducible assumption) | omega) | (with_reducible assumption) | ((with_reducible apply tt_nT); k_offL) | ((with_reducible apply tt_nF); k_offL) | ((with_reducible apply tt_aT); k_offL; k_offL) | ((with_reducible apply tt_oF); k_offL; k_offL) | ((with_reducible apply tt_aF1); k_offL) | ((with_reducible apply tt_aF2); k_offL) | ((with_reducible apply tt_oT1); k_offL) | ((with_reducible apply tt_oT2); k_offL))
local macro_rules | `(tactic| k_ownIn) => `(tactic| first
  | ((with_reducible refine' StartR.t ?a3_0); (case a3_0 => k_ownIn))
  | ((with_reducible refine' StartR.f ?a4_0); (case a4_0 => k_ownIn))
  | ((with_reducible refine' StartR.n ?a5_0); (case a5_0 => k_ownIn))
  | ((with_reducible refine' UnR.s ?a6_0); (case a6_0 => k_ownIn))
  | (with_reducible exact UnR.z))
local macro_rules | `(tactic| k_updF) => `(tactic| first | (with_reducible assumption))
local macro_rules | `(tactic| k_places) => `(tactic| first
  | (with_reducible exact op_addI)
  | (with_reducible exact op_sub)
  | ((with_reducible refine' op_mulR ?a7_0); (case a7_0 => k_subL))
  | ((with_reducible refine' op_mulL ?a8_0); (case a8_0 => k_subL))
  | ((with_reducible refine' op_div ?a9_0); (case a9_0 => k_subL))
  | ((with_reducible refine' op_mod ?a10_0); (case a10_0 => k_subL))
  | ((with_reducible refine' op_addS ?a11_0); (case a11_0 => k_subL))
  | ((with_reducible refine' op_addL ?a12_0); (case a12_0 => k_subL))
  | ((with_reducible refine' op_addT ?a13_0); (case a13_0 => k_subL))
  | ((with_reducible refine' op_cat ?a14_0); (case a14_0 => k_subL))
  | ((with_reducible refine' op_rep ?a15_0); (case a15_0 => k_subL))
  | (with_reducible exact op_lt)
  | (with_reducible exact op_le)
  | (with_reducible exact op_gt)
  | (with_reducible exact op_ge)
  | (with_reducible exact op_neg)
  | (with_reducible exact op_eqI)
  | (with_reducible exact op_eqS)
  | (with_reducible exact op_neI)
  | (with_reducible exact op_neS)
  | (with_reducible exact op_eqB)
  | (with_reducible exact op_neB)
  | (with_reducible exact op_is)
  | (with_reducible exact op_isN)
  | (with_reducible exact op_pow_10_20)
  | (with_reducible exact op_pow_10_60)
  | (with_reducible exact op_pow_10_12)
  | (with_reducible exact op_pow_10_15)
  | (with_reducible exact op_pow_2_61)
  | (with_reducible exact op_pow_10_9)
  | (with_reducible exact op_pow_10_30)
  | (with_reducible exact op_pow_10_50)
  | (with_reducible exact op_pow_10_59)
  | (with_reducible exact op_pow_10_6)
  | (with_reducible exact op_pow_2_5)
  | (with_reducible exact op_pow_2_8)
  | ((with_reducible refine' op_ixSm ?a16_0); (case a16_0 => k_subL))
  | ((with_reducible refine' op_ixLm ?a17_0); (case a17_0 => k_subL))
  | ((with_reducible refine' op_ixS ?a18_0); (case a18_0 => k_subL))
  | ((with_reducible refine' op_ixTd ?a19_0); (case a19_0 => k_subL))
  | ((with_reducible refine' op_ixLd ?a20_0); (case a20_0 => k_subL))
  | ((with_reducible refine' op_ixScr ?a21_0); (case a21_0 => k_subL))
  | ((with_reducible refine' op_cutS ?a22_0); (case a22_0 => k_subL))
  | ((with_reducible refine' fn_lenS ?a23_0); (case a23_0 => k_subL))
  | (with_reducible exact fn_lenL)
  | (with_reducible exact fn_lenT)
  | (with_reducible exact fn_lenScr)
  | (with_reducible exact op_inS)
  | (with_reducible exact op_ninS)
  | (with_reducible assumption)
  | ((with_reducible show oIx (.tup (_ :: _)) (.int (OfNat.ofNat _)) = _); exact rfl)
  | ((with_reducible show oIx (.lst (_ :: _)) (.int (OfNat.ofNat _)) = _); exact rfl))
local macro_rules | `(tactic| k_allIn) => `(tactic| first
  | (with_reducible exact x_C)
  | ((with_reducible refine' x_V ?a24_0); (case a24_0 => k_memK))
  | ((with_reducible refine' x_Bf ?a25_0); (case a25_0 => k_memK))
  | ((with_reducible refine' x_Bb ?a26_0); (case a26_0 => k_memK))
  | ((with_reducible refine' x_Bo ?a27_0); (case a27_0 => k_memK))
  | ((with_reducible refine' x_Bm ?a28_0); (case a28_0 => k_memK))
  | ((with_reducible refine' x_Bin ?a29_0 ?a29_1 ?a29_2); (case a29_0 => k_allIn); (case a29_1 => k_allIn); (case a29_2 => k_places))
  | ((with_reducible refine' x_Un ?a30_0 ?a30_1); (case a30_0 => k_allIn); (case a30_1 => k_places))
  | (with_reducible exact x_aNil)
  | ((with_reducible refine' x_aCons ?a31_0 ?a31_1); (case a31_0 => k_allIn); (case a31_1 => k_allIn))
  | ((with_reducible refine' x_TrB ?a32_0); (case a32_0 => k_allIn))
  | ((with_reducible refine' x_Tr ?a33_0 ?a33_1); (case a33_0 => k_allIn); (case a33_1 => exact rfl))
  | ((with_reducible refine' x_Fn ?a34_0 ?a34_1); (case a34_0 => k_allIn); (case a34_1 => k_places))
  | ((with_reducible refine' x_IsT ?a35_0 ?a35_1); (case a35_0 => k_allIn); (case a35_1 => exact rfl))
  | ((with_reducible refine' x_Call ?a36_0 ?a36_1 ?a36_2); (case a36_0 => k_allIn); (case a36_1 => k_updF); (case a36_2 => exact rfl))
  | ((with_reducible refine' x_CallN ?a37_0 ?a37_1); (case a37_0 => k_allIn); (case a37_1 => k_updF))
  | ((with_reducible refine' k_tAnd ?a41_0 ?a41_1); (case a41_0 => k_allIn); (case a41_1 => first
  | ((with_reducible refine' k_tAndF ?a38_0); (case a38_0 => k_offL))
  | ((with_reducible refine' k_tAndT ?a39_0 ?a39_1); (case a39_0 => k_offL); (case a39_1 => k_allIn))
  | ((with_reducible refine' k_tAndS ?a40_0); (case a40_0 => (intro _; k_allIn)))))
  | ((with_reducible refine' k_tOr ?a45_0 ?a45_1); (case a45_0 => k_allIn); (case a45_1 => first
  | ((with_reducible refine' k_tOrT ?a42_0); (case a42_0 => k_offL))
  | ((with_reducible refine' k_tOrF ?a43_0 ?a43_1); (case a43_0 => k_offL); (case a43_1 => k_allIn))
  | ((with_reducible refine' k_tOrS ?a44_0); (case a44_0 => (intro _; k_allIn)))))
  | ((with_reducible refine' k_And ?a49_0 ?a49_1); (case a49_0 => k_allIn); (case a49_1 => first
  | ((with_reducible refine' k_AndF ?a46_0); (case a46_0 => k_offL))
  | ((with_reducible refine' k_AndT ?a47_0 ?a47_1); (case a47_0 => k_offL); (case a47_1 => k_allIn))
  | ((with_reducible refine' k_AndS ?a48_0); (case a48_0 => (intro _; k_allIn)))))
  | ((with_reducible refine' k_Or ?a53_0 ?a53_1); (case a53_0 => k_allIn); (case a53_1 => first
  | ((with_reducible refine' k_OrT ?a50_0); (case a50_0 => k_offL))
  | ((with_reducible refine' k_OrF ?a51_0 ?a51_1); (case a51_0 => k_offL); (case a51_1 => k_allIn))
  | ((with_reducible refine' k_OrS ?a52_0); (case a52_0 => (intro _; k_allIn)))))
  | ((with_reducible refine' x_tNot ?a54_0); (case a54_0 => k_allIn))
  | ((with_reducible refine' x_Not ?a55_0); (case a55_0 => k_allIn))
  | ((with_reducible refine' k_If ?a58_0 ?a58_1); (case a58_0 => k_allIn); (case a58_1 => first
  | ((with_reducible refine' k_IfT ?a56_0 ?a56_1); (case a56_0 => k_offL); (case a56_1 => k_allIn))
  | ((with_reducible refine' k_IfF ?a57_0 ?a57_1); (case a57_0 => k_offL); (case a57_1 => k_allIn))))
  | ((with_reducible refine' x_Lst ?a59_0 ?a59_1); (case a59_0 => k_allIn); (case a59_1 => k_subL))
  | ((with_reducible refine' x_Tup ?a60_0 ?a60_1); (case a60_0 => k_allIn); (case a60_1 => k_subL))
  | (with_reducible exact x_Dic0)
  | (with_reducible exact x_pNo)
  | ((with_reducible refine' x_pAt ?a61_0); (case a61_0 => k_allIn))
  | ((with_reducible refine' x_Cut ?a62_0 ?a62_1 ?a62_2 ?a62_3); (case a62_0 => k_allIn); (case a62_1 => k_allIn); (case a62_2 => k_allIn); (case a62_3 => k_places))
  | ((with_reducible refine' x_iFn ?a65_0 ?a65_1); (case a65_0 => k_allIn); (case a65_1 => first
  | ((with_reducible refine' fR1_ok ?a63_0); (case a63_0 => k_subL))
  | ((with_reducible refine' fR2_ok ?a64_0); (case a64_0 => k_subL))))
  | ((with_reducible refine' x_iBf ?a66_0); (case a66_0 => k_memK))
  | ((with_reducible refine' x_iBb ?a67_0); (case a67_0 => k_memK))
  | ((with_reducible refine' x_iS' ?a68_0); (case a68_0 => k_allIn))
  | ((with_reducible refine' x_iT ?a69_0); (case a69_0 => k_allIn))
  | ((with_reducible refine' x_iL ?a70_0); (case a70_0 => k_allIn))
  | ((with_reducible refine' x_iLs ?a71_0); (case a71_0 => k_allIn))
  | (with_reducible assumption))
local macro_rules | `(tactic| k_upd) => `(tactic| first
  | (with_reducible refine r_Seq ?_)
  | (with_reducible refine r_seqQ ?_)
  | (with_reducible refine r_seqR ?_)
  | (with_reducible refine r_Nx ?_)
  | (with_reducible refine r_Pass ?_)
  | (with_reducible refine q_nx ?_)
  | (with_reducible refine q_ct ?_)
  | (with_reducible refine q_rt ?_)
  | (with_reducible refine q_bk ?_)
  | (with_reducible refine r_Brk ?_)
  | (with_reducible refine r_Cnt ?_)
  | ((with_reducible refine' r_Set ?a72_0 ?a72_1 ?a72_2); (case a72_0 => k_allIn); (case a72_1 => k_clsL))
  | ((with_reducible refine' r_SetN ?a73_0 ?a73_1 ?a73_2); (case a73_0 => k_allIn); (case a73_1 => k_clsL))
  | ((with_reducible refine' r_Ret ?a74_0 ?a74_1); (case a74_0 => k_allIn))
  | ((with_reducible refine' r_RetN ?a75_0 ?a75_1); (case a75_0 => k_allIn))
  | ((with_reducible refine' r_RetVo ?a76_0 ?a76_1); (case a76_0 => k_memK))
  | ((with_reducible refine' r_RetVf ?a77_0 ?a77_1); (case a77_0 => k_memK))
  | ((with_reducible refine' r_IfK ?a80_0 ?a80_1); (case a80_0 => k_allIn); (case' a80_1 => first
  | ((with_reducible refine' r_KT ?a78_0 ?a78_1); (case a78_0 => k_offL))
  | ((with_reducible refine' r_KF ?a79_0 ?a79_1); (case a79_0 => k_offL))
  | ((with_reducible refine r_K2 ?_ ?_) <;> intro _)))
  | ((with_reducible refine' r_Fzo ?a81_0 ?a81_1 ?a81_2); (case a81_0 => k_memK); (case a81_1 => k_clsL))
  | ((with_reducible refine' r_Fzf ?a82_0 ?a82_1); (case a82_0 => k_memK))
  | ((with_reducible refine' r_Aug ?a83_0 ?a83_1 ?a83_2 ?a83_3 ?a83_4); (case a83_0 => k_memK); (case a83_1 => k_allIn); (case a83_2 => k_places); (case a83_3 => k_clsL))
  | ((with_reducible refine' r_Lm ?a84_0 ?a84_1 ?a84_2 ?a84_3 ?a84_4); (case a84_0 => k_memK); (case a84_1 => k_allIn); (case a84_2 => k_places); (case a84_3 => k_clsL))
  | ((with_reducible refine' r_Drop ?a85_0 ?a85_1); (case a85_0 => k_allIn))
  | ((with_reducible refine' r_For ?a86_0 ?a86_1); (case a86_0 => k_allIn)))
theorem cutS_len (x : Str) (lo hi : Option Int) : (cutS x lo hi).length ≤ x.length := by
  unfold cutS Str.length; simp; omega
theorem s_text_by (c n w : Int) (S : Store) (hn : 0 ≤ n ∧ n ≤ 9) : ∃ x, m_l_text_by [.int c, .int n, .int w] S = .ok (.fr (.str x)) S ∧ x.length ≤ 30 := by
  refine r_fnE (m := m_l_text_by) rfl (fun r => ∃ x, r = .ok (.fr (.str x)) S ∧ x.length ≤ 30) (by k_ownIn) ?_
  unfold c_l_text_by
  (repeat k_upd)
  have hsg : (Str.ofString " !\"#$&'()*+,-./0123456789:;<=>?@" ++ Str.ofString "ABCDEFGHIJKLMNOPQRSTUVWXYZ[\\]^_`{|}~\n\t").length = 70 := by simp [lit_len]
  generalize (Str.ofString " !\"#$&'()*+,-./0123456789:;<=>?@" ++ Str.ofString "ABCDEFGHIJKLMNOPQRSTUVWXYZ[\\]^_`{|}~\n\t") = sg at hsg ⊢
  have hlt : (Str.ofString "abcdefghijklmnopqrstuvwxyz").length = 26 := by simp [lit_len]
  generalize Str.ofString "abcdefghijklmnopqrstuvwxyz" = lt at hlt ⊢
  (repeat k_upd)
  refine r_forR (I := fun k ρ S' => S' = S ∧ ∃ t j6 j7, t.length = k ∧ ρ = [.bo (.int c), .bo (.int n), .bo (.int w), .fr (.str sg), .fr (.str lt), .fr (.str t), j6, j7, .un, .un]) ⟨rfl, _, _, _, ?_, rfl⟩ ?_ ?_
  · simp [lit_len]
  · rintro k ρ S' hk ⟨rfl, t, j6, j7, ht, rfl⟩
    (apply tgRun; k_clsL)
    have e7 := s_mix c (0 + (k : Int)) S' (by omega)
    have hm := mix_nn c (0 + (k : Int))
    generalize mix c (0 + (k : Int)) = mx at e7 hm
    (repeat k_upd)
    · exact ⟨rfl, _, _, _, by simp [ht], rfl⟩
    · (repeat k_upd)
      exact ⟨rfl, _, _, _, by simp [ht], rfl⟩
  · rintro ρ S' ⟨rfl, t, j6, j7, ht, rfl⟩
    by_cases h1 : w = 1
    · by_cases h2 : 0 < n
      · have h3 := cutS_len t none (some (c % n))
        have h4 := cutS_len t (some (c % n + 1)) none
        (repeat k_upd)
        refine ⟨_, rfl, ?_⟩
        simp only [len_add, S1_len]
        omega
      · (repeat k_upd)
        exact ⟨_, rfl, by omega⟩
    · (repeat k_upd)
      exact ⟨_, rfl, by omega⟩
def neith (k : Int) (t : Str) (n : Int) : D := [D.non, .bl true, .bl false, .lst [.str t], .tup [.str t], .lst [.int n, .str t], .tup [], .lst []].getD (k % 8).toNat .non
theorem s_neither (k n : Int) (t : Str) (S : Store) : m_l_neither [.int k, .str t, .int n] S = .ok (.fr (neith k t n)) S := by
  refine r_fnE (m := m_l_neither) rfl (fun r => r = _) (by k_ownIn) ?_
  unfold c_l_neither
  (repeat k_upd)
  rfl
end PM
namespace PM
open PySem PySem.Spec PyProof.Rows L2
local macro_rules | `(tactic| k_subL) => `(tactic| first | (with_reducible assumption) | omega | (constructor <;> omega) | (simp only [len_add, S1_len, lit_len, mk_len, List.length_cons, List.length_nil, List.length_append, List.length_map, List.length_replicate]; omega) | ((with_reducible show _ = _); exact rfl) | (simp [lit_len]; done) | (simp [lit_len]; omega))
local macro_rules | `(tactic| k_memK) => `(tactic| first
  | (with_reducible exact Nth.z)
  | ((with_reducible refine' Nth.s ?a1_0); (case a1_0 => k_memK)))
local macro_rules | `(tactic| k_clsL) => `(tactic| first
  | (with_reducible exact SetR.z)
  | ((with_reducible refine' SetR.s ?a2_0); (case a2_0 => k_clsL)))
local macro_rules | `(tactic| k_offL) => `(tactic| first | exact rfl | (apply decide_eq_true; first | (with_reducible assumption) | omega) | (apply decide_eq_false; first | (with_reducible assumption) | omega) | (with_reducible assumption) | ((with_reducible apply tt_nT); k_offL) | ((with_reducible apply tt_nF); k_offL) | ((with_reducible apply tt_aT); k_offL; k_offL) | ((with_reducible apply tt_oF); k_offL; k_offL) | ((with_reducible apply tt_aF1); k_offL) | ((with_reducible apply tt_aF2); k_offL) | ((with_reducible apply tt_oT1); k_offL) | ((with_reducible apply tt_oT2); k_offL))
local macro_rules | `(tactic| k_ownIn) => `(tactic| first
  | ((with_reducible refine' StartR.t ?a3_0); (case a3_0 => k_ownIn))
  | ((with_reducible refine' StartR.f ?a4_0); (case a4_0 => k_ownIn))
  | ((with_reducible refine' StartR.n ?a5_0); (case a5_0 => k_ownIn))
  | ((with_reducible refine' UnR.s ?a6_0); (case a6_0 => k_ownIn))
  | (with_reducible exact UnR.z))
local macro_rules | `(tactic| k_updF) => `(tactic| first | (with_reducible assumption))
local macro_rules | `(tactic| k_places) => `(tactic| first
  | (with_reducible exact op_addI)
  | (with_reducible exact op_sub)
  | ((with_reducible refine' op_mulR ?a7_0); (case a7_0 => k_subL))
  | ((with_reducible refine' op_mulL ?a8_0); (case a8_0 => k_subL))
  | ((with_reducible refine' op_div ?a9_0); (case a9_0 => k_subL))
  | ((with_reducible refine' op_mod ?a10_0); (case a10_0 => k_subL))
  | ((with_reducible refine' op_addS ?a11_0); (case a11_0 => k_subL))
  | ((with_reducible refine' op_addL ?a12_0); (case a12_0 => k_subL))
  | ((with_reducible refine' op_addT ?a13_0); (case a13_0 => k_subL))
  | ((with_reducible refine' op_cat ?a14_0); (case a14_0 => k_subL))
  | ((with_reducible refine' op_rep ?a15_0); (case a15_0 => k_subL))
  | (with_reducible exact op_lt)
  | (with_reducible exact op_le)
  | (with_reducible exact op_gt)
  | (with_reducible exact op_ge)
  | (with_reducible exact op_neg)
  | (with_reducible exact op_eqI)
  | (with_reducible exact op_eqS)
  | (with_reducible exact op_neI)
  | (with_reducible exact op_neS)
  | (with_reducible exact op_eqB)
  | (with_reducible exact op_neB)
  | (with_reducible exact op_is)
  | (with_reducible exact op_isN)
  | (with_reducible exact op_pow_10_20)
  | (with_reducible exact op_pow_10_60)
  | (with_reducible exact op_pow_10_12)
  | (with_reducible exact op_pow_10_15)
  | (with_reducible exact op_pow_2_61)
  | (with_reducible exact op_pow_10_9)
  | (with_reducible exact op_pow_10_30)
  | (with_reducible exact op_pow_10_50)
  | (with_reducible exact op_pow_10_59)
  | (with_reducible exact op_pow_10_6)
  | (with_reducible exact op_pow_2_5)
  | (with_reducible exact op_pow_2_8)
  | ((with_reducible refine' op_ixSm ?a16_0); (case a16_0 => k_subL))
  | ((with_reducible refine' op_ixLm ?a17_0); (case a17_0 => k_subL))
  | ((with_reducible refine' op_ixS ?a18_0); (case a18_0 => k_subL))
  | ((with_reducible refine' op_ixTd ?a19_0); (case a19_0 => k_subL))
  | ((with_reducible refine' op_ixLd ?a20_0); (case a20_0 => k_subL))
  | ((with_reducible refine' op_ixScr ?a21_0); (case a21_0 => k_subL))
  | ((with_reducible refine' op_cutS ?a22_0); (case a22_0 => k_subL))
  | ((with_reducible refine' fn_lenS ?a23_0); (case a23_0 => k_subL))
  | (with_reducible exact fn_lenL)
  | (with_reducible exact fn_lenT)
  | (with_reducible exact fn_lenScr)
  | (with_reducible exact op_inS)
  | (with_reducible exact op_ninS)
  | (with_reducible assumption)
  | ((with_reducible show oIx (.tup (_ :: _)) (.int (OfNat.ofNat _)) = _); exact rfl)
  | ((with_reducible show oIx (.lst (_ :: _)) (.int (OfNat.ofNat _)) = _); exact rfl))
local macro_rules | `(tactic| k_allIn) => `(tactic| first
  | (with_reducible exact x_C)
  | ((with_reducible refine' x_V ?a24_0); (case a24_0 => k_memK))
  | ((with_reducible refine' x_Bf ?a25_0); (case a25_0 => k_memK))
  | ((with_reducible refine' x_Bb ?a26_0); (case a26_0 => k_memK))
  | ((with_reducible refine' x_Bo ?a27_0); (case a27_0 => k_memK))
  | ((with_reducible refine' x_Bm ?a28_0); (case a28_0 => k_memK))
  | ((with_reducible refine' x_Bin ?a29_0 ?a29_1 ?a29_2); (case a29_0 => k_allIn); (case a29_1 => k_allIn); (case a29_2 => k_places))
  | ((with_reducible refine' x_Un ?a30_0 ?a30_1); (case a30_0 => k_allIn); (case a30_1 => k_places))
  | (with_reducible exact x_aNil)
  | ((with_reducible refine' x_aCons ?a31_0 ?a31_1); (case a31_0 => k_allIn); (case a31_1 => k_allIn))
  | ((with_reducible refine' x_TrB ?a32_0); (case a32_0 => k_allIn))
  | ((with_reducible refine' x_Tr ?a33_0 ?a33_1); (case a33_0 => k_allIn); (case a33_1 => exact rfl))
  | ((with_reducible refine' x_Fn ?a34_0 ?a34_1); (case a34_0 => k_allIn); (case a34_1 => k_places))
  | ((with_reducible refine' x_IsT ?a35_0 ?a35_1); (case a35_0 => k_allIn); (case a35_1 => exact rfl))
  | ((with_reducible refine' x_Call ?a36_0 ?a36_1 ?a36_2); (case a36_0 => k_allIn); (case a36_1 => k_updF); (case a36_2 => exact rfl))
  | ((with_reducible refine' x_CallN ?a37_0 ?a37_1); (case a37_0 => k_allIn); (case a37_1 => k_updF))
  | ((with_reducible refine' k_tAnd ?a41_0 ?a41_1); (case a41_0 => k_allIn); (case a41_1 => first
  | ((with_reducible refine' k_tAndF ?a38_0); (case a38_0 => k_offL))
  | ((with_reducible refine' k_tAndT ?a39_0 ?a39_1); (case a39_0 => k_offL); (case a39_1 => k_allIn))
  | ((with_reducible refine' k_tAndS ?a40_0); (case a40_0 => (intro _; k_allIn)))))
  | ((with_reducible refine' k_tOr ?a45_0 ?a45_1); (case a45_0 => k_allIn); (case a45_1 => first
  | ((with_reducible refine' k_tOrT ?a42_0); (case a42_0 => k_offL))
  | ((with_reducible refine' k_tOrF ?a43_0 ?a43_1); (case a43_0 => k_offL); (case a43_1 => k_allIn))
  | ((with_reducible refine' k_tOrS ?a44_0); (case a44_0 => (intro _; k_allIn)))))
  | ((with_reducible refine' k_And ?a49_0 ?a49_1); (case a49_0 => k_allIn); (case a49_1 => first
  | ((with_reducible refine' k_AndF ?a46_0); (case a46_0 => k_offL))
  | ((with_reducible refine' k_AndT ?a47_0 ?a47_1); (case a47_0 => k_offL); (case a47_1 => k_allIn))
  | ((with_reducible refine' k_AndS ?a48_0); (case a48_0 => (intro _; k_allIn)))))
  | ((with_reducible refine' k_Or ?a53_0 ?a53_1); (case a53_0 => k_allIn); (case a53_1 => first
  | ((with_reducible refine' k_OrT ?a50_0); (case a50_0 => k_offL))
  | ((with_reducible refine' k_OrF ?a51_0 ?a51_1); (case a51_0 => k_offL); (case a51_1 => k_allIn))
  | ((with_reducible refine' k_OrS ?a52_0); (case a52_0 => (intro _; k_allIn)))))
  | ((with_reducible refine' x_tNot ?a54_0); (case a54_0 => k_allIn))
  | ((with_reducible refine' x_Not ?a55_0); (case a55_0 => k_allIn))
  | ((with_reducible refine' k_If ?a58_0 ?a58_1); (case a58_0 => k_allIn); (case a58_1 => first
  | ((with_reducible refine' k_IfT ?a56_0 ?a56_1); (case a56_0 => k_offL); (case a56_1 => k_allIn))
  | ((with_reducible refine' k_IfF ?a57_0 ?a57_1); (case a57_0 => k_offL); (case a57_1 => k_allIn))))
  | ((with_reducible refine' x_Lst ?a59_0 ?a59_1); (case a59_0 => k_allIn); (case a59_1 => k_subL))
  | ((with_reducible refine' x_Tup ?a60_0 ?a60_1); (case a60_0 => k_allIn); (case a60_1 => k_subL))
  | (with_reducible exact x_Dic0)
  | (with_reducible exact x_pNo)
  | ((with_reducible refine' x_pAt ?a61_0); (case a61_0 => k_allIn))
  | ((with_reducible refine' x_Cut ?a62_0 ?a62_1 ?a62_2 ?a62_3); (case a62_0 => k_allIn); (case a62_1 => k_allIn); (case a62_2 => k_allIn); (case a62_3 => k_places))
  | ((with_reducible refine' x_iFn ?a65_0 ?a65_1); (case a65_0 => k_allIn); (case a65_1 => first
  | ((with_reducible refine' fR1_ok ?a63_0); (case a63_0 => k_subL))
  | ((with_reducible refine' fR2_ok ?a64_0); (case a64_0 => k_subL))))
  | ((with_reducible refine' x_iBf ?a66_0); (case a66_0 => k_memK))
  | ((with_reducible refine' x_iBb ?a67_0); (case a67_0 => k_memK))
  | ((with_reducible refine' x_iS' ?a68_0); (case a68_0 => k_allIn))
  | ((with_reducible refine' x_iT ?a69_0); (case a69_0 => k_allIn))
  | ((with_reducible refine' x_iL ?a70_0); (case a70_0 => k_allIn))
  | ((with_reducible refine' x_iLs ?a71_0); (case a71_0 => k_allIn))
  | (with_reducible assumption))
local macro_rules | `(tactic| k_upd) => `(tactic| first
  | (with_reducible refine r_Seq ?_)
  | (with_reducible refine r_seqQ ?_)
  | (with_reducible refine r_seqR ?_)
  | (with_reducible refine r_Nx ?_)
  | (with_reducible refine r_Pass ?_)
  | (with_reducible refine q_nx ?_)
  | (with_reducible refine q_ct ?_)
  | (with_reducible refine q_rt ?_)
  | (with_reducible refine q_bk ?_)
  | (with_reducible refine r_Brk ?_)
  | (with_reducible refine r_Cnt ?_)
  | ((with_reducible refine' r_Set ?a72_0 ?a72_1 ?a72_2); (case a72_0 => k_allIn); (case a72_1 => k_clsL))
  | ((with_reducible refine' r_SetN ?a73_0 ?a73_1 ?a73_2); (case a73_0 => k_allIn); (case a73_1 => k_clsL))
  | ((with_reducible refine' r_Ret ?a74_0 ?a74_1); (case a74_0 => k_allIn))
  | ((with_reducible refine' r_RetN ?a75_0 ?a75_1); (case a75_0 => k_allIn))
  | ((with_reducible refine' r_RetVo ?a76_0 ?a76_1); (case a76_0 => k_memK))
  | ((with_reducible refine' r_RetVf ?a77_0 ?a77_1); (case a77_0 => k_memK))
  | ((with_reducible refine' r_IfK ?a80_0 ?a80_1); (case a80_0 => k_allIn); (case' a80_1 => first
  | ((with_reducible refine' r_KT ?a78_0 ?a78_1); (case a78_0 => k_offL))
  | ((with_reducible refine' r_KF ?a79_0 ?a79_1); (case a79_0 => k_offL))
  | ((with_reducible refine r_K2 ?_ ?_) <;> intro _)))
  | ((with_reducible refine' r_Fzo ?a81_0 ?a81_1 ?a81_2); (case a81_0 => k_memK); (case a81_1 => k_clsL))
  | ((with_reducible refine' r_Fzf ?a82_0 ?a82_1); (case a82_0 => k_memK))
  | ((with_reducible refine' r_Aug ?a83_0 ?a83_1 ?a83_2 ?a83_3 ?a83_4); (case a83_0 => k_memK); (case a83_1 => k_allIn); (case a83_2 => k_places); (case a83_3 => k_clsL))
  | ((with_reducible refine' r_Lm ?a84_0 ?a84_1 ?a84_2 ?a84_3 ?a84_4); (case a84_0 => k_memK); (case a84_1 => k_allIn); (case a84_2 => k_places); (case a84_3 => k_clsL))
  | ((with_reducible refine' r_Drop ?a85_0 ?a85_1); (case a85_0 => k_allIn))
  | ((with_reducible refine' r_For ?a86_0 ?a86_1); (case a86_0 => k_allIn)))
local macro_rules | `(tactic| k_updF) => `(tactic| ((with_reducible refine s_cell_at _ _ _ ?_); omega))
local macro_rules | `(tactic| k_updF) => `(tactic| with_reducible exact s_neither _ _ _ _)
def Plain (d : D) : Prop := (∀ x, d = .str x → x.length ≤ 1000000) ∧ d.isT "str" ≠ none ∧ (∃ p, d.isT "int" = some p) ∧ ∃ q, d.isT "bool" = some q
theorem plain_neith (k : Int) (t : Str) (n : Int) : Plain (neith k t n) := by
  unfold neith
  have h : (k % 8).toNat = 0 ∨ (k % 8).toNat = 1 ∨ (k % 8).toNat = 2 ∨ (k % 8).toNat = 3 ∨ (k % 8).toNat = 4 ∨ (k % 8).toNat = 5 ∨ (k % 8).toNat = 6 ∨ (k % 8).toNat = 7 := by omega
  rcases h with h | h | h | h | h | h | h | h <;> rw [h] <;> exact ⟨by intro x hx; simp at hx, by simp [D.isT], ⟨_, rfl⟩, ⟨_, rfl⟩⟩
theorem law_ok : ∀ ns : List Int, ns.length ≤ 63 → ∃ S, m_p_law [.scr ns] [] = .ok (.fr (.bl true)) S := by
  intro ns hns
  refine r_fnE (m := m_p_law) rfl (fun r => ∃ S, r = .ok (.fr (.bl true)) S) (by k_ownIn) ?_
  unfold c_p_law
  obtain ⟨x, ex, hx⟩ := s_text_by (cell ns 1 0) (cell ns 0 0 / 4 % 10) (cell ns 0 0 % 4) [] (by omega)
  (repeat k_upd)
  all_goals
    (repeat k_upd)
    refine r_forD (I := fun pre ρ S => S = [] ∧ ∃ a b c d e f, ρ = [a, b, c, d, e, f]) ⟨rfl, _, _, _, _, _, _, rfl⟩ ?_ ?_
    · rintro pre y post ρ S e ⟨rfl, a, b, c, d, e5, f, rfl⟩
      (apply tgRun; k_clsL)
      have hy : Plain y := by
        have hm : y ∈ pre ++ y :: post := by simp
        rw [← e] at hm
        simp only [List.mem_cons, List.not_mem_nil, or_false] at hm
        rcases hm with rfl | rfl | rfl
        · exact ⟨fun z hz => (by (cases hz; omega)), by simp [D.isT], ⟨_, rfl⟩, ⟨_, rfl⟩⟩
        · exact ⟨fun z hz => (by (cases hz)), by simp [D.isT], ⟨_, rfl⟩, ⟨_, rfl⟩⟩
        · exact plain_neith _ _ _
      obtain ⟨h1, h2, ⟨p, h3⟩, ⟨q, h4⟩⟩ := hy
      have e1 := s_is_mark y [] h1 h2
      have e2 := s_law_mark y [] h1 h2
      have e3 := s_is_whole y [] p q h3 h4
      have e6 : (isMk y == isMk y) = true := by simp
      have e7 : ((p && !q) == (p && !q)) = true := by simp
      have e8 : eIsT "int" (eB 4) [a, b, c, d, .fr y, .fr (.bl (p && !q))] [] = .ok (.bl p) [] := x_IsT (x_Bf (by k_memK)) h3
      have e9 : eIsT "bool" (eB 4) [a, b, c, d, .fr y, .fr (.bl (p && !q))] [] = .ok (.bl q) [] := x_IsT (x_Bf (by k_memK)) h4
      (repeat k_upd)
      exact ⟨rfl, _, _, _, _, _, _, rfl⟩
    · rintro ρ S ⟨rfl, a, b, c, d, e5, f, rfl⟩
      (repeat k_upd)
      exact ⟨_, rfl⟩
end PM
set_option maxHeartbeats 4000000
namespace PM
open PySem PySem.Spec PyProof.Rows L2
def top (i : Nat) : Stmt := PySem.Challenge.pw_shrinkhouse_k01_marks.main.body.getD i (.Pass ⟨0, 0, 0, 0⟩)
/-- what the walk asks of the names -/
structure Fs (K : PySem.W.Frag) (mg : Str → Option Value) : Type where
  n_isinstance : mg "isinstance" = none
  n_int : mg "int" = none
  n_bool : mg "bool" = none
  n_str : mg "str" = none
  n_len : mg "len" = none
  n_range : mg "range" = none
  k_LETTERS : ∃ u, mg "LETTERS" = some u ∧ RelV (.str "abcdefghijklmnopqrstuvwxyz") u
  k_MOST_LETTERS : ∃ u, mg "MOST_LETTERS" = some u ∧ RelV (.int 8) u
  a_p_is_whole : Addr
  d_p_is_whole : FuncData
  F_p_is_whole : Fun K "is_whole" "is_whole" (top 3) a_p_is_whole d_p_is_whole
  b_p_is_whole : Binds K d_p_is_whole ["thing"] []
  g_p_is_whole : mg "is_whole" = some (.ref a_p_is_whole)
  a_p_is_mark : Addr
  d_p_is_mark : FuncData
  F_p_is_mark : Fun K "is_mark" "is_mark" (top 4) a_p_is_mark d_p_is_mark
  b_p_is_mark : Binds K d_p_is_mark ["thing"] []
  g_p_is_mark : mg "is_mark" = some (.ref a_p_is_mark)
  a_l_cell_at : Addr
  d_l_cell_at : FuncData
  F_l_cell_at : Fun K "_law_cell_at" "_law_cell_at" (top 6) a_l_cell_at d_l_cell_at
  b_l_cell_at : Binds K d_l_cell_at ["_law_script", "_law_k"] []
  g_l_cell_at : mg "_law_cell_at" = some (.ref a_l_cell_at)
  a_l_mix : Addr
  d_l_mix : FuncData
  F_l_mix : Fun K "_law_mix" "_law_mix" (top 7) a_l_mix d_l_mix
  b_l_mix : Binds K d_l_mix ["_law_seed", "_law_k"] []
  g_l_mix : mg "_law_mix" = some (.ref a_l_mix)
  a_l_text_by : Addr
  d_l_text_by : FuncData
  F_l_text_by : Fun K "_law_text_by" "_law_text_by" (top 8) a_l_text_by d_l_text_by
  b_l_text_by : Binds K d_l_text_by ["_law_cell", "_law_many", "_law_way"] []
  g_l_text_by : mg "_law_text_by" = some (.ref a_l_text_by)
  a_l_neither : Addr
  d_l_neither : FuncData
  F_l_neither : Fun K "_law_neither" "_law_neither" (top 9) a_l_neither d_l_neither
  b_l_neither : Binds K d_l_neither ["_law_cell", "_law_text", "_law_number"] []
  g_l_neither : mg "_law_neither" = some (.ref a_l_neither)
  a_l_mark : Addr
  d_l_mark : FuncData
  F_l_mark : Fun K "_law_mark" "_law_mark" (top 10) a_l_mark d_l_mark
  b_l_mark : Binds K d_l_mark ["_law_thing"] []
  g_l_mark : mg "_law_mark" = some (.ref a_l_mark)
  a_p_law : Addr
  d_p_law : FuncData
  F_p_law : Fun K "law" "law" (top 11) a_p_law d_p_law
  b_p_law : Binds K d_p_law ["_law_script"] []
  g_p_law : mg "law" = some (.ref a_p_law)
theorem k_LETTERS_rep {K : PySem.W.Frag} {cl : Nat → Addr} (mu : List Addr) (Z : Hp) : Rep K cl mu Z (.str "abcdefghijklmnopqrstuvwxyz") D.k_LETTERS := by exact .str _
theorem k_MOST_LETTERS_rep {K : PySem.W.Frag} {cl : Nat → Addr} (mu : List Addr) (Z : Hp) : Rep K cl mu Z (.int 8) D.k_MOST_LETTERS := by exact .int _
theorem sc_p_is_whole : FnScope ["thing"] ["thing"] (defScope (top 3)) := ⟨rfl, rfl, rfl, by decide +kernel, rfl, by decide +kernel, by decide +kernel⟩
theorem ok_p_is_whole {P : Program} {w : World} {K : PySem.W.Frag} {mg : Str → Option Value} {base : Heap} {cl : Nat → Addr} (T : Fs K mg) : FnOk P w K mg base (L2.CX P w) 1 T.a_p_is_whole T.d_p_is_whole ["thing"] (spOf K cl [true] m_p_is_whole) := by
  have nd := sc_p_is_whole.nd
  refine fn_ok (k := 0) (body := c_p_is_whole) T.F_p_is_whole sc_p_is_whole rfl rfl fun cdv A outer s H E hr tk => ?_
  refine ss_one ?_
  refine ss_ret ?_
  refine se_and ?_ ?_
  · refine SE.toB ?_
    refine se_isT (by decide) (by rfl) T.n_isinstance (by decide +kernel) ?_ (by rfl) T.n_int (by decide +kernel)
    exact sb_v (pv 0)
  · refine se_one ?_
    refine se_not ?_
    refine SE.toB ?_
    refine se_isT (by decide) (by rfl) T.n_isinstance (by decide +kernel) ?_ (by rfl) T.n_bool (by decide +kernel)
    exact sb_v (pv 0)
theorem sc_p_is_mark : FnScope ["thing", "sign"] ["thing"] (defScope (top 4)) := ⟨rfl, rfl, rfl, by decide +kernel, rfl, by decide +kernel, by decide +kernel⟩
theorem ok_p_is_mark {P : Program} {w : World} {K : PySem.W.Frag} {mg : Str → Option Value} {base : Heap} {cl : Nat → Addr} (T : Fs K mg) : FnOk P w K mg base (L2.CX P w) 1 T.a_p_is_mark T.d_p_is_mark ["thing"] (spOf K cl [true] m_p_is_mark) := by
  have nd := sc_p_is_mark.nd
  refine fn_ok (k := 1) (body := c_p_is_mark) T.F_p_is_mark sc_p_is_mark rfl rfl fun cdv A outer s H E hr tk => ?_
  refine ss_cons ?_ ?_
  · refine ss_if ?_ ?_ ?_
    · refine st_w ?_
      refine sw_or ?_ ?_
      · refine st_not ?_
        refine st_val ?_ (fun _ => rfl)
        refine SE.toB ?_
        refine se_isT (by decide) (by rfl) T.n_isinstance (by decide +kernel) ?_ (by rfl) T.n_str (by decide +kernel)
        exact sb_v (pv 0)
      · refine sw_or ?_ ?_
        · refine st_eq hr.units ?_ ?_
          · exact sb_v (pv 0)
          · refine SE.toB ?_
            exact se_str
        · refine sw_or1 ?_
          refine st_gt ?_ ?_
          · refine SE.toB ?_
            refine sx_callB pfM call_len cs_len (by rfl) T.n_len (by decide +kernel) ?_
            refine sa_b ?_ ?_
            · exact sb_v (pv 0)
            · exact sa_nil
          · refine SE.toB ?_
            exact se_glE (by rfl) T.k_MOST_LETTERS k_MOST_LETTERS_rep
    · refine ss_one ?_
      refine ss_ret ?_
      exact se_bl
    · exact ss_nil
  · refine ss_cons ?_ ?_
    · refine ss_for (by exact passes_of rfl) (by rfl) ?_ (pg_name (i := 1) nd (by rfl) (by first | exact Or.inl rfl | exact Or.inr rfl)) (tg_name) ?_
      · refine si_str ?_
        exact sb_v (pv 0)
      · refine ss_one ?_
        refine ss_if ?_ ?_ ?_
        · refine st_nin hr.u65 ?_ ?_ (by rfl)
          · exact sb_v (pv 1)
          · refine SE.toB ?_
            exact se_glE (by rfl) T.k_LETTERS k_LETTERS_rep
        · refine ss_one ?_
          refine ss_ret ?_
          exact se_bl
        · exact ss_nil
    · refine ss_one ?_
      refine ss_ret ?_
      exact se_bl
theorem sc_l_cell_at : FnScope ["_law_script", "_law_k"] ["_law_script", "_law_k"] (defScope (top 6)) := ⟨rfl, rfl, rfl, by decide +kernel, rfl, by decide +kernel, by decide +kernel⟩
theorem ok_l_cell_at {P : Program} {w : World} {K : PySem.W.Frag} {mg : Str → Option Value} {base : Heap} {cl : Nat → Addr} (T : Fs K mg) : FnOk P w K mg base (L2.CX P w) 1 T.a_l_cell_at T.d_l_cell_at ["_law_script", "_law_k"] (spOf K cl [true, true] m_l_cell_at) := by
  have nd := sc_l_cell_at.nd
  refine fn_ok (k := 0) (body := c_l_cell_at) T.F_l_cell_at sc_l_cell_at rfl rfl fun cdv A outer s H E hr tk => ?_
  refine ss_cons ?_ ?_
  · refine ss_if ?_ ?_ ?_
    · refine st_lt ?_ ?_
      · exact sb_v (pv 1)
      · refine SE.toB ?_
        refine sx_callB pfM call_len cs_len (by rfl) T.n_len (by decide +kernel) ?_
        refine sa_b ?_ ?_
        · exact sb_v (pv 0)
        · exact sa_nil
    · refine ss_one ?_
      refine ss_ret ?_
      refine se_ix ?_ ?_
      · exact sb_v (pv 0)
      · exact sb_v (pv 1)
    · exact ss_nil
  · refine ss_one ?_
    refine ss_ret ?_
    exact se_int
theorem sc_l_mix : FnScope ["_law_seed", "_law_k", "_law_number"] ["_law_seed", "_law_k"] (defScope (top 7)) := ⟨rfl, rfl, rfl, by decide +kernel, rfl, by decide +kernel, by decide +kernel⟩
theorem ok_l_mix {P : Program} {w : World} {K : PySem.W.Frag} {mg : Str → Option Value} {base : Heap} {cl : Nat → Addr} (T : Fs K mg) : FnOk P w K mg base (L2.CX P w) 1 T.a_l_mix T.d_l_mix ["_law_seed", "_law_k"] (spOf K cl [true, true] m_l_mix) := by
  have nd := sc_l_mix.nd
  refine fn_ok (k := 1) (body := c_l_mix) T.F_l_mix sc_l_mix rfl rfl fun cdv A outer s H E hr tk => ?_
  refine ss_cons ?_ ?_
  · refine ss_set (i := 2) nd (by rfl) (Or.inl rfl) ?_
    refine se_mod ?_ ?_
    · refine SE.toB ?_
      refine se_mul ?_ ?_
      · refine SE.toB ?_
        refine se_add ?_ ?_
        · refine SE.toB ?_
          refine se_add ?_ ?_
          · refine SE.toB ?_
            refine se_add ?_ ?_
            · refine SE.toB ?_
              refine se_mod ?_ ?_
              · exact sb_v (pv 0)
              · refine SE.toB ?_
                refine se_pow ?_ ?_
                · refine SE.toB ?_
                  exact se_int
                · refine SE.toB ?_
                  exact se_int
            · refine SE.toB ?_
              refine se_mul ?_ ?_
              · refine SE.toB ?_
                exact se_int
              · exact sb_v (pv 1)
          · refine SE.toB ?_
            refine se_mul ?_ ?_
            · refine SE.toB ?_
              refine se_mul ?_ ?_
              · exact sb_v (pv 1)
              · exact sb_v (pv 1)
            · exact sb_v (pv 1)
        · refine SE.toB ?_
          exact se_int
      · refine SE.toB ?_
        exact se_int
    · refine SE.toB ?_
      exact se_int
  · refine ss_one ?_
    refine ss_ret ?_
    refine se_mod ?_ ?_
    · refine SE.toB ?_
      refine se_mul ?_ ?_
      · exact sb_v (pv 2)
      · refine SE.toB ?_
        exact se_int
    · refine SE.toB ?_
      exact se_int
theorem sc_l_text_by : FnScope ["_law_cell", "_law_many", "_law_way", "_law_signs", "_law_letters", "_law_text", "_law_k", "_law_number", "_law_at", "_law_odd"] ["_law_cell", "_law_many", "_law_way"] (defScope (top 8)) := ⟨rfl, rfl, rfl, by decide +kernel, rfl, by decide +kernel, by decide +kernel⟩
theorem ok_l_text_by {P : Program} {w : World} {K : PySem.W.Frag} {mg : Str → Option Value} {base : Heap} {cl : Nat → Addr} (T : Fs K mg) : FnOk P w K mg base (L2.CX P w) 2 T.a_l_text_by T.d_l_text_by ["_law_cell", "_law_many", "_law_way"] (spOf K cl [true, true, true] m_l_text_by) := by
  have nd := sc_l_text_by.nd
  refine fn_ok (k := 7) (body := c_l_text_by) T.F_l_text_by sc_l_text_by rfl rfl fun cdv A outer s H E hr tk => ?_
  refine ss_cons ?_ ?_
  · refine ss_set (i := 3) nd (by rfl) (Or.inl rfl) ?_
    exact se_str
  · refine ss_cons ?_ ?_
    · refine ss_set (i := 3) nd (by rfl) (Or.inl rfl) ?_
      refine se_add ?_ ?_
      · exact sb_v (pv 3)
      · refine SE.toB ?_
        exact se_str
    · refine ss_cons ?_ ?_
      · refine ss_set (i := 4) nd (by rfl) (Or.inl rfl) ?_
        exact se_str
      · refine ss_cons ?_ ?_
        · refine ss_set (i := 5) nd (by rfl) (Or.inl rfl) ?_
          exact se_str
        · refine ss_cons ?_ ?_
          · refine ss_for (by exact passes_of rfl) (by rfl) ?_ (pg_name (i := 6) nd (by rfl) (by first | exact Or.inl rfl | exact Or.inr rfl)) (tg_name) ?_
            · refine si_range1 (by rfl) T.n_range ?_
              refine sa_b ?_ ?_
              · exact sb_v (pv 1)
              · exact sa_nil
            · refine ss_cons ?_ ?_
              · refine ss_set (i := 7) nd (by rfl) (Or.inl rfl) ?_
                refine se_call (ok_l_mix T) (hr.mono (by decide)) (by rfl) T.g_l_mix T.F_l_mix.kp T.b_l_mix tk ?_
                refine sa_b ?_ ?_
                · exact sb_v (pv 0)
                · refine sa_b ?_ ?_
                  · exact sb_v (pv 6)
                  · exact sa_nil
              · refine ss_one ?_
                refine ss_if ?_ ?_ ?_
                · refine st_w ?_
                  refine sw_and ?_ ?_
                  · refine st_eq hr.units ?_ ?_
                    · exact sb_v (pv 2)
                    · refine SE.toB ?_
                      exact se_int
                  · refine sw_and1 ?_
                    refine st_eq hr.units ?_ ?_
                    · refine SE.toB ?_
                      refine se_mod ?_ ?_
                      · exact sb_v (pv 7)
                      · refine SE.toB ?_
                        exact se_int
                    · refine SE.toB ?_
                      exact se_int
                · refine ss_one ?_
                  refine ss_set (i := 5) nd (by rfl) (Or.inl rfl) ?_
                  refine se_add ?_ ?_
                  · exact sb_v (pv 5)
                  · refine SE.toB ?_
                    refine se_ix ?_ ?_
                    · exact sb_v (pv 3)
                    · refine SE.toB ?_
                      refine se_mod ?_ ?_
                      · refine SE.toB ?_
                        refine se_div ?_ ?_
                        · exact sb_v (pv 7)
                        · refine SE.toB ?_
                          exact se_int
                      · refine SE.toB ?_
                        refine sx_callB pfM call_len cs_len (by rfl) T.n_len (by decide +kernel) ?_
                        refine sa_b ?_ ?_
                        · exact sb_v (pv 3)
                        · exact sa_nil
                · refine ss_one ?_
                  refine ss_set (i := 5) nd (by rfl) (Or.inl rfl) ?_
                  refine se_add ?_ ?_
                  · exact sb_v (pv 5)
                  · refine SE.toB ?_
                    refine se_ix ?_ ?_
                    · exact sb_v (pv 4)
                    · refine SE.toB ?_
                      refine se_mod ?_ ?_
                      · refine SE.toB ?_
                        refine se_div ?_ ?_
                        · exact sb_v (pv 7)
                        · refine SE.toB ?_
                          exact se_int
                      · refine SE.toB ?_
                        exact se_int
          · refine ss_cons ?_ ?_
            · refine ss_if ?_ ?_ ?_
              · refine st_w ?_
                refine sw_and ?_ ?_
                · refine st_eq hr.units ?_ ?_
                  · exact sb_v (pv 2)
                  · refine SE.toB ?_
                    exact se_int
                · refine sw_and1 ?_
                  refine st_gt ?_ ?_
                  · exact sb_v (pv 1)
                  · refine SE.toB ?_
                    exact se_int
              · refine ss_cons ?_ ?_
                · refine ss_set (i := 8) nd (by rfl) (Or.inl rfl) ?_
                  refine se_mod ?_ ?_
                  · exact sb_v (pv 0)
                  · exact sb_v (pv 1)
                · refine ss_cons ?_ ?_
                  · refine ss_set (i := 9) nd (by rfl) (Or.inl rfl) ?_
                    refine se_ix ?_ ?_
                    · exact sb_v (pv 3)
                    · refine SE.toB ?_
                      refine se_mod ?_ ?_
                      · refine SE.toB ?_
                        refine se_div ?_ ?_
                        · exact sb_v (pv 0)
                        · exact sb_v (pv 1)
                      · refine SE.toB ?_
                        refine sx_callB pfM call_len cs_len (by rfl) T.n_len (by decide +kernel) ?_
                        refine sa_b ?_ ?_
                        · exact sb_v (pv 3)
                        · exact sa_nil
                  · refine ss_one ?_
                    refine ss_set (i := 5) nd (by rfl) (Or.inl rfl) ?_
                    refine se_add ?_ ?_
                    · refine SE.toB ?_
                      refine se_add ?_ ?_
                      · refine SE.toB ?_
                        refine se_cut ?_ ?_ ?_
                        · exact sb_v (pv 5)
                        · exact so_no
                        · refine so_at ?_
                          exact sb_v (pv 8)
                      · exact sb_v (pv 9)
                    · refine SE.toB ?_
                      refine se_cut ?_ ?_ ?_
                      · exact sb_v (pv 5)
                      · refine so_at ?_
                        refine SE.toB ?_
                        refine se_add ?_ ?_
                        · exact sb_v (pv 8)
                        · refine SE.toB ?_
                          exact se_int
                      · exact so_no
              · exact ss_nil
            · refine ss_one ?_
              refine ss_ret ?_
              exact se_v (pv 5)
theorem sc_l_neither : FnScope ["_law_cell", "_law_text", "_law_number"] ["_law_cell", "_law_text", "_law_number"] (defScope (top 9)) := ⟨rfl, rfl, rfl, by decide +kernel, rfl, by decide +kernel, by decide +kernel⟩
theorem ok_l_neither {P : Program} {w : World} {K : PySem.W.Frag} {mg : Str → Option Value} {base : Heap} {cl : Nat → Addr} (T : Fs K mg) : FnOk P w K mg base (L2.CX P w) 1 T.a_l_neither T.d_l_neither ["_law_cell", "_law_text", "_law_number"] (spOf K cl [true, false, false] m_l_neither) := by
  have nd := sc_l_neither.nd
  refine fn_ok (k := 0) (body := c_l_neither) T.F_l_neither sc_l_neither rfl rfl fun cdv A outer s H E hr tk => ?_
  refine ss_one ?_
  refine ss_ret ?_
  refine se_ix ?_ ?_
  · refine SE.toB ?_
    refine SN.toE ?_
    refine sn_lst (bm := [false, false, false, false, false, false, false, false]) ?_
    refine sa_f ?_ ?_
    · exact se_non
    · refine sa_f ?_ ?_
      · exact se_bl
      · refine sa_f ?_ ?_
        · exact se_bl
        · refine sa_f ?_ ?_
          · refine SN.toE ?_
            refine sn_lst (bm := [false]) ?_
            refine sa_f ?_ ?_
            · exact se_v (pv 1)
            · exact sa_nil
          · refine sa_f ?_ ?_
            · refine se_tup (bm := [false]) ?_
              refine sa_f ?_ ?_
              · exact se_v (pv 1)
              · exact sa_nil
            · refine sa_f ?_ ?_
              · refine SN.toE ?_
                refine sn_lst (bm := [false, false]) ?_
                refine sa_f ?_ ?_
                · exact se_v (pv 2)
                · refine sa_f ?_ ?_
                  · exact se_v (pv 1)
                  · exact sa_nil
              · refine sa_f ?_ ?_
                · refine se_tup (bm := []) ?_
                  exact sa_nil
                · refine sa_f ?_ ?_
                  · refine SN.toE ?_
                    refine sn_lst (bm := []) ?_
                    exact sa_nil
                  · exact sa_nil
  · refine SE.toB ?_
    refine se_mod ?_ ?_
    · exact sb_v (pv 0)
    · refine SE.toB ?_
      exact se_int
theorem sc_l_mark : FnScope ["_law_thing", "_law_sign"] ["_law_thing"] (defScope (top 10)) := ⟨rfl, rfl, rfl, by decide +kernel, rfl, by decide +kernel, by decide +kernel⟩
theorem ok_l_mark {P : Program} {w : World} {K : PySem.W.Frag} {mg : Str → Option Value} {base : Heap} {cl : Nat → Addr} (T : Fs K mg) : FnOk P w K mg base (L2.CX P w) 1 T.a_l_mark T.d_l_mark ["_law_thing"] (spOf K cl [true] m_l_mark) := by
  have nd := sc_l_mark.nd
  refine fn_ok (k := 1) (body := c_l_mark) T.F_l_mark sc_l_mark rfl rfl fun cdv A outer s H E hr tk => ?_
  refine ss_cons ?_ ?_
  · refine ss_if ?_ ?_ ?_
    · refine st_w ?_
      refine sw_or ?_ ?_
      · refine st_not ?_
        refine st_val ?_ (fun _ => rfl)
        refine SE.toB ?_
        refine se_isT (by decide) (by rfl) T.n_isinstance (by decide +kernel) ?_ (by rfl) T.n_str (by decide +kernel)
        exact sb_v (pv 0)
      · refine sw_or ?_ ?_
        · refine st_eq hr.units ?_ ?_
          · refine SE.toB ?_
            refine sx_callB pfM call_len cs_len (by rfl) T.n_len (by decide +kernel) ?_
            refine sa_b ?_ ?_
            · exact sb_v (pv 0)
            · exact sa_nil
          · refine SE.toB ?_
            exact se_int
        · refine sw_or1 ?_
          refine st_gt ?_ ?_
          · refine SE.toB ?_
            refine sx_callB pfM call_len cs_len (by rfl) T.n_len (by decide +kernel) ?_
            refine sa_b ?_ ?_
            · exact sb_v (pv 0)
            · exact sa_nil
          · refine SE.toB ?_
            exact se_int
    · refine ss_one ?_
      refine ss_ret ?_
      exact se_bl
    · exact ss_nil
  · refine ss_cons ?_ ?_
    · refine ss_for (by exact passes_of rfl) (by rfl) ?_ (pg_name (i := 1) nd (by rfl) (by first | exact Or.inl rfl | exact Or.inr rfl)) (tg_name) ?_
      · refine si_str ?_
        exact sb_v (pv 0)
      · refine ss_one ?_
        refine ss_if ?_ ?_ ?_
        · refine st_nin hr.u65 ?_ ?_ (by rfl)
          · exact sb_v (pv 1)
          · refine SE.toB ?_
            exact se_str
        · refine ss_one ?_
          refine ss_ret ?_
          exact se_bl
        · exact ss_nil
    · refine ss_one ?_
      refine ss_ret ?_
      exact se_bl
theorem sc_p_law : FnScope ["_law_script", "_law_way", "_law_text", "_law_number", "_law_thing", "_law_told"] ["_law_script"] (defScope (top 11)) := ⟨rfl, rfl, rfl, by decide +kernel, rfl, by decide +kernel, by decide +kernel⟩
theorem ok_p_law {P : Program} {w : World} {K : PySem.W.Frag} {mg : Str → Option Value} {base : Heap} {cl : Nat → Addr} (T : Fs K mg) : FnOk P w K mg base (L2.CX P w) 3 T.a_p_law T.d_p_law ["_law_script"] (spOf K cl [true] m_p_law) := by
  have nd := sc_p_law.nd
  refine fn_ok (k := 5) (body := c_p_law) T.F_p_law sc_p_law rfl rfl fun cdv A outer s H E hr tk => ?_
  refine ss_cons ?_ ?_
  · refine ss_set (i := 1) nd (by rfl) (Or.inl rfl) ?_
    refine se_call (ok_l_cell_at T) (hr.mono (by decide)) (by rfl) T.g_l_cell_at T.F_l_cell_at.kp T.b_l_cell_at tk ?_
    refine sa_b ?_ ?_
    · exact sb_v (pv 0)
    · refine sa_b ?_ ?_
      · refine SE.toB ?_
        exact se_int
      · exact sa_nil
  · refine ss_cons ?_ ?_
    · refine ss_set (i := 2) nd (by rfl) (Or.inl rfl) ?_
      refine se_call (ok_l_text_by T) (hr.mono (by decide)) (by rfl) T.g_l_text_by T.F_l_text_by.kp T.b_l_text_by tk ?_
      refine sa_b ?_ ?_
      · refine SE.toB ?_
        refine se_call (ok_l_cell_at T) (hr.mono (by decide)) (by rfl) T.g_l_cell_at T.F_l_cell_at.kp T.b_l_cell_at tk ?_
        refine sa_b ?_ ?_
        · exact sb_v (pv 0)
        · refine sa_b ?_ ?_
          · refine SE.toB ?_
            exact se_int
          · exact sa_nil
      · refine sa_b ?_ ?_
        · refine SE.toB ?_
          refine se_mod ?_ ?_
          · refine SE.toB ?_
            refine se_div ?_ ?_
            · exact sb_v (pv 1)
            · refine SE.toB ?_
              exact se_int
          · refine SE.toB ?_
            exact se_int
        · refine sa_b ?_ ?_
          · refine SE.toB ?_
            refine se_mod ?_ ?_
            · exact sb_v (pv 1)
            · refine SE.toB ?_
              exact se_int
          · exact sa_nil
    · refine ss_cons ?_ ?_
      · refine ss_set (i := 3) nd (by rfl) (Or.inl rfl) ?_
        refine se_mod ?_ ?_
        · refine SE.toB ?_
          refine se_div ?_ ?_
          · refine SE.toB ?_
            refine se_call (ok_l_cell_at T) (hr.mono (by decide)) (by rfl) T.g_l_cell_at T.F_l_cell_at.kp T.b_l_cell_at tk ?_
            refine sa_b ?_ ?_
            · exact sb_v (pv 0)
            · refine sa_b ?_ ?_
              · refine SE.toB ?_
                exact se_int
              · exact sa_nil
          · refine SE.toB ?_
            exact se_int
        · refine SE.toB ?_
          refine se_pow ?_ ?_
          · refine SE.toB ?_
            exact se_int
          · refine SE.toB ?_
            exact se_int
      · refine ss_cons ?_ ?_
        · refine ss_if ?_ ?_ ?_
          · refine st_eq hr.units ?_ ?_
            · refine SE.toB ?_
              refine se_mod ?_ ?_
              · refine SE.toB ?_
                refine se_call (ok_l_cell_at T) (hr.mono (by decide)) (by rfl) T.g_l_cell_at T.F_l_cell_at.kp T.b_l_cell_at tk ?_
                refine sa_b ?_ ?_
                · exact sb_v (pv 0)
                · refine sa_b ?_ ?_
                  · refine SE.toB ?_
                    exact se_int
                  · exact sa_nil
              · refine SE.toB ?_
                exact se_int
            · refine SE.toB ?_
              exact se_int
          · refine ss_one ?_
            refine ss_set (i := 3) nd (by rfl) (Or.inl rfl) ?_
            refine se_neg ?_
            exact sb_v (pv 3)
          · exact ss_nil
        · refine ss_cons ?_ ?_
          · refine ss_for (by exact passes_of rfl) (by rfl) ?_ (pg_name (i := 4) nd (by rfl) (by first | exact Or.inl rfl | exact Or.inr rfl)) (tg_name) ?_
            · refine si_list ?_
              refine SN.toE ?_
              refine sn_lst (bm := [false, false, false]) ?_
              refine sa_f ?_ ?_
              · exact se_v (pv 2)
              · refine sa_f ?_ ?_
                · exact se_v (pv 3)
                · refine sa_f ?_ ?_
                  · refine se_call (ok_l_neither T) (hr.mono (by decide)) (by rfl) T.g_l_neither T.F_l_neither.kp T.b_l_neither tk ?_
                    refine sa_b ?_ ?_
                    · refine SE.toB ?_
                      refine se_call (ok_l_cell_at T) (hr.mono (by decide)) (by rfl) T.g_l_cell_at T.F_l_cell_at.kp T.b_l_cell_at tk ?_
                      refine sa_b ?_ ?_
                      · exact sb_v (pv 0)
                      · refine sa_b ?_ ?_
                        · refine SE.toB ?_
                          exact se_int
                        · exact sa_nil
                    · refine sa_f ?_ ?_
                      · exact se_v (pv 2)
                      · refine sa_f ?_ ?_
                        · exact se_v (pv 3)
                        · exact sa_nil
                  · exact sa_nil
            · refine ss_cons ?_ ?_
              · refine ss_set (i := 5) nd (by rfl) (Or.inl rfl) ?_
                refine se_call (ok_p_is_mark T) (hr.mono (by decide)) (by rfl) T.g_p_is_mark T.F_p_is_mark.kp T.b_p_is_mark tk ?_
                refine sa_b ?_ ?_
                · exact sb_v (pv 4)
                · exact sa_nil
              · refine ss_cons ?_ ?_
                · refine ss_if ?_ ?_ ?_
                  · refine st_w ?_
                    refine sw_or ?_ ?_
                    · refine st_not ?_
                      refine st_val ?_ (fun _ => rfl)
                      refine SE.toB ?_
                      refine se_isT (by decide) (by rfl) T.n_isinstance (by decide +kernel) ?_ (by rfl) T.n_bool (by decide +kernel)
                      exact sb_v (pv 5)
                    · refine sw_or1 ?_
                      refine st_ne hr.units ?_ ?_
                      · exact sb_v (pv 5)
                      · refine SE.toB ?_
                        refine se_call (ok_l_mark T) (hr.mono (by decide)) (by rfl) T.g_l_mark T.F_l_mark.kp T.b_l_mark tk ?_
                        refine sa_b ?_ ?_
                        · exact sb_v (pv 4)
                        · exact sa_nil
                  · refine ss_one ?_
                    refine ss_ret ?_
                    exact se_bl
                  · exact ss_nil
                · refine ss_cons ?_ ?_
                  · refine ss_set (i := 5) nd (by rfl) (Or.inl rfl) ?_
                    refine se_call (ok_p_is_whole T) (hr.mono (by decide)) (by rfl) T.g_p_is_whole T.F_p_is_whole.kp T.b_p_is_whole tk ?_
                    refine sa_b ?_ ?_
                    · exact sb_v (pv 4)
                    · exact sa_nil
                  · refine ss_one ?_
                    refine ss_if ?_ ?_ ?_
                    · refine st_w ?_
                      refine sw_or ?_ ?_
                      · refine st_not ?_
                        refine st_val ?_ (fun _ => rfl)
                        refine SE.toB ?_
                        refine se_isT (by decide) (by rfl) T.n_isinstance (by decide +kernel) ?_ (by rfl) T.n_bool (by decide +kernel)
                        exact sb_v (pv 5)
                      · refine sw_or1 ?_
                        refine st_ne hr.units ?_ ?_
                        · exact sb_v (pv 5)
                        · refine SE.toB ?_
                          refine se_and ?_ ?_
                          · refine SE.toB ?_
                            refine se_isT (by decide) (by rfl) T.n_isinstance (by decide +kernel) ?_ (by rfl) T.n_int (by decide +kernel)
                            exact sb_v (pv 4)
                          · refine se_one ?_
                            refine se_not ?_
                            refine SE.toB ?_
                            refine se_isT (by decide) (by rfl) T.n_isinstance (by decide +kernel) ?_ (by rfl) T.n_bool (by decide +kernel)
                            exact sb_v (pv 4)
                    · refine ss_one ?_
                      refine ss_ret ?_
                      exact se_bl
                    · exact ss_nil
          · refine ss_one ?_
            refine ss_ret ?_
            exact se_bl
/-- the law, of data -/
def LawOk : Prop := ∀ ns : List Int, ns.length ≤ 63 → ∃ S, m_p_law [.scr ns] [] = .ok (.fr (.bl true)) S
theorem all_mk {l : PySem.W.OpenLaw} {w : World} {K : PySem.W.Frag} {h : Heap} {mg : Str → Option Value} {fa : Addr} {cl : Nat → Addr} (X : K.In h) (G : h.Ns mainGlobals mg) (hfa : mg "law" = some (.ref fa))
    {tk_LETTERS : Tok}
    {tk_MOST_LETTERS : Tok}
    {a_p_is_whole : Addr} {od_p_is_whole an_p_is_whole : Option Addr} {sl_p_is_whole : Array (Option Value)} {oc_p_is_whole kV_p_is_whole dc_p_is_whole pm_p_is_whole cd_p_is_whole ct_p_is_whole : Value}
    {a_p_is_mark : Addr} {od_p_is_mark an_p_is_mark : Option Addr} {sl_p_is_mark : Array (Option Value)} {oc_p_is_mark kV_p_is_mark dc_p_is_mark pm_p_is_mark cd_p_is_mark ct_p_is_mark : Value}
    {a_l_cell_at : Addr} {od_l_cell_at an_l_cell_at : Option Addr} {sl_l_cell_at : Array (Option Value)} {oc_l_cell_at kV_l_cell_at dc_l_cell_at pm_l_cell_at cd_l_cell_at ct_l_cell_at : Value}
    {a_l_mix : Addr} {od_l_mix an_l_mix : Option Addr} {sl_l_mix : Array (Option Value)} {oc_l_mix kV_l_mix dc_l_mix pm_l_mix cd_l_mix ct_l_mix : Value}
    {a_l_text_by : Addr} {od_l_text_by an_l_text_by : Option Addr} {sl_l_text_by : Array (Option Value)} {oc_l_text_by kV_l_text_by dc_l_text_by pm_l_text_by cd_l_text_by ct_l_text_by : Value}
    {a_l_neither : Addr} {od_l_neither an_l_neither : Option Addr} {sl_l_neither : Array (Option Value)} {oc_l_neither kV_l_neither dc_l_neither pm_l_neither cd_l_neither ct_l_neither : Value}
    {a_l_mark : Addr} {od_l_mark an_l_mark : Option Addr} {sl_l_mark : Array (Option Value)} {oc_l_mark kV_l_mark dc_l_mark pm_l_mark cd_l_mark ct_l_mark : Value}
    {a_p_law : Addr} {od_p_law an_p_law : Option Addr} {sl_p_law : Array (Option Value)} {oc_p_law kV_p_law dc_p_law pm_p_law cd_p_law ct_p_law : Value}
    (n_isinstance : PySem.W.nsIn K mainGlobals "isinstance" = some none)
    (n_int : PySem.W.nsIn K mainGlobals "int" = some none)
    (n_bool : PySem.W.nsIn K mainGlobals "bool" = some none)
    (n_str : PySem.W.nsIn K mainGlobals "str" = some none)
    (n_len : PySem.W.nsIn K mainGlobals "len" = some none)
    (n_range : PySem.W.nsIn K mainGlobals "range" = some none)
    (k_LETTERS : PySem.W.nsIn K mainGlobals "LETTERS" = some (some (.str "abcdefghijklmnopqrstuvwxyz" tk_LETTERS)))
    (k_MOST_LETTERS : PySem.W.nsIn K mainGlobals "MOST_LETTERS" = some (some (.int 8 tk_MOST_LETTERS)))
    (g_p_is_whole : PySem.W.nsIn K mainGlobals "is_whole" = some (some (.ref a_p_is_whole)))
    (l_p_is_whole : K.lookup a_p_is_whole = some ⟨oc_p_is_whole, od_p_is_whole, .func (PySem.W.fnOf "is_whole" "is_whole" (defArgs (top 3)) (defBody (top 3)) (defScope (top 3)) .none kV_p_is_whole dc_p_is_whole pm_p_is_whole an_p_is_whole cd_p_is_whole ct_p_is_whole), sl_p_is_whole⟩)
    (c_p_is_whole : PySem.W.codeIn K cd_p_is_whole "is_whole" = true)
    (p_p_is_whole : PySem.W.keepIn K (.ref a_p_is_whole) = true)
    (g_p_is_mark : PySem.W.nsIn K mainGlobals "is_mark" = some (some (.ref a_p_is_mark)))
    (l_p_is_mark : K.lookup a_p_is_mark = some ⟨oc_p_is_mark, od_p_is_mark, .func (PySem.W.fnOf "is_mark" "is_mark" (defArgs (top 4)) (defBody (top 4)) (defScope (top 4)) .none kV_p_is_mark dc_p_is_mark pm_p_is_mark an_p_is_mark cd_p_is_mark ct_p_is_mark), sl_p_is_mark⟩)
    (c_p_is_mark : PySem.W.codeIn K cd_p_is_mark "is_mark" = true)
    (p_p_is_mark : PySem.W.keepIn K (.ref a_p_is_mark) = true)
    (g_l_cell_at : PySem.W.nsIn K mainGlobals "_law_cell_at" = some (some (.ref a_l_cell_at)))
    (l_l_cell_at : K.lookup a_l_cell_at = some ⟨oc_l_cell_at, od_l_cell_at, .func (PySem.W.fnOf "_law_cell_at" "_law_cell_at" (defArgs (top 6)) (defBody (top 6)) (defScope (top 6)) .none kV_l_cell_at dc_l_cell_at pm_l_cell_at an_l_cell_at cd_l_cell_at ct_l_cell_at), sl_l_cell_at⟩)
    (c_l_cell_at : PySem.W.codeIn K cd_l_cell_at "_law_cell_at" = true)
    (p_l_cell_at : PySem.W.keepIn K (.ref a_l_cell_at) = true)
    (g_l_mix : PySem.W.nsIn K mainGlobals "_law_mix" = some (some (.ref a_l_mix)))
    (l_l_mix : K.lookup a_l_mix = some ⟨oc_l_mix, od_l_mix, .func (PySem.W.fnOf "_law_mix" "_law_mix" (defArgs (top 7)) (defBody (top 7)) (defScope (top 7)) .none kV_l_mix dc_l_mix pm_l_mix an_l_mix cd_l_mix ct_l_mix), sl_l_mix⟩)
    (c_l_mix : PySem.W.codeIn K cd_l_mix "_law_mix" = true)
    (p_l_mix : PySem.W.keepIn K (.ref a_l_mix) = true)
    (g_l_text_by : PySem.W.nsIn K mainGlobals "_law_text_by" = some (some (.ref a_l_text_by)))
    (l_l_text_by : K.lookup a_l_text_by = some ⟨oc_l_text_by, od_l_text_by, .func (PySem.W.fnOf "_law_text_by" "_law_text_by" (defArgs (top 8)) (defBody (top 8)) (defScope (top 8)) .none kV_l_text_by dc_l_text_by pm_l_text_by an_l_text_by cd_l_text_by ct_l_text_by), sl_l_text_by⟩)
    (c_l_text_by : PySem.W.codeIn K cd_l_text_by "_law_text_by" = true)
    (p_l_text_by : PySem.W.keepIn K (.ref a_l_text_by) = true)
    (g_l_neither : PySem.W.nsIn K mainGlobals "_law_neither" = some (some (.ref a_l_neither)))
    (l_l_neither : K.lookup a_l_neither = some ⟨oc_l_neither, od_l_neither, .func (PySem.W.fnOf "_law_neither" "_law_neither" (defArgs (top 9)) (defBody (top 9)) (defScope (top 9)) .none kV_l_neither dc_l_neither pm_l_neither an_l_neither cd_l_neither ct_l_neither), sl_l_neither⟩)
    (c_l_neither : PySem.W.codeIn K cd_l_neither "_law_neither" = true)
    (p_l_neither : PySem.W.keepIn K (.ref a_l_neither) = true)
    (g_l_mark : PySem.W.nsIn K mainGlobals "_law_mark" = some (some (.ref a_l_mark)))
    (l_l_mark : K.lookup a_l_mark = some ⟨oc_l_mark, od_l_mark, .func (PySem.W.fnOf "_law_mark" "_law_mark" (defArgs (top 10)) (defBody (top 10)) (defScope (top 10)) .none kV_l_mark dc_l_mark pm_l_mark an_l_mark cd_l_mark ct_l_mark), sl_l_mark⟩)
    (c_l_mark : PySem.W.codeIn K cd_l_mark "_law_mark" = true)
    (p_l_mark : PySem.W.keepIn K (.ref a_l_mark) = true)
    (g_p_law : PySem.W.nsIn K mainGlobals "law" = some (some (.ref a_p_law)))
    (l_p_law : K.lookup a_p_law = some ⟨oc_p_law, od_p_law, .func (PySem.W.fnOf "law" "law" (defArgs (top 11)) (defBody (top 11)) (defScope (top 11)) .none kV_p_law dc_p_law pm_p_law an_p_law cd_p_law ct_p_law), sl_p_law⟩)
    (c_p_law : PySem.W.codeIn K cd_p_law "law" = true)
    (p_p_law : PySem.W.keepIn K (.ref a_p_law) = true)
    : ∃ fd : FuncData, (∀ (s : Shared) (v : Value), BindsTo s fd ⟨[v], []⟩ [("_law_script", v)]) ∧ ∀ base : Heap, K.In base → base.Ns mainGlobals mg → FnOk l.prog w K mg base (L2.CX l.prog w) 3 fa fd ["_law_script"] (spOf K cl [true] m_p_law) := by
  have e := hfa.symm.trans (PySem.W.mg_of X G g_p_law)
  cases e
  let T : Fs K mg := {
    n_isinstance := PySem.W.mg_none_of X G n_isinstance
    n_int := PySem.W.mg_none_of X G n_int
    n_bool := PySem.W.mg_none_of X G n_bool
    n_str := PySem.W.mg_none_of X G n_str
    n_len := PySem.W.mg_none_of X G n_len
    n_range := PySem.W.mg_none_of X G n_range
    k_LETTERS := ⟨_, PySem.W.mg_of X G k_LETTERS, _, rfl⟩
    k_MOST_LETTERS := ⟨_, PySem.W.mg_of X G k_MOST_LETTERS, _, rfl⟩
    a_p_is_whole := a_p_is_whole
    d_p_is_whole := _
    F_p_is_whole := fun_mk l_p_is_whole c_p_is_whole p_p_is_whole
    b_p_is_whole := (fun_mk (st := top 3) l_p_is_whole c_p_is_whole p_p_is_whole).binds (ps := ["thing"]) fun _ _ _ _ _ _ us hl => match us, hl with | [_], _ => rfl
    g_p_is_whole := PySem.W.mg_of X G g_p_is_whole
    a_p_is_mark := a_p_is_mark
    d_p_is_mark := _
    F_p_is_mark := fun_mk l_p_is_mark c_p_is_mark p_p_is_mark
    b_p_is_mark := (fun_mk (st := top 4) l_p_is_mark c_p_is_mark p_p_is_mark).binds (ps := ["thing"]) fun _ _ _ _ _ _ us hl => match us, hl with | [_], _ => rfl
    g_p_is_mark := PySem.W.mg_of X G g_p_is_mark
    a_l_cell_at := a_l_cell_at
    d_l_cell_at := _
    F_l_cell_at := fun_mk l_l_cell_at c_l_cell_at p_l_cell_at
    b_l_cell_at := (fun_mk (st := top 6) l_l_cell_at c_l_cell_at p_l_cell_at).binds (ps := ["_law_script", "_law_k"]) fun _ _ _ _ _ _ us hl => match us, hl with | [_, _], _ => rfl
    g_l_cell_at := PySem.W.mg_of X G g_l_cell_at
    a_l_mix := a_l_mix
    d_l_mix := _
    F_l_mix := fun_mk l_l_mix c_l_mix p_l_mix
    b_l_mix := (fun_mk (st := top 7) l_l_mix c_l_mix p_l_mix).binds (ps := ["_law_seed", "_law_k"]) fun _ _ _ _ _ _ us hl => match us, hl with | [_, _], _ => rfl
    g_l_mix := PySem.W.mg_of X G g_l_mix
    a_l_text_by := a_l_text_by
    d_l_text_by := _
    F_l_text_by := fun_mk l_l_text_by c_l_text_by p_l_text_by
    b_l_text_by := (fun_mk (st := top 8) l_l_text_by c_l_text_by p_l_text_by).binds (ps := ["_law_cell", "_law_many", "_law_way"]) fun _ _ _ _ _ _ us hl => match us, hl with | [_, _, _], _ => rfl
    g_l_text_by := PySem.W.mg_of X G g_l_text_by
    a_l_neither := a_l_neither
    d_l_neither := _
    F_l_neither := fun_mk l_l_neither c_l_neither p_l_neither
    b_l_neither := (fun_mk (st := top 9) l_l_neither c_l_neither p_l_neither).binds (ps := ["_law_cell", "_law_text", "_law_number"]) fun _ _ _ _ _ _ us hl => match us, hl with | [_, _, _], _ => rfl
    g_l_neither := PySem.W.mg_of X G g_l_neither
    a_l_mark := a_l_mark
    d_l_mark := _
    F_l_mark := fun_mk l_l_mark c_l_mark p_l_mark
    b_l_mark := (fun_mk (st := top 10) l_l_mark c_l_mark p_l_mark).binds (ps := ["_law_thing"]) fun _ _ _ _ _ _ us hl => match us, hl with | [_], _ => rfl
    g_l_mark := PySem.W.mg_of X G g_l_mark
    a_p_law := fa
    d_p_law := _
    F_p_law := fun_mk l_p_law c_p_law p_p_law
    b_p_law := (fun_mk (st := top 11) l_p_law c_p_law p_p_law).binds (ps := ["_law_script"]) fun _ _ _ _ _ _ us hl => match us, hl with | [_], _ => rfl
    g_p_law := PySem.W.mg_of X G g_p_law }
  exact ⟨T.d_p_law, fun s v => .of_eq rfl, fun base _ _ => ok_p_law T⟩
theorem walk {l : PySem.W.OpenLaw} {q : Program} {loose : List Str} {XP : (Str → Option Value) → Heap → Prop} {YP : World → Heap → Prop} {d : DefRec} {K : Params → PySem.W.Frag} {cl : World → Nat → Addr} (hlaw : LawOk) (hn : l.most = some 63) (hdf : d.params.defaults = [])
    (hY : ∀ (w : World) (h : Heap), YP w h → (K w.params).In h)
    (F : ∀ (w : World) (mg : Str → Option Value) (fa : Addr) (h : Heap), (K w.params).In h → h.Ns mainGlobals mg → mg d.name = some (.ref fa) →
      ∃ fd : FuncData, (∀ (s : Shared) (u : Value), BindsTo s fd ⟨[u], []⟩ [("_law_script", u)]) ∧ ∀ base : Heap, (K w.params).In base → base.Ns mainGlobals mg → FnOk l.prog w (K w.params) mg base (L2.CX l.prog w) 3 fa fd ["_law_script"] (spOf (K w.params) (cl w) [true] m_p_law)) :
    PySem.W.WalkO q loose XP YP l.row.toRowW d [] (fun f vs => PySem.call f vs) :=
  L2.walk_of (n := 63) (k := 3) (x := "_law_script") (CX := fun w => L2.CX l.prog w) (sp := fun w => spOf (K w.params) (cl w) [true] m_p_law) hn (by decide) hdf ⟨rfl, by decide, by decide⟩ hY F (fun w H a ns hl hO hS => sp_start [true] (by simp) (hlaw ns hl) hS) fun _ _ _ _ _ z => cx_end z
end PM
open PySem PySem.W PyProof.Rows
set_option maxRecDepth 100000 in
set_option maxHeartbeats 0 in
theorem PySem.Challenge.cw_shrinkhouse_k01_marks_holds : PySem.Challenge.rw_shrinkhouse_k01_marks.Holds := by
  w_on; o_law; k_head; (case hw => w_witness2)
  k_fill
  refine PM.walk (l := PySem.Challenge.rw_shrinkhouse_k01_marks) (cl := fun _ _ => 0) PM.law_ok rfl rfl (fun w h Y => PySem.W.kIn_of Y) ?F
  case F =>
    intro w mg fa h KX G hmg
    refine' PM.all_mk KX G hmg ?n_isinstance ?n_int ?n_bool ?n_str ?n_len ?n_range ?k_LETTERS ?k_MOST_LETTERS ?g_p_is_whole ?l_p_is_whole ?c_p_is_whole ?p_p_is_whole ?g_p_is_mark ?l_p_is_mark ?c_p_is_mark ?p_p_is_mark ?g_l_cell_at ?l_l_cell_at ?c_l_cell_at ?p_l_cell_at ?g_l_mix ?l_l_mix ?c_l_mix ?p_l_mix ?g_l_text_by ?l_l_text_by ?c_l_text_by ?p_l_text_by ?g_l_neither ?l_l_neither ?c_l_neither ?p_l_neither ?g_l_mark ?l_l_mark ?c_l_mark ?p_l_mark ?g_p_law ?l_p_law ?c_p_law ?p_p_law
    (case n_isinstance => k_is)
    (case n_int => k_is)
    (case n_bool => k_is)
    (case n_str => k_is)
    (case n_len => k_is)
    (case n_range => k_is)
    (case k_LETTERS => k_is)
    (case k_MOST_LETTERS => k_is)
    (case g_p_is_whole => k_is)
    (case l_p_is_whole => k_is)
    (case c_p_is_whole => k_is)
    (case p_p_is_whole => k_is)
    (case g_p_is_mark => k_is)
    (case l_p_is_mark => k_is)
    (case c_p_is_mark => k_is)
    (case p_p_is_mark => k_is)
    (case g_l_cell_at => k_is)
    (case l_l_cell_at => k_is)
    (case c_l_cell_at => k_is)
    (case p_l_cell_at => k_is)
    (case g_l_mix => k_is)
    (case l_l_mix => k_is)
    (case c_l_mix => k_is)
    (case p_l_mix => k_is)
    (case g_l_text_by => k_is)
    (case l_l_text_by => k_is)
    (case c_l_text_by => k_is)
    (case p_l_text_by => k_is)
    (case g_l_neither => k_is)
    (case l_l_neither => k_is)
    (case c_l_neither => k_is)
    (case p_l_neither => k_is)
    (case g_l_mark => k_is)
    (case l_l_mark => k_is)
    (case c_l_mark => k_is)
    (case p_l_mark => k_is)
    (case g_p_law => k_is)
    (case l_p_law => k_is)
    (case c_p_law => k_is)
    (case p_p_law => k_is)
