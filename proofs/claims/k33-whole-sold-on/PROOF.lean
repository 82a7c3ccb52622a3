import PyProof.Rows.All
import Wide.All
import OpenK.AllK
import Wide.FinOn
import HandS.ForMost
import HandS.Exc
import HandS.TryOnly
import HandS.ExcOwn
import HandS.ExcValue
import HandS.ExcIs
import HandS.WordsExc
import HandS.IsInst
import HandS.TupAny
import HandS.Wide
import HandS.Walk
import KE.SortKeyHeap
import HandS.SortKw
import HandS.Deep
import HandS.Style
import HandS.TupLe
import HandS.Zip
import KE.KStateDown
import HandS.Defaults
import HandS.Head0
import HandS.Head1
import HandS.Head2
import HandS.HeadEnd
import HandS.HeadHook1
import HandS.HeadHook2
import HandS.HeadHook4
import PySem.Challenge.RW_soldtwice_k33_whole_sold_on
set_option Elab.async false
set_option linter.all false
set_option maxRecDepth 100000
set_option maxHeartbeats 4000000
set_option Elab.async false
set_option linter.all false
set_option maxRecDepth 100000
/-! ### data, memory, what represents what -/
namespace L2.Z
open PySem PySem.Spec PyProof.Rows

inductive D where
  | non
  | bl (b : Bool)
  | int (i : Int)
  | str (x : Str)
  | tup (xs : List D)
  | lst (xs : List D)
  | ext (xs : List D)
  | dct (kvs : List (Str × D))
  | ref (r : Nat)
  | exc (c : Nat)
  | fn (f : Nat)
  | own (xs : List D)
instance : Inhabited D := ⟨.non⟩

inductive Cell where
  | dead
  | lst (xs : List D)
  | dct (kvs : List (Str × D))
  | ins (c : Nat) (fs : List (Str × D))
abbrev Mem := List Cell

structure Gam where
  K : PySem.W.Frag
  fa : Nat → Addr
  ca : Nat → Addr
  ct : Nat → Option Str
  gi : Str → Option Int
  gs : Str → Option Str
/-- an exception that is held -/
def ExD (cls : Value) (a : Addr) : HO := .ext fun h => ∃ (oe : Obj) (vs : Array Value), h.get? a = some oe ∧ Zc cls none oe ∧ oe.data = .fields vs
theorem exD_ok {P : Program} {w : World} {H : Hp} {h : Heap} {a : Addr} {cls : Value} {oe : Obj} {vs : Array Value} (e : h.get? a = some oe) (z : Zc cls none oe) (d : oe.data = .fields vs) : ObjOk P w H h a (ExD cls a) :=
  ⟨⟨oe, vs, e, z, d⟩, ⟨oe, e⟩, fun _ _ ⟨o, v, q, r⟩ k => ⟨o, v, k o q, r⟩⟩

structure G where
  ph : List Addr
  M : Mem
  hid : List Addr
  H : Hp
def G.cl (g : G) (a : Addr) : Prop := ∃ (r : Nat) (c : Cell), g.ph[r]? = some a ∧ g.M[r]? = some c ∧ c ≠ .dead
def G.live (g : G) (a : Addr) : Prop := g.cl a ∨ a ∈ g.hid

def KL (K : PySem.W.Frag) (a : Addr) (vs : List V) : Prop := ∃ (o : Obj) (its : Array Value) (n : Nat), K.lookup a = some o ∧ o.cls = .type "list" ∧ o.dict = none ∧ o.data = .seq its n ∧ its.size ≤ sizeLine ∧ Vals vs its.toList

mutual
inductive Rep (W : Gam) (g : G) : D → V → Prop
  | non : Rep W g .non .non
  | bl (b : Bool) : Rep W g (.bl b) (.bl b)
  | int (i : Int) : Rep W g (.int i) (.int i)
  | str (x : Str) : Rep W g (.str x) (.str x)
  | tup {a : Addr} {xs : List D} {vs : List V} : g.H a = some (.tup vs) → ¬ g.live a → RepL W g xs vs → Rep W g (.tup xs) (.ref a)
  | lst {a : Addr} {xs : List D} {vs : List V} : g.H a = some (.lst vs) → ¬ g.live a → RepL W g xs vs → Rep W g (.lst xs) (.ref a)
  | ext {a : Addr} {xs : List D} {vs : List V} : (Rd g.H a (.lst vs) ∧ ¬ g.live a) ∨ KL W.K a vs → RepL W g xs vs → Rep W g (.ext xs) (.ref a)
  | dct {a : Addr} {kvs : List (Str × D)} {vs : List V} : g.H a = some (.dK ((kvs.map (·.1)).zip vs |>.map fun p => (Sum.inr p.1, p.2))) → ¬ g.live a → RepL W g (kvs.map (·.2)) vs → Rep W g (.dct kvs) (.ref a)
  | ref {r : Nat} {a : Addr} : g.ph[r]? = some a → Rep W g (.ref r) (.ref a)
  | exc {c : Nat} {a : Addr} : g.H a = some (ExD (.ref (W.ca c)) a) → ¬ g.live a → (W.ct c).isSome = true → Rep W g (.exc c) (.ref a)
  | fn (f : Nat) : Rep W g (.fn f) (.ref (W.fa f))
inductive RepL (W : Gam) (g : G) : List D → List V → Prop
  | nil : RepL W g [] []
  | cons {d : D} {ds : List D} {v : V} {vs : List V} : Rep W g d v → RepL W g ds vs → RepL W g (d :: ds) (v :: vs)
end

/-- what is kept from statement to statement; Ext: within an expression -/
structure Ex0 (g g' : G) : Prop where
  ph : ∀ (r : Nat) (a : Addr), g.ph[r]? = some a → g'.ph[r]? = some a
  keep : ∀ (a : Addr) (o : HO), g.H a = some o → ¬ g.live a → g'.H a = some o ∧ ¬ g'.live a
structure Ext (g g' : G) : Prop extends Ex0 g g' where
  hs : ∀ a ∈ g.hid, a ∈ g'.hid ∧ g'.H a = g.H a
theorem Ex0.refl (g : G) : Ex0 g g := ⟨fun _ _ h => h, fun _ _ h n => ⟨h, n⟩⟩
theorem Ex0.trans {g g1 g2 : G} (x : Ex0 g g1) (y : Ex0 g1 g2) : Ex0 g g2 :=
  ⟨fun r a h => y.ph r a (x.ph r a h), fun a o h n => let ⟨h1, n1⟩ := x.keep a o h n; y.keep a o h1 n1⟩
theorem Ext.refl (g : G) : Ext g g := ⟨Ex0.refl g, fun _ h => ⟨h, rfl⟩⟩
theorem Ext.trans {g g1 g2 : G} (x : Ext g g1) (y : Ext g1 g2) : Ext g g2 :=
  ⟨x.toEx0.trans y.toEx0, fun a h => let ⟨h1, e1⟩ := x.hs a h; let ⟨h2, e2⟩ := y.hs a h1; ⟨h2, e2.trans e1⟩⟩
theorem Ex0.rd {g g' : G} (x : Ex0 g g') {a : Addr} {u : HO} (h : Rd g.H a u) (n : ¬ g.live a) : Rd g'.H a u ∧ ¬ g'.live a := by
  rcases h with h | ⟨o, h⟩
  · exact ⟨.inl (x.keep a _ h n).1, (x.keep a _ h n).2⟩
  · exact ⟨.inr ⟨o, (x.keep a _ h n).1⟩, (x.keep a _ h n).2⟩

mutual
theorem Rep.mono {W : Gam} {g g' : G} (x : Ex0 g g') : ∀ {d : D} {v : V}, Rep W g d v → Rep W g' d v
  | _, _, .non => .non
  | _, _, .bl b => .bl b
  | _, _, .int i => .int i
  | _, _, .str s => .str s
  | _, _, .tup h n r => .tup (x.keep _ _ h n).1 (x.keep _ _ h n).2 (RepL.mono x r)
  | _, _, .lst h n r => .lst (x.keep _ _ h n).1 (x.keep _ _ h n).2 (RepL.mono x r)
  | _, _, .ext h r => .ext (h.elim (fun q => .inl (x.rd q.1 q.2)) .inr) (RepL.mono x r)
  | _, _, .dct h n r => .dct (x.keep _ _ h n).1 (x.keep _ _ h n).2 (RepL.mono x r)
  | _, _, .ref h => .ref (x.ph _ _ h)
  | _, _, .exc h n q => .exc (x.keep _ _ h n).1 (x.keep _ _ h n).2 q
  | _, _, .fn f => .fn f
theorem RepL.mono {W : Gam} {g g' : G} (x : Ex0 g g') : ∀ {ds : List D} {vs : List V}, RepL W g ds vs → RepL W g' ds vs
  | _, _, .nil => .nil
  | _, _, .cons r t => .cons (Rep.mono x r) (RepL.mono x t)
end

section
variable {W : Gam} {g g' : G}
theorem RepL.length : ∀ {ds : List D} {vs : List V}, RepL W g ds vs → ds.length = vs.length
  | _, _, .nil => rfl
  | _, _, .cons _ t => by simp [RepL.length t]
theorem RepL.get : ∀ {ds : List D} {vs : List V} {i : Nat} {d : D}, RepL W g ds vs → ds[i]? = some d → ∃ v, vs[i]? = some v ∧ Rep W g d v
  | _, _, _, _, .nil, e => by simp at e
  | _, _, 0, _, .cons r _, e => by simp at e; subst e; exact ⟨_, rfl, r⟩
  | _, _, i + 1, _, .cons _ t, e => by
    obtain ⟨v, h1, h2⟩ := RepL.get (i := i) t (by simpa using e)
    exact ⟨v, by simpa using h1, h2⟩
theorem RepL.app : ∀ {ds es : List D} {vs ws : List V}, RepL W g ds vs → RepL W g es ws → RepL W g (ds ++ es) (vs ++ ws)
  | _, _, _, _, .nil, q => q
  | _, _, _, _, .cons r t, q => .cons r (RepL.app t q)
theorem RepL.take : ∀ {ds : List D} {vs : List V} (n : Nat), RepL W g ds vs → RepL W g (ds.take n) (vs.take n)
  | _, _, 0, _ => by simpa using RepL.nil
  | _, _, _ + 1, .nil => .nil
  | _, _, n + 1, .cons r t => .cons r (RepL.take n t)
theorem RepL.drop : ∀ {ds : List D} {vs : List V} (n : Nat), RepL W g ds vs → RepL W g (ds.drop n) (vs.drop n)
  | _, _, 0, r => r
  | _, _, _ + 1, .nil => .nil
  | _, _, n + 1, .cons _ t => RepL.drop n t
theorem RepL.set {d : D} {v : V} (r : Rep W g d v) : ∀ {ds : List D} {vs : List V} (i : Nat), RepL W g ds vs → RepL W g (ds.set i d) (vs.set i v)
  | _, _, _, .nil => .nil
  | _, _, 0, .cons _ t => .cons r t
  | _, _, i + 1, .cons q t => .cons q (RepL.set r i t)
theorem RepL.nil_iff {ds : List D} {vs : List V} (r : RepL W g ds vs) : ds = [] ↔ vs = [] := by
  cases r with
  | nil => simp
  | cons _ _ => simp
theorem RepL.one {d : D} {v : V} (r : Rep W g d v) : RepL W g [d] [v] := .cons r .nil
theorem RepL.rev : ∀ {ds : List D} {vs : List V}, RepL W g ds vs → RepL W g ds.reverse vs.reverse
  | _, _, .nil => .nil
  | _, _, .cons r t => by
    rw [List.reverse_cons, List.reverse_cons]
    exact RepL.app (RepL.rev t) (.one r)
theorem RepL.rep {ds : List D} {vs : List V} (r : RepL W g ds vs) : ∀ n : Nat, RepL W g (List.replicate n ds).flatten (List.replicate n vs).flatten
  | 0 => .nil
  | n + 1 => by
    rw [List.replicate_succ, List.replicate_succ, List.flatten_cons, List.flatten_cons]
    exact RepL.app r (RepL.rep r n)
theorem RepL.snoc {ds : List D} {vs : List V} {d : D} {v : V} (t : RepL W g ds vs) (r : Rep W g d v) : RepL W g (ds ++ [d]) (vs ++ [v]) := t.app (.one r)
theorem RepL.last : ∀ {ds : List D} {vs : List V}, RepL W g ds vs → RepL W g ds.dropLast vs.dropLast := by
  intro ds vs r
  have e1 : ds.dropLast = ds.take (ds.length - 1) := by rw [List.dropLast_eq_take]
  have e2 : vs.dropLast = vs.take (vs.length - 1) := by rw [List.dropLast_eq_take]
  rw [e1, e2, r.length]
  exact r.take _
end

def CellRep (W : Gam) (g : G) (a : Addr) : Cell → Prop
  | .dead => True
  | .lst xs => ∃ vs, g.H a = some (.lst vs) ∧ RepL W g xs vs
  | .dct kvs => ∃ vs, g.H a = some (.dK ((kvs.map (·.1)).zip vs |>.map fun p => (Sum.inr p.1, p.2))) ∧ RepL W g (kvs.map (·.2)) vs
  | .ins c fs => ∃ dx vs, g.H a = some (.ins (W.ca c) dx ((fs.map (·.1)).zip vs)) ∧ RepL W g (fs.map (·.2)) vs
structure G.Ok (W : Gam) (g : G) : Prop where
  len : g.ph.length = g.M.length
  nd : g.ph.Nodup
  has : ∀ a ∈ g.ph, ∃ o, g.H a = some o
  hh : ∀ a ∈ g.hid, (∃ o, g.H a = some o) ∧ a ∉ g.ph
  cell : ∀ (r : Nat) (a : Addr) (c : Cell), g.ph[r]? = some a → g.M[r]? = some c → CellRep W g a c
theorem CellRep.at {W : Gam} {g : G} {a : Addr} {c : Cell} (h : CellRep W g a c) (n : c ≠ .dead) : ∃ o, g.H a = some o := by
  cases c with
  | dead => exact absurd rfl n
  | lst xs => obtain ⟨vs, e, _⟩ := h; exact ⟨_, e⟩
  | dct xs => obtain ⟨vs, e, _⟩ := h; exact ⟨_, e⟩
  | ins c fs => obtain ⟨dx, vs, e, _⟩ := h; exact ⟨_, e⟩
theorem G.Ok.fresh {W : Gam} {g : G} (ok : g.Ok W) {p : Addr} (h : g.H p = none) : ¬ g.live p := fun l => by
  rcases l with ⟨r, c, h1, h2, n⟩ | l
  · obtain ⟨o, e⟩ := (ok.cell r p c h1 h2).at n
    rw [h] at e; cases e
  · obtain ⟨o, e⟩ := (ok.hh p l).1
    rw [h] at e; cases e
theorem G.cl_ph {g : G} {a : Addr} (h : g.cl a) : a ∈ g.ph := by
  obtain ⟨r, _, e, _⟩ := h
  exact List.mem_of_getElem? e
theorem CellRep.mono {W : Gam} {g g' : G} {a : Addr} {c : Cell} (x : Ex0 g g') (e : ∀ o, g.H a = some o → g'.H a = some o) (h : CellRep W g a c) : CellRep W g' a c := by
  cases c with
  | dead => trivial
  | lst xs => obtain ⟨vs, q, r⟩ := h; exact ⟨vs, e _ q, r.mono x⟩
  | dct xs => obtain ⟨vs, q, r⟩ := h; exact ⟨vs, e _ q, r.mono x⟩
  | ins c fs => obtain ⟨dx, vs, q, r⟩ := h; exact ⟨dx, vs, e _ q, r.mono x⟩
theorem nodup_at {l : List Addr} (h : l.Nodup) {i j : Nat} {a : Addr} (e1 : l[i]? = some a) (e2 : l[j]? = some a) : i = j := by
  obtain ⟨h1, q1⟩ := List.getElem?_eq_some_iff.mp e1
  obtain ⟨h2, q2⟩ := List.getElem?_eq_some_iff.mp e2
  exact (List.getElem_inj h).mp (q1.trans q2.symm)

/-! a new thing, hidden -/
def G.new (g : G) (p : Addr) (o : HO) : G := { g with H := upd g.H p o, hid := p :: g.hid }
section
variable {W : Gam} {g : G} {p : Addr} {o : HO}
theorem G.Ok.new_ext (ok : g.Ok W) (h : g.H p = none) : Ext g (g.new p o) where
  ph := fun _ _ e => e
  keep := fun a u e n => by
    have ne := ne_of_none e h
    refine ⟨by show upd g.H p o a = some u; rw [upd_ne ne]; exact e, fun l => ?_⟩
    rcases l with l | l
    · exact n (.inl l)
    · rcases List.mem_cons.mp l with l | l
      · exact ne l
      · exact n (.inr l)
  hs := fun a ha => ⟨List.mem_cons_of_mem _ ha, by
    obtain ⟨u, e⟩ := (ok.hh a ha).1
    show upd g.H p o a = g.H a
    rw [upd_ne (ne_of_none e h)]⟩
theorem G.Ok.new_ok (ok : g.Ok W) (h : g.H p = none) : (g.new p o).Ok W where
  len := ok.len
  nd := ok.nd
  has := fun a ha => by
    obtain ⟨u, e⟩ := ok.has a ha
    exact ⟨u, by show upd g.H p o a = some u; rw [upd_ne (ne_of_none e h)]; exact e⟩
  hh := fun a ha => by
    rcases List.mem_cons.mp ha with ha | ha
    · subst ha
      refine ⟨⟨o, upd_same⟩, fun q => ?_⟩
      obtain ⟨u, e⟩ := ok.has a q
      rw [h] at e; cases e
    · obtain ⟨⟨u, e⟩, n⟩ := ok.hh a ha
      exact ⟨⟨u, by show upd g.H p o a = some u; rw [upd_ne (ne_of_none e h)]; exact e⟩, n⟩
  cell := fun r a c h1 h2 => (ok.cell r a c h1 h2).mono (ok.new_ext h).toEx0 fun u e => by show upd g.H p o a = some u; rw [upd_ne (ne_of_none e h)]; exact e
end
/-! fewer are hidden -/
def G.show_ (g : G) (l : List Addr) : G := { g with hid := l }
section
variable {W : Gam} {g : G} {l : List Addr}
theorem G.show_ext0 (hl : ∀ a ∈ l, a ∈ g.hid) : Ex0 g (g.show_ l) where
  ph := fun _ _ e => e
  keep := fun a u e n => ⟨e, fun z => n (z.elim .inl fun q => .inr (hl a q))⟩
theorem G.Ok.show_ok (ok : g.Ok W) (hl : ∀ a ∈ l, a ∈ g.hid) : (g.show_ l).Ok W where
  len := ok.len
  nd := ok.nd
  has := ok.has
  hh := fun a ha => ok.hh a (hl a ha)
  cell := fun r a c h1 h2 => (ok.cell r a c h1 h2).mono (G.show_ext0 hl) fun _ e => e
theorem G.Ok.show_nl (ok : g.Ok W) {a : Addr} (h : a ∈ g.hid) (n : a ∉ l) : ¬ (g.show_ l).live a := fun z => by
  rcases z with z | z
  · exact (ok.hh a h).2 (G.cl_ph (g := g) z)
  · exact n z
end
/-! a hidden thing is changed -/
def G.hw (g : G) (a : Addr) (o : HO) : G := { g with H := upd g.H a o }
section
variable {W : Gam} {g : G} {a : Addr} {o : HO}
theorem G.Ok.hw_ext (ok : g.Ok W) (h : a ∈ g.hid) : Ex0 g (g.hw a o) where
  ph := fun _ _ e => e
  keep := fun b u e n => ⟨by
    show upd g.H a o b = some u
    rw [upd_ne (show b ≠ a from fun q => n (.inr (by rw [q]; exact h)))]; exact e, n⟩
theorem G.Ok.hw_ok (ok : g.Ok W) (h : a ∈ g.hid) : (g.hw a o).Ok W where
  len := ok.len
  nd := ok.nd
  has := fun b hb => by
    obtain ⟨u, e⟩ := ok.has b hb
    exact ⟨u, by show upd g.H a o b = some u; rw [upd_ne (show b ≠ a from fun q => (ok.hh a h).2 (by rw [← q]; exact hb))]; exact e⟩
  hh := fun b hb => by
    obtain ⟨⟨u, e⟩, n⟩ := ok.hh b hb
    refine ⟨?_, n⟩
    by_cases q : b = a
    · exact ⟨o, by subst q; exact upd_same⟩
    · exact ⟨u, by show upd g.H a o b = some u; rw [upd_ne q]; exact e⟩
  cell := fun r b c h1 h2 => (ok.cell r b c h1 h2).mono (ok.hw_ext h) fun u e => by
    show upd g.H a o b = some u
    rw [upd_ne (show b ≠ a from fun q => (ok.hh a h).2 (by rw [← q]; exact List.mem_of_getElem? h1))]; exact e
end
/-! a hidden thing becomes a live cell -/
def G.push (g : G) (p : Addr) (c : Cell) (l : List Addr) : G := ⟨g.ph ++ [p], g.M ++ [c], l, g.H⟩
section
variable {W : Gam} {g : G} {p : Addr} {c : Cell} {l : List Addr}
theorem G.push_cl {a : Addr} (len : g.ph.length = g.M.length) (h : (g.push p c l).cl a) : g.cl a ∨ a = p := by
  obtain ⟨r, d, h1, h2, n⟩ := h
  have h1' : (g.ph ++ [p])[r]? = some a := h1
  have h2' : (g.M ++ [c])[r]? = some d := h2
  by_cases hr : r < g.ph.length
  · rw [List.getElem?_append_left hr] at h1'
    rw [List.getElem?_append_left (by rw [← len]; exact hr)] at h2'
    exact .inl ⟨r, d, h1', h2', n⟩
  · have e : r = g.ph.length := by
      have q := (List.getElem?_eq_some_iff.mp h1').1
      simp at q; omega
    rw [e] at h1'
    exact .inr (by simpa using h1'.symm)
theorem G.Ok.push_ext (ok : g.Ok W) (hp : p ∈ g.hid) (hl : ∀ a ∈ l, a ∈ g.hid) : Ex0 g (g.push p c l) where
  ph := fun r a e => by
    show (g.ph ++ [p])[r]? = some a
    rw [List.getElem?_append_left (List.getElem?_eq_some_iff.mp e).1]; exact e
  keep := fun a u e n => ⟨e, fun z => by
    rcases z with z | z
    · rcases G.push_cl ok.len z with z | z
      · exact n (.inl z)
      · exact n (.inr (by rw [z]; exact hp))
    · exact n (.inr (hl a z))⟩
theorem G.Ok.push_id (ok : g.Ok W) : (g.push p c l).ph[g.M.length]? = some p := by
  show (g.ph ++ [p])[g.M.length]? = some p
  rw [← ok.len]; simp
theorem G.Ok.push_ok (ok : g.Ok W) (hp : p ∈ g.hid) (hl : ∀ a ∈ l, a ∈ g.hid) (np : p ∉ l) (hc : CellRep W (g.push p c l) p c) : (g.push p c l).Ok W where
  len := by show (g.ph ++ [p]).length = (g.M ++ [c]).length; simp [ok.len]
  nd := by
    show (g.ph ++ [p]).Nodup
    rw [List.nodup_append]
    refine ⟨ok.nd, by simp, fun a ha b hb e => ?_⟩
    have hb : b = p := by simpa using hb
    exact (ok.hh p hp).2 (by rw [← hb, ← e]; exact ha)
  has := fun a ha => by
    have ha : a ∈ g.ph ++ [p] := ha
    rcases List.mem_append.mp ha with ha | ha
    · exact ok.has a ha
    · have e : a = p := by simpa using ha
      rw [e]; exact (ok.hh p hp).1
  hh := fun a ha => by
    obtain ⟨h1, h2⟩ := ok.hh a (hl a ha)
    refine ⟨h1, fun q => ?_⟩
    have q : a ∈ g.ph ++ [p] := q
    rcases List.mem_append.mp q with q | q
    · exact h2 q
    · have e : a = p := by simpa using q
      exact np (by rw [← e]; exact ha)
  cell := fun r a d h1 h2 => by
    have h1' : (g.ph ++ [p])[r]? = some a := h1
    have h2' : (g.M ++ [c])[r]? = some d := h2
    by_cases hr : r < g.ph.length
    · rw [List.getElem?_append_left hr] at h1'
      rw [List.getElem?_append_left (by rw [← ok.len]; exact hr)] at h2'
      exact (ok.cell r a d h1' h2').mono (ok.push_ext hp hl) fun _ e => e
    · have e : r = g.ph.length := by
        have q := (List.getElem?_eq_some_iff.mp h1').1
        simp at q; omega
      rw [e] at h1'
      rw [e, ok.len] at h2'
      simp at h1' h2'
      subst h1' h2'
      exact hc
end
/-! a live cell is changed -/
def G.wr (g : G) (r : Nat) (a : Addr) (c : Cell) (o : HO) : G := ⟨g.ph, g.M.set r c, g.hid, upd g.H a o⟩
section
variable {W : Gam} {g : G} {r : Nat} {a : Addr} {c c0 : Cell} {o : HO}
theorem G.wr_cl {b : Addr} (h2 : g.M[r]? = some c0) (n0 : c0 ≠ .dead) (h : (g.wr r a c o).cl b) : g.cl b := by
  obtain ⟨r', d, e1, e2, n⟩ := h
  have e1 : g.ph[r']? = some b := e1
  have e2 : (g.M.set r c)[r']? = some d := e2
  by_cases q : r = r'
  · subst q
    exact ⟨r, c0, e1, h2, n0⟩
  · rw [List.getElem?_set_ne q] at e2
    exact ⟨r', d, e1, e2, n⟩
theorem G.Ok.wr_ext (ok : g.Ok W) (h1 : g.ph[r]? = some a) (h2 : g.M[r]? = some c0) (n0 : c0 ≠ .dead) : Ext g (g.wr r a c o) where
  ph := fun _ _ e => e
  keep := fun b u e n => ⟨by
    show upd g.H a o b = some u
    rw [upd_ne (show b ≠ a from fun q => n (.inl (by rw [q]; exact ⟨r, c0, h1, h2, n0⟩)))]; exact e, fun l => n (l.elim (fun z => .inl (G.wr_cl h2 n0 z)) .inr)⟩
  hs := fun b hb => ⟨hb, by
    show upd g.H a o b = g.H b
    rw [upd_ne (show b ≠ a from fun q => (ok.hh b hb).2 (by rw [q]; exact List.mem_of_getElem? h1))]⟩
theorem G.Ok.wr_ok (ok : g.Ok W) (h1 : g.ph[r]? = some a) (h2 : g.M[r]? = some c0) (n0 : c0 ≠ .dead) (hc : CellRep W (g.wr r a c o) a c) : (g.wr r a c o).Ok W where
  len := by show g.ph.length = (g.M.set r c).length; simp [ok.len]
  nd := ok.nd
  has := fun b hb => by
    by_cases q : b = a
    · exact ⟨o, by subst q; exact upd_same⟩
    · obtain ⟨u, e⟩ := ok.has b hb
      exact ⟨u, by show upd g.H a o b = some u; rw [upd_ne q]; exact e⟩
  hh := fun b hb => by
    obtain ⟨⟨u, e⟩, n⟩ := ok.hh b hb
    exact ⟨⟨u, by show upd g.H a o b = some u; rw [upd_ne (show b ≠ a from fun q => n (by rw [q]; exact List.mem_of_getElem? h1))]; exact e⟩, n⟩
  cell := fun r' b d e1 e2 => by
    have e1 : g.ph[r']? = some b := e1
    have e2 : (g.M.set r c)[r']? = some d := e2
    by_cases q : r = r'
    · subst q
      rw [h1] at e1; cases e1
      rw [List.getElem?_set_self (List.getElem?_eq_some_iff.mp h2).1] at e2; cases e2
      exact hc
    · rw [List.getElem?_set_ne q] at e2
      refine (ok.cell r' b d e1 e2).mono (ok.wr_ext h1 h2 n0).toEx0 fun u e => ?_
      show upd g.H a o b = some u
      rw [upd_ne (show b ≠ a from fun z => q (nodup_at ok.nd h1 (by rw [← z]; exact e1)))]; exact e
end

/-! ### a value, or a list that a name of the frame owns -/
def RepX (W : Gam) (g : G) (d : D) (v : V) : Prop := Rep W g d v ∨ ∃ xs a vs, d = .own xs ∧ v = .ref a ∧ a ∈ g.hid ∧ g.H a = some (.lst vs) ∧ RepL W g xs vs
theorem RepX.mono {W : Gam} {g g' : G} {d : D} {v : V} (x : Ext g g') (h : RepX W g d v) : RepX W g' d v := by
  rcases h with h | ⟨xs, a, vs, e1, e2, h1, h2, r⟩
  · exact .inl (h.mono x.toEx0)
  · exact .inr ⟨xs, a, vs, e1, e2, (x.hs a h1).1, (x.hs a h1).2.trans h2, r.mono x.toEx0⟩
def nown : D → Bool
  | .own _ => false
  | _ => true
theorem RepX.rep {W : Gam} {g : G} {d : D} {v : V} (h : RepX W g d v) (n : nown d = true) : Rep W g d v := by
  rcases h with h | ⟨xs, a, vs, e1, _⟩
  · exact h
  · subst e1; cases n
/-- a list to be read -/
def lview (M : Mem) : D → Option (List D)
  | .lst xs => some xs
  | .ext xs => some xs
  | .own xs => some xs
  | .ref r => (match M[r]? with
    | some (.lst xs) => some xs
    | _ => none)
  | _ => none
theorem RepX.lview {W : Gam} {g : G} {d : D} {v : V} {xs : List D} (ok : g.Ok W) (h : RepX W g d v) (e : lview g.M d = some xs) : ∃ a vs, v = .ref a ∧ SqL W.K g.H a vs ∧ RepL W g xs vs := by
  rcases h with h | ⟨ys, a, vs, e1, e2, h1, h2, r⟩
  · cases h with
    | lst h n r => cases e; exact ⟨_, _, rfl, SqL.of h, r⟩
    | ext h r =>
      cases e
      refine ⟨_, _, rfl, ?_, r⟩
      rcases h with h | h
      · exact .inl h.1
      · exact .inr h
    | @ref r a h =>
      have e : (match g.M[r]? with
        | some (.lst xs) => some xs
        | _ => none) = some xs := e
      split at e
      · rename_i ys q
        cases e
        obtain ⟨vs, h1, h2⟩ := ok.cell r a _ h q
        exact ⟨a, vs, rfl, SqL.of h1, h2⟩
      · cases e
    | _ => cases e
  · subst e1; cases e; exact ⟨a, vs, e2, SqL.of h2, r⟩
/-- .. that is no list from outside -/
def pview (M : Mem) : D → Option (List D)
  | .ext _ => none
  | d => lview M d
theorem RepX.pview {W : Gam} {g : G} {d : D} {v : V} {xs : List D} (ok : g.Ok W) (h : RepX W g d v) (e : pview g.M d = some xs) : ∃ a vs, v = .ref a ∧ g.H a = some (.lst vs) ∧ RepL W g xs vs := by
  rcases h with h | ⟨ys, a, vs, e1, e2, h1, h2, r⟩
  · cases h with
    | lst h n r => cases e; exact ⟨_, _, rfl, h, r⟩
    | ext h r => cases e
    | @ref r a h =>
      have e : (match g.M[r]? with
        | some (.lst xs) => some xs
        | _ => none) = some xs := e
      split at e
      · rename_i ys q
        cases e
        obtain ⟨vs, h1, h2⟩ := ok.cell r a _ h q
        exact ⟨a, vs, rfl, h1, h2⟩
      · cases e
    | _ => cases e
  · subst e1; cases e; exact ⟨a, vs, e2, h2, r⟩

/-! ### what a run ends in -/
inductive R (α : Type) where
  | ok (a : α) (M : Mem)
  | exc (c : Nat) (M : Mem)
  | bad
abbrev Ev (α : Type) := Mem → R α
def R.bind {α β : Type} (r : R α) (f : α → Ev β) : R β := match r with
  | .ok a M => f a M
  | .exc c M => .exc c M
  | .bad => .bad
def Ev.bind {α β : Type} (m : Ev α) (f : α → Ev β) : Ev β := fun M => (m M).bind f
def Ev.pure {α : Type} (a : α) : Ev α := fun M => .ok a M
def Ev.bad {α : Type} : Ev α := fun _ => .bad
instance : Monad Ev where
  pure := Ev.pure
  bind := Ev.bind

/-- what is wanted of a run's end; T: what represents its value -/
def PostT {α β : Type} (T : G → α → β → Prop) (W : Gam) (g : G) (r : R α) (Q : β → Hp → Prop) (X : Nat → Hp → Prop) : Prop := match r with
  | .ok d M => ∀ g', Ext g g' → g'.hid = g.hid → g'.M = M → g'.Ok W → ∀ v, T g' d v → Q v g'.H
  | .exc c M => ∀ g', Ext g g' → g'.hid = g.hid → g'.M = M → g'.Ok W → X c g'.H
  | .bad => False
section
variable {α β : Type} {T : G → α → β → Prop} {W : Gam} {g g1 : G} {r : R α} {Q Q' : β → Hp → Prop} {X X' : Nat → Hp → Prop}
theorem PostT.mono (h : PostT T W g r Q X) (x : Ext g g1) (e : g1.hid = g.hid) : PostT T W g1 r Q X := by
  cases r with
  | ok d M => exact fun g' y e1 => h g' (x.trans y) (e1.trans e)
  | exc c M => exact fun g' y e1 => h g' (x.trans y) (e1.trans e)
  | bad => exact h
theorem PostT.imp (h : PostT T W g r Q X) (hq : ∀ v H, Q v H → Q' v H) (hx : ∀ c H, X c H → X' c H) : PostT T W g r Q' X' := by
  cases r with
  | ok d M => exact fun g' y e1 e ok v rv => hq _ _ (h g' y e1 e ok v rv)
  | exc c M => exact fun g' y e1 e ok => hx _ _ (h g' y e1 e ok)
  | bad => exact h
/-- one run behind another -/
theorem PostT.bind {α' β' : Type} {T' : G → α' → β' → Prop} {r : R α'} {k : α' → Ev α} {Q1 : β' → Hp → Prop} (h : PostT T W g (r.bind k) Q X)
    (hk : ∀ d M g', r = .ok d M → Ext g g' → g'.hid = g.hid → g'.M = M → g'.Ok W → ∀ v, T' g' d v → PostT T W g' (k d M) Q X → Q1 v g'.H) : PostT T' W g r Q1 X := by
  cases r with
  | ok d M => exact fun g' x e1 e ok v rv => hk d M g' rfl x e1 e ok v rv (PostT.mono h x e1)
  | exc c M => exact h
  | bad => exact h
end
end L2.Z
set_option Elab.async false
set_option linter.all false
set_option maxRecDepth 100000
/-! ### the text, its names resolved -/
namespace L2.Z
open PySem PySem.Spec PyProof.Rows

inductive Ty where
  | int | bool | str | tuple | list | dict | own (c : Nat) (x : Str) | valueError
def Ty.name : Ty → Str
  | .int => "int"
  | .bool => "bool"
  | .str => "str"
  | .tuple => "tuple"
  | .list => "list"
  | .dict => "dict"
  | .own _ x => x
  | .valueError => "ValueError"
/-- built-in functions whose arguments are plain -/
inductive Blt where
  | len | abs | max2 | min2 | all | any | sum | list | tuple | max1 | min1
def Blt.name : Blt → Str
  | .len => "len"
  | .abs => "abs"
  | .max2 => "max"
  | .min2 => "min"
  | .all => "all"
  | .any => "any"
  | .sum => "sum"
  | .list => "list"
  | .tuple => "tuple"
  | .max1 => "max"
  | .min1 => "min"
/-- methods of built-in things that change nothing -/
inductive Mth where
  | index | count
def Mth.name : Mth → Str
  | .index => "index"
  | .count => "count"
inductive Tg where
  | nm (i : Nat) (x : Str) (p : Pos)
  | tp (ts : List Tg) (k : Nat) (p : Pos)
/-- what is walked: a thing, range(..), zip(.., ..), enumerate(..) -/
inductive SK where
  | one | rng (px p : Pos) | zip (px p : Pos) | enm (px p : Pos)
inductive E where
  | var (i : Nat) (x : Str) (p : Pos)
  | cst (c : Const) (k : Nat) (p : Pos)
  | gint (x : Str) (i : Int) (p : Pos)
  | gstr (x : Str) (z : Str) (p : Pos)
  | gfn (x : Str) (f : Nat) (p : Pos)
  | bin (o : Operator) (a b : E) (p : Pos)
  | neg (a : E) (p : Pos)
  | not (a : E) (p : Pos)
  | bop (o : BoolOp) (es : List E) (p : Pos)
  | cmp (o : CmpOp) (a b : E) (p : Pos)
  | chain (o o' : CmpOp) (a b c : E) (p : Pos)
  | ite (t a b : E) (p : Pos)
  | call (f : Nat) (x : Str) (px : Pos) (es : List E) (p : Pos)
  | isi (a : E) (t : Ty) (px pt p : Pos)
  | blt (b : Blt) (px : Pos) (es : List E) (p : Pos)
  | mth (m : Mth) (o : E) (po : Pos) (es : List E) (p : Pos)
  | sub (a i : E) (p : Pos)
  | slc (a : E) (lo hi : Option E) (ps p : Pos)
  | tup (es : List E) (k : Nat) (p : Pos)
  | lst (es : List E) (p : Pos)
  | lc (elt : E) (tg : Tg) (sk : SK) (src : List E) (ifs : List E) (sc : Scope) (own : List (Str × Nat)) (p : Pos)
  | live (e : E)
  | srt (a : E) (px p : Pos)
  | srk (a : E) (f : Nat) (x : Str) (pf pk px p : Pos)
inductive S where
  | asg (tg : Tg) (e : E) (p : Pos)
  | own (i : Nat) (x : Str) (px : Pos) (e : E) (p : Pos)
  | par (i j : Nat) (x y : Str) (px py pt : Pos) (a b : E) (pv p : Pos) (k k' : Nat)
  | app (i : Nat) (x : Str) (px pa : Pos) (e : E) (p ps : Pos)
  | exn (i : Nat) (x : Str) (px pa : Pos) (e : E) (p ps : Pos)
  | sti (a i e : E) (pt p : Pos)
  | sto (j : Nat) (x : Str) (px : Pos) (i e : E) (pt p : Pos)
  | aug (i : Nat) (x : Str) (px : Pos) (o : Operator) (e : E) (p : Pos)
  | exp (e : E) (p : Pos)
  | ret (e : E) (p : Pos)
  | ifs (t : E) (a b : List S) (p : Pos)
  | fors (tg : Tg) (sk : SK) (src : List E) (b : List S) (p : Pos)
  | whl (t : E) (b : List S) (p : Pos)
  | rse (c : Nat) (x : Str) (px : Pos) (m : Str) (k : Nat) (pm pc p : Pos)
  | tri (tg : Tg) (e : E) (pb : Pos) (c : Nat) (x : Str) (px : Pos) (i : Nat) (y : Str) (j : Nat) (z : Str) (pz py pa ph p : Pos)
  | frz (js : List Nat) (s : S)

mutual
def Tg.ex : Tg → Expr
  | .nm _ x p => .Name x p
  | .tp ts k p => .Tuple (Tg.exs ts) k p
def Tg.exs : List Tg → List Expr
  | [] => []
  | t :: r => t.ex :: Tg.exs r
end
def SK.ex (sk : SK) (es : List Expr) : Expr := match sk with
  | .one => es.headD (.Constant .none 0 ⟨0, 0, 0, 0⟩)
  | .rng px p => .Call (.Name "range" px) es [] p
  | .zip px p => .Call (.Name "zip" px) es [] p
  | .enm px p => .Call (.Name "enumerate" px) es [] p
mutual
def E.ex : E → Expr
  | .var _ x p => .Name x p
  | .cst c k p => .Constant c k p
  | .gint x _ p => .Name x p
  | .gstr x _ p => .Name x p
  | .gfn x _ p => .Name x p
  | .bin o a b p => .BinOp a.ex o b.ex p
  | .neg a p => .UnaryOp .USub a.ex p
  | .not a p => .UnaryOp .Not a.ex p
  | .bop o es p => .BoolOp o (E.exs es) p
  | .cmp o a b p => .Compare a.ex [o] [b.ex] p
  | .chain o o' a b c p => .Compare a.ex [o, o'] [b.ex, c.ex] p
  | .ite t a b p => .IfExp t.ex a.ex b.ex p
  | .call _ x px es p => .Call (.Name x px) (E.exs es) [] p
  | .isi a t px pt p => .Call (.Name "isinstance" px) [a.ex, .Name t.name pt] [] p
  | .blt b px es p => .Call (.Name b.name px) (E.exs es) [] p
  | .mth m o po es p => .Call (.Attribute o.ex m.name po) (E.exs es) [] p
  | .sub a i p => .Subscript a.ex i.ex p
  | .slc a lo hi ps p => .Subscript a.ex (.Slice (E.exo lo) (E.exo hi) none ps) p
  | .tup es k p => .Tuple (E.exs es) k p
  | .lst es p => .List (E.exs es) p
  | .lc elt tg sk src ifs sc _ p => .ListComp elt.ex [⟨tg.ex, sk.ex (E.exs src), E.exs ifs, 0⟩] sc p
  | .live e => e.ex
  | .srt a px p => .Call (.Name "sorted" px) [a.ex] [] p
  | .srk a _ x pf pk px p => .Call (.Name "sorted" px) [a.ex] [⟨some "key", .Name x pf, pk⟩] p
def E.exs : List E → List Expr
  | [] => []
  | e :: r => e.ex :: E.exs r
def E.exo : Option E → Option Expr
  | none => none
  | some e => some e.ex
end
mutual
def S.ex : S → Stmt
  | .asg tg e p => .Assign [tg.ex] e.ex p
  | .own _ x px e p => .Assign [.Name x px] e.ex p
  | .par _ _ x y px py pt a b pv p k k' => .Assign [.Tuple [.Name x px, .Name y py] k pt] (.Tuple [a.ex, b.ex] k' pv) p
  | .app _ x px pa e p ps => .Expr (.Call (.Attribute (.Name x px) "append" pa) [e.ex] [] p) ps
  | .exn _ x px pa e p ps => .Expr (.Call (.Attribute (.Name x px) "extend" pa) [e.ex] [] p) ps
  | .sti a i e pt p => .Assign [.Subscript a.ex i.ex pt] e.ex p
  | .sto _ x px i e pt p => .Assign [.Subscript (.Name x px) i.ex pt] e.ex p
  | .aug _ x px o e p => .AugAssign (.Name x px) o e.ex p
  | .exp e p => .Expr e.ex p
  | .ret e p => .Return (some e.ex) p
  | .ifs t a b p => .If t.ex (S.exs a) (S.exs b) p
  | .fors tg sk src b p => .For tg.ex (sk.ex (E.exs src)) (S.exs b) [] p
  | .whl t b p => .While t.ex (S.exs b) [] p
  | .rse _ x px m k pm pc p => .Raise (some (.Call (.Name x px) [.Constant (.str m) k pm] [] pc)) none p
  | .tri tg e pb _ x px _ y _ z pz py pa ph p => .Try [.Assign [tg.ex] e.ex pb] [.ExceptHandler (some (.Name x px)) (some y) [.Assign [.Name z pz] (.Name y py) pa] ph] [] [] p
  | .frz _ s => s.ex
def S.exs : List S → List Stmt
  | [] => []
  | s :: r => s.ex :: S.exs r
end

/-! ### data: equality, views -/
mutual
def eqD : D → D → Bool
  | .non, .non => true
  | .bl a, .bl b => a == b
  | .bl a, .int j => (if a then 1 else 0) == j
  | .int i, .bl b => i == (if b then 1 else 0)
  | .int i, .int j => i == j
  | .str x, .str y => x == y
  | .tup xs, .tup ys => eqDs xs ys
  | .lst xs, .lst ys => eqDs xs ys
  | _, _ => false
def eqDs : List D → List D → Bool
  | [], [] => true
  | x :: xs, y :: ys => eqD x y && eqDs xs ys
  | _, _ => false
end
mutual
/-- plain data -/
def pyOk : D → Bool
  | .non => true
  | .bl _ => true
  | .int _ => true
  | .str x => PyData.strOk x
  | .tup xs => pyOks xs
  | .lst xs => pyOks xs
  | _ => false
def pyOks : List D → Bool
  | [] => true
  | x :: xs => pyOk x && pyOks xs
end
mutual
def dep : D → Nat
  | .tup xs => deps xs + 1
  | .lst xs => deps xs + 1
  | _ => 0
def deps : List D → Nat
  | [] => 0
  | x :: xs => max (dep x) (deps xs)
end
def flatD : D → Bool
  | .non => true
  | .bl _ => true
  | .int _ => true
  | .str _ => true
  | _ => false
def nrm (M : Mem) (d : D) : D := match lview M d with
  | some xs => .lst xs
  | none => d
def shD (d : D) : Bool := pyOk d && decide (dep d ≤ 64)

/-! ### what the machine does with data -/
def addD (M : Mem) (x y : D) : Option D := match x, y with
  | .int i, .int j => some (.int (i + j))
  | .str a, .str b => if a.length + b.length ≤ sizeLine then some (.str (a ++ b)) else none
  | .tup xs, .tup ys => if xs.length + ys.length ≤ sizeLine then some (.tup (xs ++ ys)) else none
  | x, y => (match pview M x, pview M y with
    | some xs, some ys => if xs.length + ys.length ≤ sizeLine then some (.lst (xs ++ ys)) else none
    | _, _ => none)
def mulOk (i j : Int) : Bool := decide (i.natAbs.log2 + j.natAbs.log2 < 1000000)
def divOk (j : Int) : Bool := decide (0 < j) && decide (j.natAbs.log2 < 9000)
def powOk (i j : Int) : Bool := decide (0 ≤ j) && decide (j ≤ 1000000) && decide (i.natAbs < 18446744073709551616)
def mulD (M : Mem) (x y : D) : Option D := match x, y with
  | .int i, .int j => if mulOk i j then some (.int (i * j)) else none
  | x, .int k => (match pview M x with
    | some xs => if -9223372036854775808 ≤ k ∧ k < 9223372036854775808 ∧ xs.length * k.toNat ≤ sizeLine then some (.lst (List.replicate k.toNat xs).flatten) else none
    | none => none)
  | _, _ => none
def binD (o : Operator) (M : Mem) (x y : D) : Option D := match o with
  | .Add => addD M x y
  | .Mult => mulD M x y
  | .Sub => (match x, y with
    | .int i, .int j => some (.int (i - j))
    | _, _ => none)
  | .FloorDiv => (match x, y with
    | .int i, .int j => if divOk j then some (.int (i / j)) else none
    | _, _ => none)
  | .Mod => (match x, y with
    | .int i, .int j => if 0 < j then some (.int (i % j)) else none
    | _, _ => none)
  | .Pow => (match x, y with
    | .int i, .int j => if powOk i j then some (.int (i ^ j.toNat)) else none
    | _, _ => none)
  | _ => none
def isLst (M : Mem) (d : D) : Bool := (lview M d).isSome
def inD (M : Mem) (x y : D) : Option Bool := match y with
  | .tup ys => if flatD x && ys.all flatD then some (ys.any fun z => eqD z x) else none
  | .str z => (match x with
    | .str a => (match a.cps.toList with
      | [c] => some (decide (c ∈ z.cps.toList))
      | _ => none)
    | _ => none)
  | y => (match lview M y with
    | some ys => if shD x && shD (.lst ys) then some (ys.any fun z => eqD z x) else none
    | none => none)
def isNon : D → Bool
  | .non => true
  | _ => false
def cmpD (o : CmpOp) (M : Mem) (x y : D) : Option Bool := match o with
  | .Eq => if shD (nrm M x) && shD (nrm M y) then some (eqD (nrm M x) (nrm M y)) else none
  | .NotEq => if shD (nrm M x) && shD (nrm M y) then some (!eqD (nrm M x) (nrm M y)) else none
  | .Lt => (match x, y with
    | .int i, .int j => some (decide (i < j))
    | .str a, .str b => some (decide (a.cps.toList < b.cps.toList))
    | _, _ => none)
  | .LtE => (match x, y with
    | .int i, .int j => some (decide (i ≤ j))
    | _, _ => none)
  | .Gt => (match x, y with
    | .int i, .int j => some (decide (j < i))
    | _, _ => none)
  | .GtE => (match x, y with
    | .int i, .int j => some (decide (j ≤ i))
    | _, _ => none)
  | .In => inD M x y
  | .NotIn => (match y with
    | .str _ => none
    | _ => (inD M x y).map (!·))
  | .Is => (match y with
    | .non => some (isNon x)
    | .bl b => (match x with
      | .bl a => some (a == b)
      | _ => none)
    | _ => none)
  | .IsNot => (match y with
    | .non => some (!isNon x)
    | .bl b => (match x with
      | .bl a => some (!(a == b))
      | _ => none)
    | _ => none)
def asB : D → Option Bool
  | .bl b => some b
  | _ => none
def asI : D → Option Int
  | .int i => some i
  | _ => none
def bls : List D → Option (List Bool)
  | [] => some []
  | d :: r => (match asB d, bls r with
    | some b, some bs => some (b :: bs)
    | _, _ => none)
def intsD : List D → Option (List Int)
  | [] => some []
  | d :: r => (match asI d, intsD r with
    | some b, some bs => some (b :: bs)
    | _, _ => none)
def maxL : List Int → Option Int
  | [] => none
  | x :: r => some (r.foldl (fun m y => if m < y then y else m) x)
def minL : List Int → Option Int
  | [] => none
  | x :: r => some (r.foldl (fun m y => if y < m then y else m) x)
def bltD (b : Blt) (M : Mem) (ds : List D) : Option D := match b, ds with
  | .len, [d] => (match d with
    | .str z => if z.length ≤ sizeLine then some (.int z.length) else none
    | .tup xs => some (.int xs.length)
    | d => (lview M d).map fun xs => .int xs.length)
  | .abs, [.int i] => some (.int (if i < 0 then -i else i))
  | .max2, [.int i, .int j] => some (.int (if j > i then j else i))
  | .min2, [.int i, .int j] => some (.int (if j < i then j else i))
  | .all, [d] => ((lview M d).bind bls).map fun bs => .bl (bs.all id)
  | .any, [d] => ((lview M d).bind bls).map fun bs => .bl (bs.any id)
  | .sum, [d] => ((lview M d).bind intsD).map fun is => .int is.sum
  | .list, [d] => (match d with
    | .tup xs => some (.lst xs)
    | d => (lview M d).map .lst)
  | .tuple, [d] => (match d with
    | .tup xs => some (.tup xs)
    | d => (lview M d).map .tup)
  | .max1, [d] => (((lview M d).bind intsD).bind maxL).map .int
  | .min1, [d] => (((lview M d).bind intsD).bind minL).map .int
  | _, _ => none
def isiD (sub : Nat → Nat → Bool) (M : Mem) (t : Ty) (d : D) : Option Bool := match t with
  | .int => (match d with
    | .int _ => some true
    | .bl _ => some true
    | .exc _ | .ref _ | .fn _ | .ext _ | .own _ => none
    | _ => some false)
  | .bool => (match d with
    | .bl _ => some true
    | .exc _ | .ref _ | .fn _ | .ext _ | .own _ => none
    | _ => some false)
  | .str => (match d with
    | .str _ => some true
    | .exc _ | .ref _ | .fn _ | .ext _ | .own _ => none
    | _ => some false)
  | .tuple => (match d with
    | .tup _ => some true
    | .exc _ | .ref _ | .fn _ | .ext _ | .own _ => none
    | _ => some false)
  | .list => (match d with
    | .lst _ => some true
    | .exc _ | .ref _ | .fn _ | .ext _ | .own _ => none
    | _ => some false)
  | .dict => (match d with
    | .dct _ => some true
    | .exc _ | .ref _ | .fn _ | .ext _ | .own _ => none
    | _ => some false)
  | .own c _ => (match d with
    | .exc e => some (sub e c)
    | _ => none)
  | .valueError => (match d with
    | .exc _ => some true
    | _ => none)
def idxOf (x : D) : List D → Nat → Option Nat
  | [], _ => none
  | y :: r, k => if eqD y x then some k else idxOf x r (k + 1)
def subD (M : Mem) (a i : D) : Option D := match a, i with
  | .tup xs, .int i => atI xs i
  | .str z, .int i => if z.length ≤ sizeLine then (atI z.cps.toList i).map fun c => .str ⟨#[c]⟩ else none
  | a, .int i => (lview M a).bind fun xs => atI xs i
  | _, _ => none
def cutD (xs : List D) (lo hi : Option Int) : List D := (xs.drop (HT.sIx xs.length 0 lo)).take (HT.sIx xs.length xs.length hi - HT.sIx xs.length 0 lo)
def slcD (M : Mem) (a : D) (lo hi : Option Int) : Option D := match a with
  | .tup xs => some (.tup (cutD xs lo hi))
  | .str z => if z.length ≤ sizeLine then some (.str (cutS z lo hi)) else none
  | a => (lview M a).map fun xs => .lst (cutD xs lo hi)

/-! ### the run -/
abbrev Env := List (Option D)
structure Cfg where
  call : Nat → List D → Ev D
  sub : Nat → Nat → Bool
  fuel : Nat
def ret (o : Option D) : Ev D := fun M => match o with
  | some d => .ok d M
  | none => .bad
def retB (o : Option Bool) : Ev D := fun M => match o with
  | some b => .ok (.bl b) M
  | none => .bad
def retL (o : Option (List D)) : Ev (List D) := fun M => match o with
  | some ds => .ok ds M
  | none => .bad
/-- nothing may leave it -/
def calm {α : Type} (m : Ev α) : Ev α := fun M => match m M with
  | .exc _ _ => .bad
  | r => r
/-! sorting -/
mutual
def toPy : D → PyData
  | .bl b => .bool b
  | .int i => .int i
  | .str x => .str x
  | .tup xs => .tuple (toPys xs)
  | .lst xs => .list (toPys xs)
  | _ => .none
def toPys : List D → List PyData
  | [] => []
  | x :: xs => toPy x :: toPys xs
end
def keysE (call : List D → Ev D) : List D → Ev (List D)
  | [] => fun M => .ok [] M
  | d :: ds => fun M => (call [d] M).bind fun k M1 => (keysE call ds M1).bind fun ks M2 => .ok (k :: ks) M2
def alikeD (ks : List D) : Bool := (toPys ks).all fun k => (toPys ks).all fun k' => PySem.W.alike k k'
def sortableD (ks : List D) : Bool := ((ks.all fun k => match k with
  | .tup (_ :: _) => true
  | _ => false) || ks.all fun k => match k with
  | .bl _ | .int _ | .str _ | .lst _ => true
  | _ => false)
def sortOk (ks : List D) : Bool := pyOks ks && decide (deps ks ≤ 60) && alikeD ks && sortableD ks
def leK (p q : D × D) : Bool := PySem.W.dataLe false (fun p : D × D => toPy p.1) p q
def sortK (ks xs : List D) : List D := ((ks.zip xs).mergeSort leK).map (·.2)
/-- what is sorted -/
def sview (M : Mem) : D → Option (List D)
  | .tup xs => some xs
  | d => lview M d
def leP (p q : D) : Bool := PySem.W.dataLe false toPy p q
def sortP (xs : List D) : List D := xs.mergeSort leP
def srtD (M : Mem) (d : D) : Option D := match sview M d with
  | some xs => if sortOk xs && decide (xs.length ≤ sizeLine) then some (.lst (sortP xs)) else none
  | none => none
def srkE (call : List D → Ev D) (d : D) : Ev D := fun M => match sview M d with
  | some xs => if xs.length ≤ sizeLine then (calm (keysE call xs) M).bind fun ks M1 => if sortOk ks then .ok (.lst (sortK ks xs)) M1 else .bad else .bad
  | none => .bad
def kept (d : D) : Ev D := fun M => if nown d then .ok d M else .bad
def cstD : Const → Option D
  | .none => some .non
  | .bool b => some (.bl b)
  | .int i => some (.int i)
  | .str x => some (.str x)
  | _ => none
def wipeD (r : Env) : List Nat → Env
  | [] => r
  | v :: vs => (wipeD r vs).set v none
mutual
def Tg.put : Tg → D → Env → Option Env
  | .nm i _ _, d, r => some (r.set i (some d))
  | .tp ts _ _, d, r => (match d with
    | .tup xs => if xs.length = ts.length then Tg.puts ts xs r else none
    | _ => none)
def Tg.puts : List Tg → List D → Env → Option Env
  | [], [], r => some r
  | t :: ts, d :: ds, r => (match Tg.put t d r with
    | some r' => Tg.puts ts ds r'
    | none => none)
  | _, _, _ => none
end
def rngL (lo : Int) (n : Nat) : List D := (List.range n).map fun i => .int (lo + (i : Nat))
def zipD (xs ys : List D) : List D := (xs.zip ys).map fun p => .tup [p.1, p.2]
def enmD (xs : List D) : List D := ((List.range xs.length).zip xs).map fun p => .tup [.int (p.1 : Nat), p.2]
/-- the items of a list that is walked; a live list is none here -/
def litems : D → Option (List D)
  | .lst xs => some xs
  | .ext xs => some xs
  | .own xs => some xs
  | _ => none
def mthD (m : Mth) (o : D) (ds : List D) : Option D := match m, ds with
  | .index, [x] => (litems o).bind fun ys => if flatD x && ys.all flatD then (idxOf x ys 0).map fun k => .int k else none
  | .count, [x] => (litems o).bind fun ys => if flatD x && ys.all flatD then some (.int (ys.countP fun y => eqD y x)) else none
  | _, _ => none
def items : D → Option (List D)
  | .tup xs => some xs
  | .str z => some (z.cps.toList.map fun c => .str ⟨#[c]⟩)
  | d => litems d
def srcD (sk : SK) (ds : List D) : Option (List D) := match sk, ds with
  | .one, [d] => items d
  | .rng _ _, [.int n] => if -4611686018427387904 ≤ n ∧ n < 4611686018427387904 then some (rngL 0 n.toNat) else none
  | .rng _ _, [.int m, .int n] => if -4611686018427387904 ≤ m ∧ m < 4611686018427387904 ∧ -4611686018427387904 ≤ n ∧ n < 4611686018427387904 then some (rngL m (n - m).toNat) else none
  | .zip _ _, [x, y] => (match x, y with
    | .tup xs, .tup ys => some (zipD xs ys)
    | x, y => (match litems x, litems y with
      | some xs, some ys => some (zipD xs ys)
      | _, _ => none))
  | .enm _ _, [x] => (litems x).map enmD
  | _, _ => none
/-- each item in turn -/
def mapE (f : D → Ev (Option D)) : List D → Ev (List D)
  | [] => fun M => .ok [] M
  | d :: r => fun M => (f d M).bind fun o M1 => (mapE f r M1).bind fun ys M2 => .ok (match o with
    | some y => y :: ys
    | none => ys) M2
mutual
def ev (C : Cfg) : E → Env → Ev D
  | .var i _ _, r => fun M => (match r[i]? with
    | some (some d) => .ok d M
    | _ => .bad)
  | .cst c _ _, _ => ret (cstD c)
  | .gint _ i _, _ => fun M => .ok (.int i) M
  | .gstr _ z _, _ => fun M => .ok (.str z) M
  | .gfn _ f _, _ => fun M => .ok (.fn f) M
  | .bin o a b _, r => fun M => (ev C a r M).bind fun x M1 => (ev C b r M1).bind fun y M2 => ret (binD o M2 x y) M2
  | .neg a _, r => fun M => (ev C a r M).bind fun x M1 => (match x with
    | .int i => .ok (.int (-i)) M1
    | _ => .bad)
  | .not a _, r => fun M => (ev C a r M).bind fun x M1 => (match x with
    | .bl b => .ok (.bl (!b)) M1
    | _ => .bad)
  | .bop o es _, r => evB C o es r
  | .cmp o a b _, r => fun M => (ev C a r M).bind fun x M1 => (ev C b r M1).bind fun y M2 => retB (cmpD o M2 x y) M2
  | .chain o o' a b c _, r => fun M => (ev C a r M).bind fun x M1 => (ev C b r M1).bind fun y M2 => (match cmpD o M2 x y with
    | some true => (ev C c r M2).bind fun z M3 => retB (cmpD o' M3 y z) M3
    | some false => .ok (.bl false) M2
    | none => .bad)
  | .ite t a b _, r => fun M => (ev C t r M).bind fun x M1 => (match x with
    | .bl true => ev C a r M1
    | .bl false => ev C b r M1
    | _ => .bad)
  | .call f _ _ es _, r => fun M => (evs C es r M).bind fun ds M1 => C.call f ds M1
  | .isi a t _ _ _, r => fun M => (ev C a r M).bind fun x M1 => retB (isiD C.sub M1 t x) M1
  | .blt b _ es _, r => fun M => (evx C es r M).bind fun ds M1 => ret (bltD b M1 ds) M1
  | .mth m o _ es _, r => fun M => (ev C o r M).bind fun x M1 => if (litems x).isSome then (evx C es r M1).bind fun ds M2 => ret (mthD m x ds) M2 else .bad
  | .sub a i _, r => fun M => (ev C a r M).bind fun x M1 => (ev C i r M1).bind fun y M2 => ret (subD M2 x y) M2
  | .slc a lo hi _ _, r => fun M => (ev C a r M).bind fun x M1 => (evO C lo r M1).bind fun l M2 => (evO C hi r M2).bind fun h M3 => ret (slcD M3 x l h) M3
  | .tup es _ _, r => fun M => (evs C es r M).bind fun ds M1 => ret (if ds.length ≤ sizeLine then some (.tup ds) else none) M1
  | .lst es _, r => fun M => (evs C es r M).bind fun ds M1 => ret (if ds.length ≤ sizeLine then some (.lst ds) else none) M1
  | .lc elt tg sk src ifs _ own _, r => fun M => ((evx C src r M).bind fun ss M1 => retL (srcD sk ss) M1).bind fun ds M1 => (mapE (fun d => calm fun M => (match tg.put d (wipeD r (own.map (·.2))) with
      | some r' => (evT C ifs r' M).bind fun b M2 => (match b with
        | true => (ev C elt r' M2).bind fun y M3 => (kept y M3).bind fun y M4 => .ok (some y) M4
        | false => .ok none M2)
      | none => .bad)) ds M1).bind fun ys M5 => ret (if ys.length ≤ sizeLine then some (.lst ys) else none) M5
  | .live e, r => fun M => (ev C e r M).bind fun x M1 => (match x with
    | .lst xs => .ok (.ref M1.length) (M1 ++ [.lst xs])
    | _ => .bad)
  | .srt a _ _, r => fun M => (ev C a r M).bind fun x M1 => ret (srtD M1 x) M1
  | .srk a f _ _ _ _ _, r => fun M => (ev C a r M).bind fun x M1 => srkE (C.call f) x M1
/-- arguments that are kept -/
def evs (C : Cfg) : List E → Env → Ev (List D)
  | [], _ => fun M => .ok [] M
  | e :: es, r => fun M => (ev C e r M).bind fun x M1 => (kept x M1).bind fun x M2 => (evs C es r M2).bind fun xs M3 => .ok (x :: xs) M3
/-- arguments that are looked at alone -/
def evx (C : Cfg) : List E → Env → Ev (List D)
  | [], _ => fun M => .ok [] M
  | e :: es, r => fun M => (ev C e r M).bind fun x M1 => (evx C es r M1).bind fun xs M3 => .ok (x :: xs) M3
def evO (C : Cfg) : Option E → Env → Ev (Option Int)
  | none, _ => fun M => .ok none M
  | some e, r => fun M => (ev C e r M).bind fun x M1 => (match x with
    | .int i => .ok (some i) M1
    | _ => .bad)
def evB (C : Cfg) : BoolOp → List E → Env → Ev D
  | _, [], _ => fun _ => .bad
  | o, e :: es, r => fun M => (match es with
    | [] => ev C e r M
    | _ :: _ => (ev C e r M).bind fun x M1 => (match o, x with
      | .And, .bl true => evB C o es r M1
      | .And, .bl false => .ok (.bl false) M1
      | .Or, .bl true => .ok (.bl true) M1
      | .Or, .bl false => evB C o es r M1
      | _, _ => .bad))
/-- a clause's tests: none, or one -/
def evT (C : Cfg) : List E → Env → Ev Bool
  | [], _ => fun M => .ok true M
  | e :: es, r => fun M => (match es with
    | [] => (ev C e r M).bind fun x M1 => (match x with
      | .bl b => .ok b M1
      | _ => .bad)
    | _ => .bad)
end
/-- where a statement ends -/
inductive Fl where
  | nx (r : Env)
  | rt (d : D)
/-- an expression whose list is new -/
def isNew : E → Bool
  | .lst _ _ => true
  | .lc _ _ _ _ _ _ _ _ => true
  | .bin .Add _ _ _ => true
  | .bin .Mult _ _ _ => true
  | .blt .list _ _ _ => true
  | .slc _ _ _ _ _ => true
  | .srt _ _ _ => true
  | .srk _ _ _ _ _ _ _ => true
  | _ => false
def fzs (r : Env) : List Nat → Env
  | [] => r
  | j :: js => (match r[j]? with
    | some (some (.own xs)) => fzs (r.set j (some (.lst xs))) js
    | _ => fzs r js)
def forE (f : D → Env → Ev Fl) : List D → Env → Ev Fl
  | [], r => fun M => .ok (.nx r) M
  | d :: ds, r => fun M => (f d r M).bind fun o M1 => (match o with
    | .nx r' => forE f ds r' M1
    | .rt d => .ok (.rt d) M1)
def whlE (t : Env → Ev D) (b : Env → Ev Fl) : Nat → Env → Ev Fl
  | 0, _ => fun _ => .bad
  | n + 1, r => fun M => (t r M).bind fun x M1 => (match x with
    | .bl true => (b r M1).bind fun o M2 => (match o with
      | .nx r' => whlE t b n r' M2
      | .rt d => .ok (.rt d) M2)
    | .bl false => .ok (.nx r) M1
    | _ => .bad)
def retE (o : Option Env) : Ev Fl := fun M => match o with
  | some r => .ok (.nx r) M
  | none => .bad
def augD (o : Operator) (k : Int) (x : D) : Option Int := match o, x with
  | .Add, .int m => some (k + m)
  | .Sub, .int m => some (k - m)
  | _, _ => none
mutual
def ex (C : Cfg) : S → Env → Ev Fl
  | .asg tg e _, r => fun M => (ev C e r M).bind fun x M1 => (kept x M1).bind fun x M2 => retE (tg.put x r) M2
  | .own i _ _ e _, r => fun M => if isNew e then (ev C e r M).bind fun x M1 => (match x with
    | .lst xs => .ok (.nx (r.set i (some (.own xs)))) M1
    | _ => .bad) else .bad
  | .par i j _ _ _ _ _ a b _ _ _ _, r => fun M => (evs C [a, b] r M).bind fun ds M1 => (match ds with
    | [x, y] => .ok (.nx ((r.set i (some x)).set j (some y))) M1
    | _ => .bad)
  | .app i _ _ _ e _ _, r => fun M => (match r[i]? with
    | some (some (.own xs)) => (ev C e r M).bind fun x M1 => (kept x M1).bind fun x M2 => if xs.length < sizeLine then .ok (.nx (r.set i (some (.own (xs ++ [x]))))) M2 else .bad
    | _ => .bad)
  | .exn i _ _ _ e _ _, r => fun M => (match r[i]? with
    | some (some (.own xs)) => (ev C e r M).bind fun x M1 => (match x with
      | .lst ys => if xs.length + ys.length ≤ sizeLine then .ok (.nx (r.set i (some (.own (xs ++ ys))))) M1 else .bad
      | _ => .bad)
    | _ => .bad)
  | .sti a i e _ _, r => fun M => (ev C e r M).bind fun x M1 => (kept x M1).bind fun x M2 => (ev C a r M2).bind fun o M3 => (ev C i r M3).bind fun k M4 => (match o, k with
    | .ref q, .int k => (match M4[q]? with
      | some (.lst xs) => (match ixN xs.length k with
        | some j => .ok (.nx r) (M4.set q (.lst (xs.set j x)))
        | none => .bad)
      | _ => .bad)
    | _, _ => .bad)
  | .sto j _ _ i e _ _, r => fun M => (ev C e r M).bind fun x M1 => (kept x M1).bind fun x M2 => (match r[j]? with
    | some (some (.own xs)) => (ev C i r M2).bind fun k M3 => (match k with
      | .int k => (match ixN xs.length k with
        | some n => .ok (.nx (r.set j (some (.own (xs.set n x))))) M3
        | none => .bad)
      | _ => .bad)
    | _ => .bad)
  | .aug i _ _ o e _, r => fun M => (match r[i]? with
    | some (some (.int k)) => (ev C e r M).bind fun x M1 => retE ((augD o k x).map fun d => r.set i (some (.int d))) M1
    | _ => .bad)
  | .exp e _, r => fun M => (ev C e r M).bind fun _ M1 => .ok (.nx r) M1
  | .ret e _, r => fun M => (ev C e r M).bind fun x M1 => (kept x M1).bind fun x M2 => .ok (.rt x) M2
  | .ifs t a b _, r => fun M => (ev C t r M).bind fun x M1 => (match x with
    | .bl true => exs C a r M1
    | .bl false => exs C b r M1
    | _ => .bad)
  | .fors tg sk src b _, r => fun M => ((evx C src r M).bind fun ss M1 => if ss.all nown then retL (srcD sk ss) M1 else .bad).bind fun ds M1 => forE (fun d r => fun M => (match tg.put d r with
      | some r' => exs C b r' M
      | none => .bad)) ds r M1
  | .whl t b _, r => whlE (fun r => ev C t r) (fun r => exs C b r) C.fuel r
  | .rse c _ _ _ _ _ _ _, _ => fun M => .exc c M
  | .tri tg e _ c _ _ i _ j _ _ _ _ _ _, r => fun M => (match (ev C e r M).bind fun x M1 => (kept x M1).bind fun x M2 => retE (tg.put x r) M2 with
    | .exc c' M1 => if C.sub c' c then .ok (.nx ((r.set j (some (.exc c'))).set i none)) M1 else .bad
    | q => q)
  | .frz js s, r => ex C s (fzs r js)
def exs (C : Cfg) : List S → Env → Ev Fl
  | [], r => fun M => .ok (.nx r) M
  | s :: ss, r => fun M => (ex C s r M).bind fun o M1 => (match o with
    | .nx r' => exs C ss r' M1
    | .rt d => .ok (.rt d) M1)
end
structure Fn where
  name : Str
  qual : Str
  ps : List Str
  ns : List Str
  body : List S
def startD (n : Nat) (ds : List D) : Env := ds.map some ++ List.replicate (n - ds.length) none
def callF (T : Nat → Option Fn) (sub : Nat → Nat → Bool) (fuel : Nat) : Nat → Nat → List D → Ev D
  | 0, _, _ => fun _ => .bad
  | n + 1, f, ds => fun M => (match T f with
    | some F => if ds.length = F.ps.length then (exs ⟨callF T sub fuel n, sub, fuel⟩ F.body (startD F.ns.length ds) M).bind fun o M1 => (match o with
      | .rt d => .ok d M1
      | .nx _ => .ok .non M1) else .bad
    | none => .bad)
end L2.Z
set_option Elab.async false
set_option linter.all false
set_option maxRecDepth 100000
set_option maxHeartbeats 1000000
/-! ### soundness: expressions -/
namespace L2.Z
open PySem PySem.Spec PyProof.Rows

/-! a new thing that never changes -/
def G.put (g : G) (p : Addr) (o : HO) : G := { g with H := upd g.H p o }
section
variable {W : Gam} {g : G} {p : Addr} {o : HO}
theorem G.Ok.put_ext (ok : g.Ok W) (h : g.H p = none) : Ext g (g.put p o) where
  ph := fun _ _ e => e
  keep := fun a u e n => ⟨by show upd g.H p o a = some u; rw [upd_ne (ne_of_none e h)]; exact e, n⟩
  hs := fun a ha => ⟨ha, by
    obtain ⟨u, e⟩ := (ok.hh a ha).1
    show upd g.H p o a = g.H a
    rw [upd_ne (ne_of_none e h)]⟩
theorem G.Ok.put_ok (ok : g.Ok W) (h : g.H p = none) : (g.put p o).Ok W where
  len := ok.len
  nd := ok.nd
  has := fun a ha => by
    obtain ⟨u, e⟩ := ok.has a ha
    exact ⟨u, by show upd g.H p o a = some u; rw [upd_ne (ne_of_none e h)]; exact e⟩
  hh := fun a ha => by
    obtain ⟨⟨u, e⟩, n⟩ := ok.hh a ha
    exact ⟨⟨u, by show upd g.H p o a = some u; rw [upd_ne (ne_of_none e h)]; exact e⟩, n⟩
  cell := fun r a c h1 h2 => (ok.cell r a c h1 h2).mono (ok.put_ext h).toEx0 fun u e => by show upd g.H p o a = some u; rw [upd_ne (ne_of_none e h)]; exact e
theorem G.Ok.put_nl (ok : g.Ok W) (h : g.H p = none) : ¬ (g.put p o).live p := ok.fresh h
theorem G.Ok.put_tup (ok : g.Ok W) (h : g.H p = none) {xs : List D} {vs : List V} (r : RepL W g xs vs) : Rep W (g.put p (.tup vs)) (.tup xs) (.ref p) :=
  .tup upd_same (ok.put_nl h) (r.mono (ok.put_ext h).toEx0)
theorem G.Ok.put_lst (ok : g.Ok W) (h : g.H p = none) {xs : List D} {vs : List V} (r : RepL W g xs vs) : Rep W (g.put p (.lst vs)) (.lst xs) (.ref p) :=
  .lst upd_same (ok.put_nl h) (r.mono (ok.put_ext h).toEx0)
end

abbrev Pst (W : Gam) := PostT (RepX W) W
/-- the frame's names -/
structure EnvR (W : Gam) (h0 : List Addr) (g : G) (r : Env) (s : St) : Prop where
  len : s.length = r.length
  get : ∀ (i : Nat) (d : D), r[i]? = some (some d) → ∃ v, s[i]? = some (some v) ∧ RepX W g d v
  own : ∀ (i : Nat) (xs : List D) (a : Addr), r[i]? = some (some (.own xs)) → s[i]? = some (some (.ref a)) → a ∉ h0
  inj : ∀ (i j : Nat) (xs ys : List D) (a : Addr), r[i]? = some (some (.own xs)) → r[j]? = some (some (.own ys)) → s[i]? = some (some (.ref a)) → s[j]? = some (some (.ref a)) → i = j
theorem EnvR.mono {W : Gam} {h0 : List Addr} {g g' : G} {r : Env} {s : St} (h : EnvR W h0 g r s) (x : Ext g g') : EnvR W h0 g' r s :=
  ⟨h.len, fun i d e => let ⟨v, h1, h2⟩ := h.get i d e; ⟨v, h1, h2.mono x⟩, h.own, h.inj⟩

abbrev WXD := Nat → St → Hp → Prop
/-- the reading of a run -/
def rdT {α β : Type} (T : Gam → G → α → β → Prop) (W : Gam) (h0 : List Addr) (wx : WXD) (m : Env → Ev α) (s : St) (H : Hp) (Q : β → Hp → Prop) : Prop :=
  ∃ (g : G) (r : Env), g.H = H ∧ g.Ok W ∧ EnvR W h0 g r s ∧ PostT (T W) W g (m r g.M) Q (fun c H => wx c s H)
abbrev rdE (W : Gam) (h0 : List Addr) (wx : WXD) (m : Env → Ev D) : TE := rdT RepX W h0 wx m
def RepXL (W : Gam) (g : G) : List D → List V → Prop
  | [], [] => True
  | d :: ds, v :: vs => RepX W g d v ∧ RepXL W g ds vs
  | _, _ => False
theorem RepXL.mono {W : Gam} {g g' : G} (x : Ext g g') : ∀ {ds : List D} {vs : List V}, RepXL W g ds vs → RepXL W g' ds vs
  | [], [], _ => trivial
  | _ :: _, _ :: _, ⟨h, t⟩ => ⟨h.mono x, RepXL.mono x t⟩
  | [], _ :: _, h => h.elim
  | _ :: _, [], h => h.elim

theorem PE.imp {X : Cx} {e : Expr} {t t' : TE} (h : PE X e t) (k : ∀ s H Q, t' s H Q → t s H Q) : PE X e t' := ⟨fun pins s σ H Q I q => h.run pins s σ H Q I (k _ _ _ q)⟩
theorem PT.imp {X : Cx} {e : Expr} {t t' : TT} (h : PT X e t) (k : ∀ s H Q, t' s H Q → t s H Q) : PT X e t' := ⟨fun pins s σ H Q I q => h.run pins s σ H Q I (k _ _ _ q)⟩
theorem PA.imp {X : Cx} {e : List Expr} {t t' : TA} (h : PA X e t) (k : ∀ s H Q, t' s H Q → t s H Q) : PA X e t' := ⟨fun pos pins s σ H Q I q => h.run pos pins s σ H Q I (k _ _ _ q)⟩

section
variable {W : Gam} {h0 : List Addr} {wx : WXD}
/-- one run, then what comes of it -/
theorem rd1 {α β α' β' : Type} {T : Gam → G → α → β → Prop} {T' : Gam → G → α' → β' → Prop} {m : Env → Ev α'} {k : α' → Env → Ev α} {s : St} {H : Hp} {Q : β → Hp → Prop} {Q1 : β' → Hp → Prop}
    (h : rdT T W h0 wx (fun r M => (m r M).bind fun x M1 => k x r M1) s H Q)
    (hk : ∀ (g : G) (r : Env) (d : α') (v : β'), g.Ok W → EnvR W h0 g r s → T' W g d v → PostT (T W) W g (k d r g.M) Q (fun c H => wx c s H) → Q1 v g.H) : rdT T' W h0 wx m s H Q1 := by
  obtain ⟨g, r, e, ok, er, p⟩ := h
  refine ⟨g, r, e, ok, er, PostT.bind p fun d M g' _ x e1 e2 ok' v rv q => ?_⟩
  subst e2
  exact hk g' r d v ok' (er.mono x) rv q
/-- a run from here on -/
theorem rd0 {α β : Type} {T : Gam → G → α → β → Prop} {m : Env → Ev α} {s : St} {g : G} {r : Env} {Q : β → Hp → Prop} (ok : g.Ok W) (er : EnvR W h0 g r s) (p : PostT (T W) W g (m r g.M) Q (fun c H => wx c s H)) : rdT T W h0 wx m s g.H Q := ⟨g, r, rfl, ok, er, p⟩
theorem rd2 {ma mb : Env → Ev D} {k : D → D → Ev D} {r : R2} {s : St} {H : Hp} {Q : VK}
    (hr : ∀ (g : G) (x y : D) (v u : V), g.Ok W → RepX W g x v → RepX W g y u → Pst W g (k x y g.M) Q (fun c H => wx c s H) → r v u g.H Q)
    (h : rdE W h0 wx (fun r M => (ma r M).bind fun x M1 => (mb r M1).bind fun y M2 => k x y M2) s H Q) : tOp r (rdE W h0 wx ma) (rdE W h0 wx mb) s H Q :=
  rd1 (T' := RepX) h fun g r x v ok er rx p => by
    refine ⟨g, r, rfl, ok, er, PostT.bind p fun y M g' _ x e1 e2 ok' u ru q => ?_⟩
    subst e2
    exact hr g' _ y v u ok' (rx.mono x) ru q
end

/-! #### what a plain end gives -/
section
variable {W : Gam} {g : G} {Q : VK} {X : Nat → Hp → Prop}
theorem Pst.val {d : D} {v : V} (h : Pst W g (.ok d g.M) Q X) (ok : g.Ok W) (r : RepX W g d v) : Q v g.H := h g (Ext.refl g) rfl rfl ok v r
theorem Pst.tup {xs : List D} {vs : List V} {p : Addr} (h : Pst W g (.ok (.tup xs) g.M) Q X) (ok : g.Ok W) (hp : g.H p = none) (r : RepL W g xs vs) : Q (.ref p) (upd g.H p (.tup vs)) :=
  h (g.put p (.tup vs)) (ok.put_ext hp) rfl rfl (ok.put_ok hp) _ (.inl (ok.put_tup hp r))
theorem Pst.lst {xs : List D} {vs : List V} {p : Addr} (h : Pst W g (.ok (.lst xs) g.M) Q X) (ok : g.Ok W) (hp : g.H p = none) (r : RepL W g xs vs) : Q (.ref p) (upd g.H p (.lst vs)) :=
  h (g.put p (.lst vs)) (ok.put_ext hp) rfl rfl (ok.put_ok hp) _ (.inl (ok.put_lst hp r))
theorem RepX.int {i : Int} {v : V} (h : RepX W g (.int i) v) : v = .int i := by
  cases h.rep rfl; rfl
theorem RepX.bl {b : Bool} {v : V} (h : RepX W g (.bl b) v) : v = .bl b := by
  cases h.rep rfl; rfl
theorem RepX.str {x : Str} {v : V} (h : RepX W g (.str x) v) : v = .str x := by
  cases h.rep rfl; rfl
theorem RepX.non {v : V} (h : RepX W g .non v) : v = .non := by
  cases h.rep rfl; rfl
theorem RepX.tup {xs : List D} {v : V} (h : RepX W g (.tup xs) v) : ∃ a vs, v = .ref a ∧ g.H a = some (.tup vs) ∧ ¬ g.live a ∧ RepL W g xs vs := by
  have q := h.rep rfl
  cases q with
  | tup h1 n r => exact ⟨_, _, rfl, h1, n, r⟩
end

/-! #### operators -/
section
variable {X : Cx} {W : Gam} (hK : X.K = W.K)
def rAdd4 (K : PySem.W.Frag) : R2 := fun x y H Q => (∃ i j, x = .int i ∧ y = .int j ∧ Q (.int (i + j)) H) ∨ (∃ i j, x = .str i ∧ y = .str j ∧ i.length + j.length ≤ sizeLine ∧ Q (.str (i ++ j)) H) ∨ rCatA K x y H Q ∨ rCat x y H Q
theorem op_add4 : OpR X (binaryOp .Add) (rAdd4 X.K) := op_add.or (op_add_str.or (op_catA.or op_cat))
theorem add_ok {g : G} {x y : D} {v u : V} {Q : VK} {E : Nat → Hp → Prop} (ok : g.Ok W) (rx : RepX W g x v) (ry : RepX W g y u) (h : Pst W g (ret (addD g.M x y) g.M) Q E) : rAdd4 W.K v u g.H Q := by
  unfold addD at h
  split at h
  · cases rx.int; cases ry.int
    exact .inl ⟨_, _, rfl, rfl, Pst.val h ok (.inl (.int _))⟩
  · split at h
    · rename_i hz
      cases rx.str; cases ry.str
      exact .inr (.inl ⟨_, _, rfl, rfl, hz, Pst.val h ok (.inl (.str _))⟩)
    · exact h.elim
  · split at h
    · rename_i xs ys hz
      obtain ⟨a, vs, rfl, h1, n1, r1⟩ := rx.tup
      obtain ⟨b, us, rfl, h2, n2, r2⟩ := ry.tup
      refine .inr (.inr (.inl ⟨a, b, vs, us, rfl, rfl, SqT.of h1, SqT.of h2, by rw [← r1.length, ← r2.length]; exact hz, fun e => ?_, fun _ e => ?_, fun _ _ p hp => ?_⟩))
      · have e' := r1.nil_iff.mpr e
        subst e'
        exact Pst.val (g := g) h ok (.inl (.tup h2 n2 r2))
      · have e' := r2.nil_iff.mpr e
        subst e'
        rw [List.append_nil] at h
        exact Pst.val (g := g) h ok (.inl (.tup h1 n1 r1))
      · exact Pst.tup h ok hp (r1.app r2)
    · exact h.elim
  · split at h
    · rename_i xs ys e1 e2
      split at h
      · rename_i hz
        obtain ⟨a, vs, rfl, h1, r1⟩ := rx.pview ok e1
        obtain ⟨b, us, rfl, h2, r2⟩ := ry.pview ok e2
        exact .inr (.inr (.inr ⟨a, b, vs, us, rfl, rfl, h1, h2, by rw [← r1.length, ← r2.length]; exact hz, fun p hp => Pst.lst h ok hp (r1.app r2)⟩))
      · exact h.elim
    · exact h.elim
end
section
variable {X : Cx} {W : Gam}
def rMul2 : R2 := fun x y H Q => rI CMulW (fun i j => .int (i * j)) x y H Q ∨ rRep x y H Q
theorem op_mul2 : OpR X (binaryOp .Mult) rMul2 := op_mulW.or op_rep
theorem mul_ok {g : G} {x y : D} {v u : V} {Q : VK} {E : Nat → Hp → Prop} (ok : g.Ok W) (rx : RepX W g x v) (ry : RepX W g y u) (h : Pst W g (ret (mulD g.M x y) g.M) Q E) : rMul2 v u g.H Q := by
  unfold mulD at h
  split at h
  · split at h
    · rename_i hz
      cases rx.int; cases ry.int
      exact .inl ⟨_, _, rfl, rfl, (of_decide_eq_true hz : _ < _), Pst.val h ok (.inl (.int _))⟩
    · exact h.elim
  · split at h
    · rename_i xs e1
      split at h
      · rename_i hz
        obtain ⟨a, vs, rfl, h1, r1⟩ := rx.pview ok e1
        cases ry.int
        exact .inr ⟨a, _, vs, rfl, rfl, h1, hz.1, hz.2.1, by rw [← r1.length]; exact hz.2.2, fun p hp => Pst.lst h ok hp (r1.rep _)⟩
      · exact h.elim
    · exact h.elim
  · exact h.elim
/-- the reading of a binary operator -/
def rBin (o : Operator) (K : PySem.W.Frag) : R2 := match o with
  | .Add => rAdd4 K
  | .Mult => rMul2
  | .Sub => rI0 fun i j => .int (i - j)
  | .FloorDiv => rI CDivW fun i j => .int (i / j)
  | .Mod => rI (fun _ j => 0 < j) fun i j => .int (i % j)
  | .Pow => rI CPow fun i j => .int (i ^ j.toNat)
  | _ => fun _ _ _ _ => False
theorem op_bin (o : Operator) : OpR X (binaryOp o) (rBin o X.K) := by
  cases o with
  | Add => exact op_add4
  | Mult => exact op_mul2
  | Sub => exact op_sub
  | FloorDiv => exact op_fdivW
  | Mod => exact op_mod
  | Pow => exact op_pow
  | _ => exact fun _ _ _ _ _ _ _ _ _ _ _ _ h => h.elim
theorem bin_ok {o : Operator} {g : G} {x y : D} {v u : V} {Q : VK} {E : Nat → Hp → Prop} (ok : g.Ok W) (rx : RepX W g x v) (ry : RepX W g y u) (h : Pst W g (ret (binD o g.M x y) g.M) Q E) : rBin o W.K v u g.H Q := by
  cases o with
  | Add => exact add_ok ok rx ry h
  | Mult => exact mul_ok ok rx ry h
  | Sub =>
    simp only [binD] at h
    split at h
    · cases rx.int; cases ry.int
      exact ⟨_, _, rfl, rfl, Pst.val h ok (.inl (.int _))⟩
    · exact h.elim
  | FloorDiv =>
    simp only [binD] at h
    split at h
    · split at h
      · rename_i hz
        cases rx.int; cases ry.int
        have hz := Bool.and_eq_true_iff.mp hz
        exact ⟨_, _, rfl, rfl, ⟨of_decide_eq_true hz.1, of_decide_eq_true hz.2⟩, Pst.val h ok (.inl (.int _))⟩
      · exact h.elim
    · exact h.elim
  | Mod =>
    simp only [binD] at h
    split at h
    · split at h
      · rename_i hz
        cases rx.int; cases ry.int
        exact ⟨_, _, rfl, rfl, hz, Pst.val h ok (.inl (.int _))⟩
      · exact h.elim
    · exact h.elim
  | Pow =>
    simp only [binD] at h
    split at h
    · split at h
      · rename_i hz
        cases rx.int; cases ry.int
        have hz := Bool.and_eq_true_iff.mp hz
        have hy := Bool.and_eq_true_iff.mp hz.1
        exact ⟨_, _, rfl, rfl, ⟨of_decide_eq_true hy.1, of_decide_eq_true hy.2, of_decide_eq_true hz.2⟩, Pst.val h ok (.inl (.int _))⟩
      · exact h.elim
    · exact h.elim
  | _ => exact h.elim
end

/-! #### == -/
mutual
theorem canLay_py : ∀ d : D, pyOk d = true → (toPy d).canLay0 = true
  | .str x, h => by simp only [toPy, PyData.canLay0]; exact h
  | .bl _, _ | .int _, _ | .non, _ | .ext _, _ | .dct _, _ | .ref _, _ | .exc _, _ | .fn _, _ | .own _, _ => by simp only [toPy, PyData.canLay0]
  | .tup xs, h => by simp only [toPy, PyData.canLay0]; exact canLay_pys xs h
  | .lst xs, h => by simp only [toPy, PyData.canLay0]; exact canLay_pys xs h
theorem canLay_pys : ∀ ds : List D, pyOks ds = true → PyData.canLayAll0 (toPys ds) = true
  | [], _ => rfl
  | d :: ds, h => by
    have h := Bool.and_eq_true_iff.mp h
    simp only [toPys, PyData.canLayAll0, canLay_py d h.1, canLay_pys ds h.2, Bool.and_self]
end
mutual
theorem depth_py : ∀ d : D, (toPy d).depth = dep d
  | .bl _ | .int _ | .str _ | .non | .ext _ | .dct _ | .ref _ | .exc _ | .fn _ | .own _ => rfl
  | .tup xs => by simp only [toPy, PyData.depth, dep, depth_pys xs]
  | .lst xs => by simp only [toPy, PyData.depth, dep, depth_pys xs]
theorem depth_pys : ∀ ds : List D, PyData.depthAll (toPys ds) = deps ds
  | [] => rfl
  | d :: ds => by simp only [toPys, PyData.depthAll, depth_py d, depth_pys ds, deps]
end
theorem shaped_py {d : D} (h : shD d = true) : SeqAt.shaped (toPy d) = true := by
  have h2 := Bool.and_eq_true_iff.mp h
  unfold SeqAt.shaped
  rw [canLay_py d h2.1, depth_py, h2.2]; rfl
mutual
theorem eqv_py : ∀ d e : D, pyOk d = true → pyOk e = true → PyData.eqv (toPy d) (toPy e) = eqD d e
  | .tup xs, .tup ys, h1, h2 => by simp only [toPy, PyData.eqv, eqD]; exact eqv_pys xs ys h1 h2
  | .lst xs, .lst ys, h1, h2 => by simp only [toPy, PyData.eqv, eqD]; exact eqv_pys xs ys h1 h2
  | .non, .non, _, _ | .non, .bl _, _, _ | .non, .int _, _, _ | .non, .str _, _, _ | .non, .tup _, _, _ | .non, .lst _, _, _ => by simp only [toPy, PyData.eqv, eqD]
  | .bl _, .non, _, _ | .bl _, .bl _, _, _ | .bl _, .int _, _, _ | .bl _, .str _, _, _ | .bl _, .tup _, _, _ | .bl _, .lst _, _, _ => by simp only [toPy, PyData.eqv, eqD]
  | .int _, .non, _, _ | .int _, .bl _, _, _ | .int _, .int _, _, _ | .int _, .str _, _, _ | .int _, .tup _, _, _ | .int _, .lst _, _, _ => by simp only [toPy, PyData.eqv, eqD]
  | .str _, .non, _, _ | .str _, .bl _, _, _ | .str _, .int _, _, _ | .str _, .str _, _, _ | .str _, .tup _, _, _ | .str _, .lst _, _, _ => by simp only [toPy, PyData.eqv, eqD]
  | .tup _, .non, _, _ | .tup _, .bl _, _, _ | .tup _, .int _, _, _ | .tup _, .str _, _, _ | .tup _, .lst _, _, _ => by simp only [toPy, PyData.eqv, eqD]
  | .lst _, .non, _, _ | .lst _, .bl _, _, _ | .lst _, .int _, _, _ | .lst _, .str _, _, _ | .lst _, .tup _, _, _ => by simp only [toPy, PyData.eqv, eqD]
  | .ext _, _, h, _ | .dct _, _, h, _ | .ref _, _, h, _ | .exc _, _, h, _ | .fn _, _, h, _ | .own _, _, h, _ => by cases h
  | _, .ext _, _, h | _, .dct _, _, h | _, .ref _, _, h | _, .exc _, _, h | _, .fn _, _, h | _, .own _, _, h => by cases h
theorem eqv_pys : ∀ ds es : List D, pyOks ds = true → pyOks es = true → PyData.eqvAll (toPys ds) (toPys es) = eqDs ds es
  | [], [], _, _ => by simp only [toPys, PyData.eqvAll, eqDs]
  | [], _ :: _, _, _ => by simp only [toPys, PyData.eqvAll, eqDs]
  | _ :: _, [], _, _ => by simp only [toPys, PyData.eqvAll, eqDs]
  | d :: ds, e :: es, h1, h2 => by
    have h1 := Bool.and_eq_true_iff.mp h1
    have h2 := Bool.and_eq_true_iff.mp h2
    simp only [toPys, PyData.eqvAll, eqDs, eqv_py d e h1.1 h2.1, eqv_pys ds es h1.2 h2.2]
end
section
variable {W : Gam} {g : G}
mutual
theorem Rep.dp : ∀ (d : D) (v : V), Rep W g d v → pyOk d = true → Dp W.K g.H v (toPy d)
  | .non, _, r, _ => by cases r; exact .non
  | .bl b, _, r, _ => by cases r; exact .bl b
  | .int i, _, r, _ => by cases r; exact .int i
  | .str x, _, r, _ => by cases r; exact .str x
  | .tup xs, _, r, q => by
    cases r with
    | tup h _ r => exact .tup (SqT.of h) (RepL.dp xs _ r q)
  | .lst xs, _, r, q => by
    cases r with
    | lst h _ r => exact .lst (SqL.of h) (RepL.dp xs _ r q)
  | .ext _, _, _, h | .dct _, _, _, h | .ref _, _, _, h | .exc _, _, _, h | .fn _, _, _, h | .own _, _, _, h => by cases h
theorem RepL.dp : ∀ (ds : List D) (vs : List V), RepL W g ds vs → pyOks ds = true → DpAll W.K g.H vs (toPys ds)
  | [], _, r, _ => by cases r; exact .nil
  | d :: ds, _, r, q => by
    cases r with
    | cons r t => exact .cons (Rep.dp d _ r (Bool.and_eq_true_iff.mp q).1) (RepL.dp ds _ t (Bool.and_eq_true_iff.mp q).2)
end
theorem RepX.dp {d : D} {v : V} (ok : g.Ok W) (h : RepX W g d v) (q : pyOk (nrm g.M d) = true) : Dp W.K g.H v (toPy (nrm g.M d)) := by
  cases e : L2.Z.lview g.M d with
  | none =>
    have e1 : nrm g.M d = d := by unfold nrm; rw [e]
    rw [e1] at q ⊢
    exact Rep.dp _ _ (h.rep (by cases d <;> first | rfl | cases q)) q
  | some xs =>
    have e1 : nrm g.M d = .lst xs := by unfold nrm; rw [e]
    rw [e1] at q ⊢
    obtain ⟨a, vs, rfl, h1, r⟩ := h.lview ok e
    exact .lst h1 (RepL.dp _ _ r q)
theorem RepX.eqD {x y : D} {v u : V} (ok : g.Ok W) (rx : RepX W g x v) (ry : RepX W g y u) (hs : (shD (nrm g.M x) && shD (nrm g.M y)) = true) :
    ∃ d e, Dp W.K g.H v d ∧ Dp W.K g.H u e ∧ SeqAt.shaped d = true ∧ SeqAt.shaped e = true ∧ PyData.eqv d e = L2.Z.eqD (nrm g.M x) (nrm g.M y) := by
  have hs := Bool.and_eq_true_iff.mp hs
  have p1 := (Bool.and_eq_true_iff.mp hs.1).1
  have p2 := (Bool.and_eq_true_iff.mp hs.2).1
  exact ⟨_, _, rx.dp ok p1, ry.dp ok p2, shaped_py hs.1, shaped_py hs.2, eqv_py _ _ p1 p2⟩
end

section
variable {W : Gam} {g : G}
theorem RepX.non_iff {d : D} {v : V} (h : RepX W g d v) : v = .non ↔ d = .non := by
  rcases h with h | ⟨xs, a, vs, e1, e2, _⟩
  · cases h <;> simp
  · subst e1 e2; simp
theorem Rep.flat {d : D} {v : V} (h : Rep W g d v) (f : flatD d = true) : flatV v = true := by
  cases h <;> first | rfl | cases f
theorem RepX.flat {d : D} {v : V} (h : RepX W g d v) (f : flatD d = true) : flatV v = true ∧ Rep W g d v := by
  have h := h.rep (by cases d <;> first | rfl | cases f)
  exact ⟨h.flat f, h⟩
theorem Rep.eqV {d e : D} {v u : V} (h : Rep W g d v) (h' : Rep W g e u) (f : flatD d = true) (f' : flatD e = true) : L2.eqV v u = L2.Z.eqD d e := by
  cases h <;> first
    | (have z : false = true := f; cases z; done)
    | (cases h' <;> first
      | (have z : false = true := f'; cases z; done)
      | (simp only [L2.eqV, L2.Z.eqD]))
theorem RepL.flat : ∀ {ds : List D} {vs : List V}, RepL W g ds vs → ds.all flatD = true → vs.all flatV = true
  | _, _, .nil, _ => rfl
  | _, _, .cons r t, f => by
    simp only [List.all_cons, Bool.and_eq_true] at f ⊢
    exact ⟨r.flat f.1, RepL.flat t f.2⟩
theorem RepL.inV {x : D} {u : V} (rx : Rep W g x u) (fx : flatD x = true) : ∀ {ds : List D} {vs : List V}, RepL W g ds vs → ds.all flatD = true → L2.inV u vs = ds.any fun z => L2.Z.eqD z x
  | _, _, .nil, _ => rfl
  | _, _, .cons r t, f => by
    simp only [List.all_cons, Bool.and_eq_true] at f
    have ih := RepL.inV rx fx t f.2
    unfold L2.inV at ih ⊢
    simp only [List.any_cons, r.eqV rx f.1 fx, ih]
theorem any_py (x : D) (hx : pyOk x = true) : ∀ ys : List D, pyOks ys = true → ((toPys ys).any fun z => PyData.eqv z (toPy x)) = ys.any fun z => L2.Z.eqD z x
  | [], _ => rfl
  | y :: ys, h => by
    have h := Bool.and_eq_true_iff.mp h
    simp only [toPys, List.any_cons, eqv_py y x h.1 hx, any_py x hx ys h.2]
theorem str_one {a : Str} {c : Nat} (h : a.cps.toList = [c]) : a = ⟨#[c]⟩ := by
  obtain ⟨⟨l⟩⟩ := a
  simp only at h
  rw [h]
end

def rCmp (o : CmpOp) (K : PySem.W.Frag) : R2 := match o with
  | .Eq => rEqD K
  | .NotEq => rNeD K
  | .Lt => fun x y H Q => rI0 (fun i j => .bl (decide (i < j))) x y H Q ∨ (∃ i j, x = .str i ∧ y = .str j ∧ Q (.bl (decide (i.cps.toList < j.cps.toList))) H)
  | .LtE => rI0 fun i j => .bl (decide (i ≤ j))
  | .Gt => rI0 fun i j => .bl (decide (j < i))
  | .GtE => rI0 fun i j => .bl (decide (j ≤ i))
  | .In => fun x y H Q => rIn K false x y H Q ∨ rInD K x y H Q ∨ (∃ (c : Nat) (z : Str), x = .str ⟨#[c]⟩ ∧ y = .str z ∧ Q (.bl (decide (c ∈ z.cps.toList))) H)
  | .NotIn => fun x y H Q => rIn K true x y H Q ∨ rNotInD K x y H Q
  | .Is => fun x y H Q => (y = .non ∧ Q (.bl (decide (x = .non))) H) ∨ (∃ a b, x = .bl a ∧ y = .bl b ∧ Q (.bl (decide (a = b))) H)
  | .IsNot => fun x y H Q => (y = .non ∧ Q (.bl (!decide (x = .non))) H) ∨ (∃ a b, x = .bl a ∧ y = .bl b ∧ Q (.bl (!decide (a = b))) H)
theorem op_cmp {X : Cx} (o : CmpOp) (hu : X.A.units + 65 < cLine) : OpR X (compareOp o) (rCmp o X.K) := by
  cases o with
  | Eq => exact op_eqD (by omega)
  | NotEq => exact op_neD (by omega)
  | Lt => exact op_lt.or op_lt_str
  | LtE => exact op_le
  | Gt => exact op_gt
  | GtE => exact op_ge
  | In => exact op_in_seq.or ((op_inD hu).or op_in_sign)
  | NotIn => exact op_notIn_seq.or (op_notInD hu)
  | Is => exact op_isN.or op_is_bl
  | IsNot => exact op_notN.or op_isnot_bl
theorem in_ok {W : Gam} {g : G} {x y : D} {v u : V} {b : Bool} (ok : g.Ok W) (rx : RepX W g x v) (ry : RepX W g y u) (h : inD g.M x y = some b) :
    (∃ p xs, u = .ref p ∧ (SqL W.K g.H p xs ∨ SqT W.K g.H p xs) ∧ flatV v = true ∧ xs.all flatV = true ∧ inV v xs = b) ∨
    (∃ d ds, Dp W.K g.H v d ∧ Dp W.K g.H u (.list ds) ∧ SeqAt.shaped d = true ∧ SeqAt.shaped (.list ds) = true ∧ (ds.any fun z => PyData.eqv z d) = b) ∨
    (∃ (c : Nat) (z : Str), v = .str ⟨#[c]⟩ ∧ u = .str z ∧ y = .str z ∧ decide (c ∈ z.cps.toList) = b) := by
  unfold inD at h
  split at h
  · split at h
    · rename_i ys hf
      have hf := Bool.and_eq_true_iff.mp hf
      obtain ⟨p, vs, rfl, h1, n1, r1⟩ := ry.tup
      obtain ⟨f1, r2⟩ := rx.flat hf.1
      exact .inl ⟨p, vs, rfl, .inr (SqT.of h1), f1, r1.flat hf.2, (r1.inV r2 hf.1 hf.2).trans (Option.some.inj h)⟩
    · cases h
  · split at h
    · split at h
      · rename_i c hc
        cases rx.str; cases ry.str
        have e := str_one hc
        subst e
        exact .inr (.inr ⟨c, _, rfl, rfl, rfl, Option.some.inj h⟩)
      · cases h
    · cases h
  · split at h
    · rename_i ys e1
      split at h
      · rename_i hs
        have hs := Bool.and_eq_true_iff.mp hs
        have p1 := (Bool.and_eq_true_iff.mp hs.1).1
        have p2 := (Bool.and_eq_true_iff.mp hs.2).1
        obtain ⟨a, vs, rfl, h1, r⟩ := ry.lview ok e1
        refine .inr (.inl ⟨toPy x, toPys ys, ?_, .lst h1 (RepL.dp _ _ r p2), shaped_py hs.1, ?_, (any_py x p1 ys p2).trans (Option.some.inj h)⟩)
        · exact Rep.dp _ _ (rx.rep (by cases x <;> first | rfl | cases p1)) p1
        · exact shaped_py (d := .lst ys) hs.2
      · cases h
    · cases h
theorem cmp_ok {W : Gam} {o : CmpOp} {g : G} {x y : D} {v u : V} {Q : VK} {E : Nat → Hp → Prop} (ok : g.Ok W) (rx : RepX W g x v) (ry : RepX W g y u) (h : Pst W g (retB (cmpD o g.M x y) g.M) Q E) : rCmp o W.K v u g.H Q := by
  cases o with
  | Eq =>
    simp only [cmpD] at h
    split at h
    · rename_i hs
      obtain ⟨d, e, h1, h2, h3, h4, h5⟩ := rx.eqD ok ry hs
      exact ⟨d, e, h1, h2, h3, h4, by rw [h5]; exact Pst.val (g := g) h ok (.inl (.bl _))⟩
    · exact h.elim
  | NotEq =>
    simp only [cmpD] at h
    split at h
    · rename_i hs
      obtain ⟨d, e, h1, h2, h3, h4, h5⟩ := rx.eqD ok ry hs
      exact ⟨d, e, h1, h2, h3, h4, by rw [h5]; exact Pst.val (g := g) h ok (.inl (.bl _))⟩
    · exact h.elim
  | Lt =>
    simp only [cmpD] at h
    split at h
    · cases rx.int; cases ry.int
      exact .inl ⟨_, _, rfl, rfl, Pst.val (g := g) h ok (.inl (.bl _))⟩
    · cases rx.str; cases ry.str
      exact .inr ⟨_, _, rfl, rfl, Pst.val (g := g) h ok (.inl (.bl _))⟩
    · exact h.elim
  | LtE =>
    simp only [cmpD] at h
    split at h
    · cases rx.int; cases ry.int
      exact ⟨_, _, rfl, rfl, Pst.val (g := g) h ok (.inl (.bl _))⟩
    · exact h.elim
  | Gt =>
    simp only [cmpD] at h
    split at h
    · cases rx.int; cases ry.int
      exact ⟨_, _, rfl, rfl, Pst.val (g := g) h ok (.inl (.bl _))⟩
    · exact h.elim
  | GtE =>
    simp only [cmpD] at h
    split at h
    · cases rx.int; cases ry.int
      exact ⟨_, _, rfl, rfl, Pst.val (g := g) h ok (.inl (.bl _))⟩
    · exact h.elim
  | In =>
    simp only [cmpD] at h
    cases e : inD g.M x y with
    | none => rw [e] at h; exact h.elim
    | some b =>
      rw [e] at h
      have q : Q (.bl b) g.H := Pst.val (g := g) h ok (.inl (.bl _))
      rcases in_ok ok rx ry e with ⟨p, xs, h1, h2, h3, h4, h5⟩ | ⟨d, ds, h1, h2, h3, h4, h5⟩ | ⟨c, z, h1, h2, _, h5⟩
      · exact .inl ⟨p, xs, h1, h2, h3, h4, by rw [if_neg (by decide), h5]; exact q⟩
      · exact .inr (.inl ⟨d, ds, h1, h2, h3, h4, by rw [h5]; exact q⟩)
      · exact .inr (.inr ⟨c, z, h1, h2, by rw [h5]; exact q⟩)
  | NotIn =>
    simp only [cmpD] at h
    split at h
    · exact h.elim
    · rename_i hy
      cases e : inD g.M x y with
      | none => rw [e] at h; exact h.elim
      | some b =>
        rw [e] at h
        have q : Q (.bl (!b)) g.H := Pst.val (g := g) h ok (.inl (.bl _))
        rcases in_ok ok rx ry e with ⟨p, xs, h1, h2, h3, h4, h5⟩ | ⟨d, ds, h1, h2, h3, h4, h5⟩ | ⟨c, z, h1, h2, h6, h5⟩
        · exact .inl ⟨p, xs, h1, h2, h3, h4, by rw [if_pos rfl, h5]; exact q⟩
        · exact .inr ⟨d, ds, h1, h2, h3, h4, by rw [h5]; exact q⟩
        · exact absurd h6 (hy z)
  | Is =>
    simp only [cmpD] at h
    split at h
    · cases ry.non
      refine .inl ⟨rfl, ?_⟩
      have q : Q (.bl _) g.H := Pst.val (g := g) h ok (.inl (.bl _))
      have e : decide (v = .non) = isNon x := by
        by_cases hv : v = .non
        · have := rx.non_iff.mp hv
          subst this; simp [hv, isNon]
        · have hx : x ≠ .non := fun z => hv (rx.non_iff.mpr z)
          rw [decide_eq_false hv]
          cases x <;> first | rfl | exact absurd rfl hx
      rw [e]; exact q
    · split at h
      · cases rx.bl; cases ry.bl
        exact .inr ⟨_, _, rfl, rfl, by rw [← Bool.beq_eq_decide_eq]; exact Pst.val (g := g) h ok (.inl (.bl _))⟩
      · exact h.elim
    · exact h.elim
  | IsNot =>
    simp only [cmpD] at h
    split at h
    · cases ry.non
      refine .inl ⟨rfl, ?_⟩
      have q : Q (.bl _) g.H := Pst.val (g := g) h ok (.inl (.bl _))
      have e : (!decide (v = .non)) = !isNon x := by
        by_cases hv : v = .non
        · have := rx.non_iff.mp hv
          subst this; simp [hv, isNon]
        · have hx : x ≠ .non := fun z => hv (rx.non_iff.mpr z)
          rw [decide_eq_false hv]
          cases x <;> first | rfl | exact absurd rfl hx
      rw [e]; exact q
    · split at h
      · cases rx.bl; cases ry.bl
        exact .inr ⟨_, _, rfl, rfl, by rw [← Bool.beq_eq_decide_eq]; exact Pst.val (g := g) h ok (.inl (.bl _))⟩
      · exact h.elim
    · exact h.elim

/-! #### isinstance -/
structure Facts (W : Gam) (sub : Nat → Nat → Bool) : Prop where
  exc : ∀ (c : Nat) (x : Str), W.ct c = some x → ExcC W.K (W.ca c)
  kit : ∀ (c e : Nat) (x y : Str), W.ct c = some x → W.ct e = some y → PySem.W.kitOne W.K (.ref (W.ca e)) (.ref (W.ca c)) = some (sub e c)
  kitV : ∀ (e : Nat) (y : Str), W.ct e = some y → PySem.W.kitOne W.K (.ref (W.ca e)) (.type "ValueError") = some true
def rIsX (W : Gam) : List V → Hp → VK → Prop := fun xs H Q => ∃ (a : Addr) (e : Nat) (c : V) (u : Value) (b : Bool), xs = [.ref a, c] ∧ ClsV c u ∧ H a = some (ExD (.ref (W.ca e)) a) ∧ ExcC W.K (W.ca e) ∧ PySem.W.kitOne W.K (.ref (W.ca e)) u = some b ∧ Q (.bl b) H
theorem CallR.or {X : Cx} {f : Value} {r r' : List V → Hp → VK → Prop} (h : CallR X f r) (h' : CallR X f r') : CallR X f (fun xs H Q => r xs H Q ∨ r' xs H Q) := by
  intro pins s σ H xs us Q I rv q
  rcases q with q | q
  · exact h pins s σ H xs us Q I rv q
  · exact h' pins s σ H xs us Q I rv q
theorem call_isX {X : Cx} {W : Gam} (hK : X.K = W.K) : CallR X (.builtin "isinstance") (rIsX W) := by
  intro pins s σ H xs us Q I r h
  obtain ⟨a, e, c, u, b, rfl, k, ha, C, ek, q⟩ := h
  obtain ⟨u1, u2, rfl, r1, r2⟩ := vals2 r
  have e2 := k.eq r2
  subst e2
  cases (show u1 = Value.ref a from r1)
  obtain ⟨⟨oe, vs, hget, hz, hv⟩, _⟩ := I.hok a _ ha
  have J : PySem.W.InstAt s.heap a oe (W.ca e) none := by
    obtain ⟨oc, od, oda, osl⟩ := oe
    obtain ⟨h1, h2⟩ := hz
    dsimp only at h1 h2 hv
    subst h1 h2 hv
    exact ⟨hget, rfl, rfl, trivial⟩
  rw [← hK] at C ek
  exact PySem.W.kia_one (PySem.W.handS_kitx_exc C.hg C.hk C.hs C.hd C.ha C.hn C.ht C.hm) I.kIn J ek (fun z => nomatch z) fun tk => ⟨.bl b, H, I.kept (t' := tk) fun _ _ z => z, rfl, q⟩
def Ty.v (W : Gam) : Ty → V
  | .int => .ty "int"
  | .bool => .ty "bool"
  | .str => .ty "str"
  | .tuple => .ty "tuple"
  | .list => .ty "list"
  | .dict => .ty "dict"
  | .own c _ => .ref (W.ca c)
  | .valueError => .ty "ValueError"
def Ty.ok (W : Gam) : Ty → Bool
  | .own c x => decide (W.ct c = some x)
  | _ => true
def tyOf : D → Option String
  | .non => some "NoneType"
  | .bl _ => some "bool"
  | .int _ => some "int"
  | .str _ => some "str"
  | .tup _ => some "tuple"
  | .lst _ => some "list"
  | .dct _ => some "dict"
  | _ => none
theorem Rep.tyx {W : Gam} {g : G} {d : D} {v : V} {t : String} (h : Rep W g d v) (e : tyOf d = some t) : TyX W.K g.H v (.type t) := by
  cases h with
  | non => cases e; exact .base .non
  | bl b => cases e; exact .base (.bl b)
  | int i => cases e; exact .base (.int i)
  | str x => cases e; exact .base (.str x)
  | tup h _ _ => cases e; exact .base (.tup h)
  | lst h _ _ => cases e; exact .base (.lst h)
  | dct h _ _ => cases e; exact .base (.dK h)
  | _ => cases e
def rIs2 (W : Gam) : List V → Hp → VK → Prop := fun xs H Q => rIsi W.K xs H Q ∨ rIsX W xs H Q
theorem call_is2 {X : Cx} {W : Gam} (hK : X.K = W.K) : CallR X (.builtin "isinstance") (rIs2 W) := by
  have h : CallR X (.builtin "isinstance") (rIsi X.K) := call_isi
  rw [hK] at h
  exact CallR.or h (call_isX hK)
theorem isi_ty {t d : String} {b : Bool} {W : Gam} {g : G} {x : D} {v : V} {Q : VK} (r : Rep W g x v) (e : tyOf x = some d) (k : kitB d t = some b) (q : Q (.bl b) g.H) : rIs2 W [v, .ty t] g.H Q :=
  .inl ⟨v, .ty t, .type d, .type t, b, rfl, .ty t, r.tyx e, kit_ty k, q⟩
theorem isi_ok {W : Gam} {sub : Nat → Nat → Bool} (F : Facts W sub) {t : Ty} (ht : t.ok W = true) {g : G} {x : D} {v : V} {Q : VK} {E : Nat → Hp → Prop} (ok : g.Ok W) (rx : RepX W g x v) (h : Pst W g (retB (isiD sub g.M t x) g.M) Q E) : rIs2 W [v, t.v W] g.H Q := by
  have fin : ∀ (b : Bool), isiD sub g.M t x = some b → Q (.bl b) g.H := fun b e => by
    rw [e] at h
    exact Pst.val (g := g) h ok (.inl (.bl _))
  have bad : isiD sub g.M t x = none → False := fun e => by
    rw [e] at h
    exact h
  cases x with
  | ext xs => exact (bad (by cases t <;> rfl)).elim
  | ref r => exact (bad (by cases t <;> rfl)).elim
  | fn f => exact (bad (by cases t <;> rfl)).elim
  | own xs => exact (bad (by cases t <;> rfl)).elim
  | exc e =>
    have r := rx.rep rfl
    cases r with
    | exc ha _ hc =>
      obtain ⟨y, hy⟩ := Option.isSome_iff_exists.mp hc
      cases t with
      | own c z =>
        have hz : W.ct c = some z := of_decide_eq_true ht
        exact .inr ⟨_, e, _, _, sub e c, rfl, .own _, ha, F.exc e y hy, F.kit c e z y hz hy, fin _ rfl⟩
      | valueError => exact .inr ⟨_, e, _, _, true, rfl, .ty _, ha, F.exc e y hy, F.kitV e y hy, fin _ rfl⟩
      | _ => exact (bad rfl).elim
  | non => cases t <;> first | exact isi_ty (rx.rep rfl) rfl (by decide +kernel) (fin _ rfl) | exact (bad rfl).elim
  | bl b => cases t <;> first | exact isi_ty (rx.rep rfl) rfl (by decide +kernel) (fin _ rfl) | exact (bad rfl).elim
  | int i => cases t <;> first | exact isi_ty (rx.rep rfl) rfl (by decide +kernel) (fin _ rfl) | exact (bad rfl).elim
  | str i => cases t <;> first | exact isi_ty (rx.rep rfl) rfl (by decide +kernel) (fin _ rfl) | exact (bad rfl).elim
  | tup i => cases t <;> first | exact isi_ty (rx.rep rfl) rfl (by decide +kernel) (fin _ rfl) | exact (bad rfl).elim
  | lst i => cases t <;> first | exact isi_ty (rx.rep rfl) rfl (by decide +kernel) (fin _ rfl) | exact (bad rfl).elim
  | dct i => cases t <;> first | exact isi_ty (rx.rep rfl) rfl (by decide +kernel) (fin _ rfl) | exact (bad rfl).elim
end L2.Z
set_option Elab.async false
set_option linter.all false
set_option maxRecDepth 100000
set_option maxHeartbeats 1000000
/-! ### soundness: built-ins -/
namespace L2.Z
open PySem PySem.Spec PyProof.Rows

section
variable {W : Gam} {g : G}
theorem bls_rep : ∀ {ds : List D} {vs : List V} {bs : List Bool}, RepL W g ds vs → bls ds = some bs → vs = bs.map V.bl
  | _, _, _, .nil, e => by cases e; rfl
  | d :: ds, _, bs, .cons r t, e => by
    unfold bls at e
    split at e
    · rename_i b cs e1 e2
      cases e
      cases d <;> first | (cases e1; done) | skip
      cases e1
      cases r
      rw [bls_rep t e2]; rfl
    · cases e
theorem ints_rep : ∀ {ds : List D} {vs : List V} {bs : List Int}, RepL W g ds vs → intsD ds = some bs → vs = bs.map V.int
  | _, _, _, .nil, e => by cases e; rfl
  | d :: ds, _, bs, .cons r t, e => by
    unfold intsD at e
    split at e
    · rename_i b cs e1 e2
      cases e
      cases d <;> first | (cases e1; done) | skip
      cases e1
      cases r
      rw [ints_rep t e2]; rfl
    · cases e
theorem foldMax : ∀ (l : List Int) (x m : Int), m ∈ x :: l → (∀ y ∈ x :: l, y ≤ m) → l.foldl (fun m y => if m < y then y else m) x = m
  | [], x, m, h1, _ => by simp at h1; exact h1.symm
  | y :: l, x, m, h1, h2 => by
    rw [List.foldl_cons]
    refine foldMax l _ m ?_ ?_
    · have hx := h2 x (by simp)
      have hy := h2 y (by simp)
      rcases List.mem_cons.mp h1 with h | h
      · subst h; rw [if_neg (by omega)]; simp
      · rcases List.mem_cons.mp h with h | h
        · subst h
          split
          · simp
          · have e : x = m := by omega
            subst e; simp
        · exact List.mem_cons_of_mem _ h
    · intro z hz
      rcases List.mem_cons.mp hz with h | h
      · subst h; split
        · exact h2 _ (by simp)
        · exact h2 _ (by simp)
      · exact h2 z (by simp [h])
theorem foldMin : ∀ (l : List Int) (x m : Int), m ∈ x :: l → (∀ y ∈ x :: l, m ≤ y) → l.foldl (fun m y => if y < m then y else m) x = m
  | [], x, m, h1, _ => by simp at h1; exact h1.symm
  | y :: l, x, m, h1, h2 => by
    rw [List.foldl_cons]
    refine foldMin l _ m ?_ ?_
    · have hx := h2 x (by simp)
      have hy := h2 y (by simp)
      rcases List.mem_cons.mp h1 with h | h
      · subst h; rw [if_neg (by omega)]; simp
      · rcases List.mem_cons.mp h with h | h
        · subst h
          split
          · simp
          · have e : x = m := by omega
            subst e; simp
        · exact List.mem_cons_of_mem _ h
    · intro z hz
      rcases List.mem_cons.mp hz with h | h
      · subst h; split
        · exact h2 _ (by simp)
        · exact h2 _ (by simp)
      · exact h2 z (by simp [h])
end
def rBlt (K : PySem.W.Frag) (b : Blt) : List V → Hp → VK → Prop := match b with
  | .len => fun xs H Q => ∃ x n, xs = [x] ∧ LenV K x H n ∧ Q (.int n) H
  | .abs => fun xs H Q => ∃ i, xs = [.int i] ∧ Q (.int (if i < 0 then -i else i)) H
  | .max2 => fun xs H Q => ∃ i j, xs = [.int i, .int j] ∧ Q (.int (if j > i then j else i)) H
  | .min2 => fun xs H Q => ∃ i j, xs = [.int i, .int j] ∧ Q (.int (if j < i then j else i)) H
  | .all => rAll K
  | .any => rAny K
  | .sum => rSum K
  | .list => fun xs H Q => ∃ p ys, xs = [.ref p] ∧ (SqL K H p ys ∨ SqT K H p ys) ∧ ∀ l, H l = none → Q (.ref l) (upd H l (.lst ys))
  | .tuple => fun xs H Q => ∃ p ys, xs = [.ref p] ∧ ((SqL K H p ys ∧ ∀ l, H l = none → Q (.ref l) (upd H l (.tup ys))) ∨ (SqT K H p ys ∧ Q (.ref p) H))
  | .max1 => rMax K
  | .min1 => rMin K
theorem RepXL.one {W : Gam} {g : G} {d : D} {vs : List V} (h : RepXL W g [d] vs) : ∃ v, vs = [v] ∧ RepX W g d v := by
  match vs, h with
  | [v], h => exact ⟨v, rfl, h.1⟩
theorem RepXL.two {W : Gam} {g : G} {d e : D} {vs : List V} (h : RepXL W g [d, e] vs) : ∃ v u, vs = [v, u] ∧ RepX W g d v ∧ RepX W g e u := by
  match vs, h with
  | [v, u], h => exact ⟨v, u, rfl, h.1, h.2.1⟩
theorem blt_ok {W : Gam} {b : Blt} {g : G} {ds : List D} {vs : List V} {Q : VK} {E : Nat → Hp → Prop} (ok : g.Ok W) (rx : RepXL W g ds vs) (h : Pst W g (ret (bltD b g.M ds) g.M) Q E) : rBlt W.K b vs g.H Q := by
  have fin : ∀ (d : D) (v : V), bltD b g.M ds = some d → RepX W g d v → Q v g.H := fun d v e r => by
    rw [e] at h
    exact Pst.val (g := g) h ok r
  cases e : bltD b g.M ds with
  | none => rw [e] at h; exact h.elim
  | some d =>
    rw [e] at h
    unfold bltD at e
    split at e
    · rename_i d0
      obtain ⟨v, rfl, r⟩ := rx.one
      split at e
      · split at e
        · rename_i hz
          cases e; cases r.str
          exact ⟨_, _, rfl, ⟨hz, rfl⟩, Pst.val (g := g) h ok (.inl (.int _))⟩
        · cases e
      · cases e
        obtain ⟨a, us, rfl, h1, _, r1⟩ := r.tup
        refine ⟨_, us.length, rfl, .inr ⟨us, SqT.of h1, rfl⟩, ?_⟩
        rw [← r1.length]
        exact Pst.val (g := g) h ok (.inl (.int _))
      · cases e2 : lview g.M d0 with
        | none => rw [e2] at e; cases e
        | some xs =>
          rw [e2] at e; cases e
          obtain ⟨a, us, rfl, h1, r1⟩ := r.lview ok e2
          refine ⟨_, us.length, rfl, .inl ⟨us, h1, rfl⟩, ?_⟩
          rw [← r1.length]
          exact Pst.val (g := g) h ok (.inl (.int _))
    · obtain ⟨v, rfl, r⟩ := rx.one
      cases e; cases r.int
      exact ⟨_, rfl, Pst.val (g := g) h ok (.inl (.int _))⟩
    · obtain ⟨v, u, rfl, r, r'⟩ := rx.two
      cases e; cases r.int; cases r'.int
      exact ⟨_, _, rfl, Pst.val (g := g) h ok (.inl (.int _))⟩
    · obtain ⟨v, u, rfl, r, r'⟩ := rx.two
      cases e; cases r.int; cases r'.int
      exact ⟨_, _, rfl, Pst.val (g := g) h ok (.inl (.int _))⟩
    · obtain ⟨v, rfl, r⟩ := rx.one
      rename_i d0
      cases e2 : lview g.M d0 with
      | none => rw [e2] at e; cases e
      | some xs =>
        rw [e2] at e
        cases e3 : bls xs with
        | none => simp [e3] at e
        | some bs =>
          simp [e3] at e; cases e
          obtain ⟨a, us, rfl, h1, r1⟩ := r.lview ok e2
          rw [bls_rep r1 e3] at h1
          exact ⟨a, bs, rfl, h1, Pst.val (g := g) h ok (.inl (.bl _))⟩
    · obtain ⟨v, rfl, r⟩ := rx.one
      rename_i d0
      cases e2 : lview g.M d0 with
      | none => rw [e2] at e; cases e
      | some xs =>
        rw [e2] at e
        cases e3 : bls xs with
        | none => simp [e3] at e
        | some bs =>
          simp [e3] at e; cases e
          obtain ⟨a, us, rfl, h1, r1⟩ := r.lview ok e2
          rw [bls_rep r1 e3] at h1
          exact ⟨a, bs, rfl, h1, Pst.val (g := g) h ok (.inl (.bl _))⟩
    · obtain ⟨v, rfl, r⟩ := rx.one
      rename_i d0
      cases e2 : lview g.M d0 with
      | none => rw [e2] at e; cases e
      | some xs =>
        rw [e2] at e
        cases e3 : intsD xs with
        | none => simp [e3] at e
        | some bs =>
          simp [e3] at e; cases e
          obtain ⟨a, us, rfl, h1, r1⟩ := r.lview ok e2
          rw [ints_rep r1 e3] at h1
          exact ⟨a, bs, rfl, h1, Pst.val (g := g) h ok (.inl (.int _))⟩
    · rename_i d0
      obtain ⟨v, rfl, r⟩ := rx.one
      split at e
      · cases e
        obtain ⟨a, us, rfl, h1, _, r1⟩ := r.tup
        exact ⟨a, us, rfl, .inr (SqT.of h1), fun l hl => Pst.lst h ok hl r1⟩
      · cases e2 : lview g.M d0 with
        | none => rw [e2] at e; cases e
        | some xs =>
          rw [e2] at e; cases e
          obtain ⟨a, us, rfl, h1, r1⟩ := r.lview ok e2
          exact ⟨a, us, rfl, .inl h1, fun l hl => Pst.lst h ok hl r1⟩
    · rename_i d0
      obtain ⟨v, rfl, r⟩ := rx.one
      split at e
      · cases e
        obtain ⟨a, us, rfl, h1, n1, r1⟩ := r.tup
        exact ⟨a, us, rfl, .inr ⟨SqT.of h1, Pst.val (g := g) h ok (.inl (.tup h1 n1 r1))⟩⟩
      · cases e2 : lview g.M d0 with
        | none => rw [e2] at e; cases e
        | some xs =>
          rw [e2] at e; cases e
          obtain ⟨a, us, rfl, h1, r1⟩ := r.lview ok e2
          exact ⟨a, us, rfl, .inl ⟨h1, fun l hl => Pst.tup h ok hl r1⟩⟩
    · obtain ⟨v, rfl, r⟩ := rx.one
      rename_i d0
      cases e2 : lview g.M d0 with
      | none => rw [e2] at e; cases e
      | some xs =>
        rw [e2] at e
        cases e3 : intsD xs with
        | none => simp [e3] at e
        | some bs =>
          cases bs with
          | nil => simp [e3, maxL] at e
          | cons b0 bs =>
            simp [e3, maxL] at e; cases e
            obtain ⟨a, us, rfl, h1, r1⟩ := r.lview ok e2
            rw [ints_rep r1 e3] at h1
            refine ⟨a, b0 :: bs, rfl, h1, by simp, fun m hm hle => ?_⟩
            rw [← foldMax bs b0 m hm hle]
            exact Pst.val (g := g) h ok (.inl (.int _))
    · obtain ⟨v, rfl, r⟩ := rx.one
      rename_i d0
      cases e2 : lview g.M d0 with
      | none => rw [e2] at e; cases e
      | some xs =>
        rw [e2] at e
        cases e3 : intsD xs with
        | none => simp [e3] at e
        | some bs =>
          cases bs with
          | nil => simp [e3, minL] at e
          | cons b0 bs =>
            simp [e3, minL] at e; cases e
            obtain ⟨a, us, rfl, h1, r1⟩ := r.lview ok e2
            rw [ints_rep r1 e3] at h1
            refine ⟨a, b0 :: bs, rfl, h1, by simp, fun m hm hle => ?_⟩
            rw [← foldMin bs b0 m hm hle]
            exact Pst.val (g := g) h ok (.inl (.int _))
    · cases e
/-! a call of a built-in by its name -/
def Blt.val : Blt → Value
  | .list => .type "list"
  | .tuple => .type "tuple"
  | .len => .builtin "len"
  | .abs => .builtin "abs"
  | .max2 => .builtin "max"
  | .min2 => .builtin "min"
  | .all => .builtin "all"
  | .any => .builtin "any"
  | .sum => .builtin "sum"
  | .max1 => .builtin "max"
  | .min1 => .builtin "min"
theorem call_blt {X : Cx} (b : Blt) (hc : X.calm = true) : CallR X b.val (rBlt X.K b) := by
  cases b with
  | len => exact call_len
  | abs => exact call_abs
  | max2 => exact call_max2 hc
  | min2 => exact call_min2 hc
  | all => exact cr_all hc
  | any => exact cr_any hc
  | sum => exact cr_sum hc
  | list => exact call_list_of
  | tuple => exact call_tuple_of
  | max1 => exact cr_max hc
  | min1 => exact cr_min hc
theorem boot_blt (b : Blt) : bootBuiltins b.name = some b.val := by cases b <;> decide +kernel
theorem pe_blt {X : Cx} {b : Blt} {p pos : Pos} {e : Expr} {es : List Expr} {t : TA} (hc : X.calm = true) (hg : Gl X b.name) (hm : X.mg b.name = none) (ha : PA X (e :: es) t)
    (he : starEach (e :: es) X.env = (false, eval e X.env) :: starEach es X.env) (hpl : (backTo pos (starEach es X.env)).any (·.1) = false) : PE X (.Call (.Name b.name p) (e :: es) [] pos) (tCB (rBlt X.K b) t) := by
  have h1 := call_blt (X := X) b hc
  have h2 := boot_blt b
  cases b <;> first
    | exact pe_callB h1 hg hm h2 ha (by decide +kernel) (by decide +kernel) he hpl
    | exact pe_callTy h1 hg hm h2 ha (by decide +kernel) (by decide +kernel) he hpl

/-! places, slices -/
theorem RepL.atI {W : Gam} {g : G} {ds : List D} {vs : List V} {i : Int} {d : D} (r : RepL W g ds vs) (e : L2.atI ds i = some d) : ∃ v, L2.atI vs i = some v ∧ Rep W g d v := by
  unfold L2.atI at e ⊢
  rw [← r.length]
  cases q : ixN ds.length i with
  | none => rw [q] at e; cases e
  | some j =>
    rw [q] at e
    obtain ⟨v, h1, h2⟩ := r.get (show ds[j]? = some d from e)
    exact ⟨v, h1, h2⟩
theorem sub_ok {W : Gam} {g : G} {x y : D} {v u : V} {Q : VK} {E : Nat → Hp → Prop} (ok : g.Ok W) (rx : RepX W g x v) (ry : RepX W g y u) (h : Pst W g (ret (subD g.M x y) g.M) Q E) : rIx W.K v u g.H Q := by
  cases e : subD g.M x y with
  | none => rw [e] at h; exact h.elim
  | some d =>
    rw [e] at h
    unfold subD at e
    split at e
    · obtain ⟨a, us, rfl, h1, n1, r1⟩ := rx.tup
      cases ry.int
      obtain ⟨w, h2, r2⟩ := r1.atI e
      exact .inr (.inl ⟨a, us, _, w, rfl, rfl, SqT.of h1, h2, Pst.val (g := g) h ok (.inl r2)⟩)
    · split at e
      · rename_i z i hz
        cases rx.str; cases ry.int
        cases q : L2.atI z.cps.toList i with
        | none => rw [q] at e; cases e
        | some c =>
          rw [q] at e; cases e
          exact .inr (.inr ⟨z, i, c, rfl, rfl, hz, q, Pst.val (g := g) h ok (.inl (.str _))⟩)
      · cases e
    · rename_i i _ _
      cases ry.int
      cases e2 : lview g.M x with
      | none => rw [e2] at e; cases e
      | some xs =>
        rw [e2] at e
        obtain ⟨a, us, rfl, h1, r1⟩ := rx.lview ok e2
        obtain ⟨w, h2, r2⟩ := r1.atI (show L2.atI xs i = some d from e)
        exact .inl ⟨a, us, i, w, rfl, rfl, h1, h2, Pst.val (g := g) h ok (.inl r2)⟩
    · cases e
def rSl3 (K : PySem.W.Frag) : V → Option Int → Option Int → Hp → VK → Prop := fun x lo hi H Q => rSlL K x lo hi H Q ∨ rSlA K x lo hi H Q ∨ rSlS x lo hi H Q
theorem sl_3 {X : Cx} : SlR X (rSl3 X.K) := sl_list.or (sl_tupA.or sl_str)
theorem RepL.cut {W : Gam} {g : G} {ds : List D} {vs : List V} (r : RepL W g ds vs) (lo hi : Option Int) : RepL W g (cutD ds lo hi) (cutV vs lo hi) := by
  unfold cutD cutV
  rw [r.length]
  exact (r.drop _).take _
theorem slc_ok {W : Gam} {g : G} {x : D} {v : V} {lo hi : Option Int} {Q : VK} {E : Nat → Hp → Prop} (ok : g.Ok W) (rx : RepX W g x v) (h : Pst W g (ret (slcD g.M x lo hi) g.M) Q E) : rSl3 W.K v lo hi g.H Q := by
  cases e : slcD g.M x lo hi with
  | none => rw [e] at h; exact h.elim
  | some d =>
    rw [e] at h
    unfold slcD at e
    split at e
    · cases e
      obtain ⟨a, us, rfl, h1, n1, r1⟩ := rx.tup
      refine .inr (.inl ⟨a, us, rfl, SqT.of h1, fun hw => ?_, fun _ p hp => Pst.tup h ok hp (r1.cut lo hi)⟩)
      rename_i xs
      have e2 : cutD xs lo hi = xs := by
        unfold cutD
        rw [r1.length, hw.1, hw.2, List.drop_zero, Nat.sub_zero, ← r1.length, List.take_length]
      rw [e2] at h
      exact Pst.val (g := g) h ok (.inl (.tup h1 n1 r1))
    · split at e
      · rename_i hz
        cases e; cases rx.str
        exact .inr (.inr ⟨_, rfl, hz, Pst.val (g := g) h ok (.inl (.str _))⟩)
      · cases e
    · cases e2 : lview g.M x with
      | none => rw [e2] at e; cases e
      | some xs =>
        rw [e2] at e; cases e
        obtain ⟨a, us, rfl, h1, r1⟩ := rx.lview ok e2
        exact .inl ⟨a, us, rfl, h1, fun p hp => Pst.lst h ok hp (r1.cut lo hi)⟩
end L2.Z
set_option Elab.async false
set_option linter.all false
set_option maxRecDepth 100000
set_option maxHeartbeats 1000000
/-! ### soundness: the text's own forms -/
namespace L2.Z
open PySem PySem.Spec PyProof.Rows

/-! #### plain facts of the printed text -/
section
variable (env : PySem.Env)
theorem star_ex (e : E) : ∀ es : List Expr, starEach (e.ex :: es) env = (false, eval e.ex env) :: starEach es env := by
  induction e using E.rec (motive_2 := fun _ => True) (motive_3 := fun _ => True) <;> first | trivial | (intro es; simp only [E.ex]; rfl) | assumption
theorem plainIx_ex (e : E) : PlainIx e.ex := by
  induction e using E.rec (motive_2 := fun _ => True) (motive_3 := fun _ => True) <;> first | trivial | (intro o i; simp only [E.ex]; rfl) | assumption
theorem marks_ex (e : E) (o : CmpOp) : behindInMarks o e.ex = false := by
  induction e using E.rec (motive_2 := fun _ => True) (motive_3 := fun _ => True) <;> first | trivial | (simp only [E.ex]; rfl) | assumption
theorem folded_ex (e : E) : ∀ x, foldedSetIterable e.ex env x = pure x := by
  induction e using E.rec (motive_2 := fun _ => True) (motive_3 := fun _ => True) <;> first | trivial | (intro x; simp only [E.ex]; rfl) | assumption
theorem stars_any (pos : Pos) : ∀ es : List E, (backTo pos (starEach (E.exs es) env)).any (·.1) = false
  | [] => rfl
  | e :: es => by
    simp only [E.exs, star_ex env e]
    show (false || (backTo pos (starEach (E.exs es) env)).any (·.1)) = false
    rw [stars_any pos es]; rfl
theorem stars_all (pos : Pos) : ∀ es : List E, (backTo pos (starEach (E.exs es) env)).all (fun x => !x.1) = true
  | [] => rfl
  | e :: es => by
    simp only [E.exs, star_ex env e]
    show (true && (backTo pos (starEach (E.exs es) env)).all (fun x => !x.1)) = true
    rw [stars_all pos es]; rfl
end
/-- no call without arguments -/
def baseOk : E → Bool
  | .call _ _ _ [] _ => false
  | .blt _ _ [] _ => false
  | .live _ => false
  | _ => true
theorem base_ex (env : PySem.Env) (nm : Str) (e : E) (h : baseOk e = true) : attributeBase e.ex nm env (eval e.ex env) = eval e.ex env := by
  cases e with
  | call f x px es p =>
    cases es with
    | nil => cases h
    | cons e es => simp only [E.ex, E.exs]; rfl
  | blt f px es p =>
    cases es with
    | nil => cases h
    | cons e es => simp only [E.ex, E.exs]; rfl
  | live e => cases h
  | _ => simp only [E.ex]; rfl
/-- what may be a test by its value -/
def tstOk : E → Bool
  | .var .. => true
  | .call .. => true
  | .isi .. => true
  | .blt .. => true
  | .sub .. => true
  | _ => false
theorem tst_ex (env : PySem.Env) (e : E) (h : tstOk e = true) : ∀ whole, isTrue e.ex env whole = (do let v ← whole; standAt e.ex.pos; holding [v] (truthy v)) := by
  intro whole
  cases e <;> first | (simp only [E.ex]; rfl) | cases h

/-! #### well-formed text -/
def visC (sc : Scope) (x : Str) : Bool := match sc.names.lookup x with
  | some .local => true
  | some .cell => true
  | some .free => true
  | _ => false
def globC (sc : Scope) (x : Str) : Bool := decide (sc.names.lookup x = some .globalImplicit) && decide (x ≠ "__debug__") && decide (x ≠ "__name__")
def bltNames : List Str := ["len", "abs", "max", "min", "all", "any", "sum", "list", "tuple", "isinstance", "range", "zip", "enumerate", "int", "bool", "str", "dict", "ValueError", "sorted", "set"]
mutual
def Tg.slots : Tg → List Nat
  | .nm i _ _ => [i]
  | .tp ts _ _ => Tg.slotss ts
def Tg.slotss : List Tg → List Nat
  | [] => []
  | t :: ts => t.slots ++ Tg.slotss ts
end
mutual
/-- fn: the names whose cells are the block's own -/
def Tg.wf (N : List Str) (sc : Scope) (fn : Str → Bool) : Tg → Bool
  | .nm i x _ => decide (N[i]? = some x) && (decide (sc.names.lookup x = some .local) || (decide (sc.names.lookup x = some .cell) && fn x))
  | .tp ts _ _ => Tg.wfs N sc fn ts
def Tg.wfs (N : List Str) (sc : Scope) (fn : Str → Bool) : List Tg → Bool
  | [] => true
  | t :: ts => t.wf N sc fn && Tg.wfs N sc fn ts
end
def Tg.isTp : Tg → Bool
  | .tp _ _ _ => true
  | _ => false
def SK.wf (sc : Scope) (tg : Tg) (n : Nat) : SK → Bool
  | .one => n == 1
  | .rng _ _ => globC sc "range" && (n == 1 || n == 2)
  | .zip _ _ => globC sc "zip" && n == 2 && tg.isTp
  | .enm _ _ => globC sc "enumerate" && n == 1 && tg.isTp
mutual
/-- fit to be a test -/
def E.wft : E → Bool
  | .not a _ => E.wft a
  | .bop _ es _ => E.wfts es
  | .cmp _ _ _ _ => true
  | .chain _ _ _ _ _ _ => true
  | e => tstOk e
def E.wfts : List E → Bool
  | [] => true
  | e :: es => E.wft e && E.wfts es
end
section
variable (W : Gam) (T : Nat → Option Fn) (N : List Str)
mutual
def E.wf (sc : Scope) : E → Bool
  | .var i x _ => decide (N[i]? = some x) && visC sc x && decide (x ≠ "__debug__") && decide (x ≠ "__classdict__")
  | .cst c _ _ => (cstD c).isSome
  | .gint x i _ => globC sc x && decide (W.gi x = some i)
  | .gstr x z _ => globC sc x && decide (W.gs x = some z)
  | .gfn x f _ => globC sc x && decide ((T f).map (·.name) = some x)
  | .bin _ a b _ => E.wf sc a && E.wf sc b
  | .neg a _ => E.wf sc a
  | .not a _ => E.wf sc a
  | .bop _ es _ => E.wfs sc es
  | .cmp _ a b _ => E.wf sc a && E.wf sc b
  | .chain _ _ a b c _ => E.wf sc a && E.wf sc b && E.wf sc c
  | .ite t a b _ => E.wf sc t && E.wft t && E.wf sc a && E.wf sc b
  | .call f x _ es _ => globC sc x && decide ((T f).map (·.name) = some x) && !es.isEmpty && E.wfs sc es
  | .isi a t _ _ _ => globC sc "isinstance" && globC sc t.name && t.ok W && E.wf sc a
  | .blt b _ es _ => globC sc b.name && !es.isEmpty && E.wfs sc es
  | .mth _ o po es p => baseOk o && decide (po.endLine = p.line) && decide (es.length = 1) && E.wf sc o && E.wfs sc es
  | .sub a i _ => E.wf sc a && E.wf sc i
  | .slc a lo hi _ _ => E.wf sc a && E.wfo sc lo && E.wfo sc hi
  | .tup es _ _ => E.wfs sc es
  | .lst es _ => E.wfs sc es
  | .lc elt tg sk src ifs scope own _ => blkC N sc scope own && tg.wf N (relS scope sc) (fun x => scope.names.lookup x == some .cell) && tg.slots.all (fun i => (own.map (·.2)).contains i) && sk.wf sc tg src.length && E.wfs sc src &&
    E.wfs (relS scope sc) ifs && ifs.all E.wft && E.wf (relS scope sc) elt
  | .live e => isNew e && E.wf sc e
  | .srt a _ _ => globC sc "sorted" && E.wf sc a
  | .srk a f x _ _ _ _ => globC sc "sorted" && globC sc x && decide ((T f).map (fun F => (F.name, F.ps.length)) = some (x, 1)) && E.wf sc a
def E.wfs (sc : Scope) : List E → Bool
  | [] => true
  | e :: es => E.wf sc e && E.wfs sc es
def E.wfo (sc : Scope) : Option E → Bool
  | none => true
  | some e => E.wf sc e
end
end
end L2.Z
set_option Elab.async false
set_option linter.all false
set_option maxRecDepth 100000
set_option maxHeartbeats 1000000
namespace L2.Z
open PySem PySem.Spec PyProof.Rows
theorem visC_ok {sc : Scope} {x : Str} (h : visC sc x = true) : Vis sc x := by
  unfold visC at h
  split at h
  · exact .inl (by assumption)
  · exact .inr (.inl (by assumption))
  · exact .inr (.inr (by assumption))
  · cases h
theorem globC_ok {sc : Scope} {x : Str} (h : globC sc x = true) : sc.names.lookup x = some .globalImplicit ∧ (x == ("__debug__" : Str)) = false ∧ x ≠ "__name__" := by
  unfold globC at h
  simp only [Bool.and_eq_true, decide_eq_true_eq] at h
  refine ⟨h.1.1, ?_, h.2⟩
  cases q : (x == ("__debug__" : Str)) with
  | false => rfl
  | true => exact absurd (eq_of_beq q) h.1.2
end L2.Z
set_option Elab.async false
set_option linter.all false
set_option maxRecDepth 100000
set_option maxHeartbeats 1000000
/-! ### a list that is new -/
namespace L2.Z
open PySem PySem.Spec PyProof.Rows

def PostN (W : Gam) (g : G) (r : R D) (Q : VK) (X : Nat → Hp → Prop) : Prop := match r with
  | .ok d M => (match d with
    | .lst xs => ∀ (g' : G) (p : Addr) (vs : List V), Ext g g' → g'.hid = g.hid → g'.M = M → g'.Ok W → g'.H p = none → RepL W g' xs vs → Q (.ref p) (upd g'.H p (.lst vs))
    | _ => False)
  | .exc c M => ∀ g', Ext g g' → g'.hid = g.hid → g'.M = M → g'.Ok W → X c g'.H
  | .bad => False
section
variable {W : Gam} {g g1 : G} {r : R D} {Q : VK} {X : Nat → Hp → Prop}
theorem PostN.mono (h : PostN W g r Q X) (x : Ext g g1) (e : g1.hid = g.hid) : PostN W g1 r Q X := by
  cases r with
  | ok d M =>
    cases d <;> first | exact h.elim | skip
    exact fun g' p vs y e1 => h g' p vs (x.trans y) (e1.trans e)
  | exc c M => exact fun g' y e1 => h g' (x.trans y) (e1.trans e)
  | bad => exact h
theorem PostN.bind {α' β' : Type} {T' : G → α' → β' → Prop} {r : R α'} {k : α' → Ev D} {Q1 : β' → Hp → Prop} (h : PostN W g (r.bind k) Q X)
    (hk : ∀ d M g', r = .ok d M → Ext g g' → g'.hid = g.hid → g'.M = M → g'.Ok W → ∀ v, T' g' d v → PostN W g' (k d M) Q X → Q1 v g'.H) : PostT T' W g r Q1 X := by
  cases r with
  | ok d M => exact fun g' x e1 e ok v rv => hk d M g' rfl x e1 e ok v rv (PostN.mono h x e1)
  | exc c M => exact h
  | bad => exact h
/-- frozen at once -/
theorem PostN.of (h : Pst W g r Q X) (hr : ∀ d M, r = .ok d M → ∃ xs, d = .lst xs) : PostN W g r Q X := by
  cases r with
  | ok d M =>
    obtain ⟨xs, rfl⟩ := hr d M rfl
    exact fun g' p vs x e1 e2 ok hp rv => h (g'.put p (.lst vs)) (x.trans (ok.put_ext hp)) e1 e2 (ok.put_ok hp) _ (.inl (ok.put_lst hp rv))
  | exc c M => exact h
  | bad => exact h
theorem PostN.lst {xs : List D} {vs : List V} {p : Addr} (h : PostN W g (.ok (.lst xs) g.M) Q X) (ok : g.Ok W) (hp : g.H p = none) (rv : RepL W g xs vs) : Q (.ref p) (upd g.H p (.lst vs)) := h g p vs (Ext.refl g) rfl rfl ok hp rv
end
def rdN (W : Gam) (h0 : List Addr) (wx : WXD) (m : Env → Ev D) : TE := fun s H Q => ∃ (g : G) (r : Env), g.H = H ∧ g.Ok W ∧ EnvR W h0 g r s ∧ PostN W g (m r g.M) Q (fun c H => wx c s H)
section
variable {W : Gam} {h0 : List Addr} {wx : WXD}
theorem rd1N {α' β' : Type} {T' : Gam → G → α' → β' → Prop} {m : Env → Ev α'} {k : α' → Env → Ev D} {s : St} {H : Hp} {Q : VK} {Q1 : β' → Hp → Prop}
    (h : rdN W h0 wx (fun r M => (m r M).bind fun x M1 => k x r M1) s H Q)
    (hk : ∀ (g : G) (r : Env) (d : α') (v : β'), g.Ok W → EnvR W h0 g r s → T' W g d v → PostN W g (k d r g.M) Q (fun c H => wx c s H) → Q1 v g.H) : rdT T' W h0 wx m s H Q1 := by
  obtain ⟨g, r, e, ok, er, p⟩ := h
  refine ⟨g, r, e, ok, er, PostN.bind p fun d M g' _ x e1 e2 ok' v rv q => ?_⟩
  subst e2
  exact hk g' r d v ok' (er.mono x) rv q
theorem rd2N {ma mb : Env → Ev D} {k : D → D → Ev D} {r : R2} {s : St} {H : Hp} {Q : VK}
    (hr : ∀ (g : G) (x y : D) (v u : V), g.Ok W → RepX W g x v → RepX W g y u → PostN W g (k x y g.M) Q (fun c H => wx c s H) → r v u g.H Q)
    (h : rdN W h0 wx (fun r M => (ma r M).bind fun x M1 => (mb r M1).bind fun y M2 => k x y M2) s H Q) : tOp r (rdE W h0 wx ma) (rdE W h0 wx mb) s H Q :=
  rd1N (T' := RepX) h fun g r x v ok er rx p => by
    refine ⟨g, r, rfl, ok, er, PostN.bind p fun y M g' _ x e1 e2 ok' u ru q => ?_⟩
    subst e2
    exact hr g' _ y v u ok' (rx.mono x) ru q
end
section
variable {W : Gam} {g : G} {Q : VK} {E : Nat → Hp → Prop}
theorem add_okN {x y : D} {v u : V} (ok : g.Ok W) (rx : RepX W g x v) (ry : RepX W g y u) (h : PostN W g (ret (addD g.M x y) g.M) Q E) : rAdd4 W.K v u g.H Q := by
  unfold addD at h
  split at h
  · exact h.elim
  · split at h
    · exact h.elim
    · exact h.elim
  · split at h
    · exact h.elim
    · exact h.elim
  · split at h
    · rename_i xs ys e1 e2
      split at h
      · rename_i hz
        obtain ⟨a, vs, rfl, h1, r1⟩ := rx.pview ok e1
        obtain ⟨b, us, rfl, h2, r2⟩ := ry.pview ok e2
        exact .inr (.inr (.inr ⟨a, b, vs, us, rfl, rfl, h1, h2, by rw [← r1.length, ← r2.length]; exact hz, fun p hp => PostN.lst h ok hp (r1.app r2)⟩))
      · exact h.elim
    · exact h.elim
theorem mul_okN {x y : D} {v u : V} (ok : g.Ok W) (rx : RepX W g x v) (ry : RepX W g y u) (h : PostN W g (ret (mulD g.M x y) g.M) Q E) : rMul2 v u g.H Q := by
  unfold mulD at h
  split at h
  · split at h
    · exact h.elim
    · exact h.elim
  · split at h
    · rename_i xs e1
      split at h
      · rename_i hz
        obtain ⟨a, vs, rfl, h1, r1⟩ := rx.pview ok e1
        cases ry.int
        exact .inr ⟨a, _, vs, rfl, rfl, h1, hz.1, hz.2.1, by rw [← r1.length]; exact hz.2.2, fun p hp => PostN.lst h ok hp (r1.rep _)⟩
      · exact h.elim
    · exact h.elim
  · exact h.elim
theorem list_okN {ds : List D} {vs : List V} (ok : g.Ok W) (rx : RepXL W g ds vs) (h : PostN W g (ret (bltD .list g.M ds) g.M) Q E) : rBlt W.K .list vs g.H Q := by
  match ds, rx with
  | [], rx => exact h.elim
  | _ :: _ :: _, rx => exact h.elim
  | [d], rx =>
    obtain ⟨v, rfl, r⟩ := RepXL.one rx
    simp only [bltD] at h
    split at h
    · obtain ⟨a, us, rfl, h1, _, r1⟩ := r.tup
      exact ⟨a, us, rfl, .inr (SqT.of h1), fun l hl => PostN.lst h ok hl r1⟩
    · cases e2 : lview g.M d with
      | none => rw [e2] at h; exact h.elim
      | some xs =>
        rw [e2] at h
        obtain ⟨a, us, rfl, h1, r1⟩ := r.lview ok e2
        exact ⟨a, us, rfl, .inl h1, fun l hl => PostN.lst h ok hl r1⟩
theorem slc_okN {x : D} {v : V} {lo hi : Option Int} (ok : g.Ok W) (rx : RepX W g x v) (h : PostN W g (ret (slcD g.M x lo hi) g.M) Q E) : rSl3 W.K v lo hi g.H Q := by
  unfold slcD at h
  split at h
  · exact h.elim
  · split at h
    · exact h.elim
    · exact h.elim
  · cases e2 : lview g.M x with
    | none => rw [e2] at h; exact h.elim
    | some xs =>
      rw [e2] at h
      obtain ⟨a, us, rfl, h1, r1⟩ := rx.lview ok e2
      exact .inl ⟨a, us, rfl, h1, fun p hp => PostN.lst h ok hp (r1.cut lo hi)⟩
end
/-! a new list becomes a live cell -/
theorem live_ok {W : Gam} {g : G} {xs : List D} {M : Mem} {Q : VK} {X : Nat → Hp → Prop} (h : Pst W g (.ok (.ref M.length) (M ++ [.lst xs])) Q X) : PostN W g (.ok (.lst xs) M) Q X := by
  intro g' p vs x e1 e2 ok hp rv
  subst e2
  have okn := ok.new_ok (o := HO.lst vs) hp
  have xn := ok.new_ext (o := HO.lst vs) hp
  have hl : ∀ a ∈ g'.hid, a ∈ (g'.new p (.lst vs)).hid := fun a ha => List.mem_cons_of_mem _ ha
  have hpn : p ∉ g'.hid := fun ha => by
    obtain ⟨o, e⟩ := (ok.hh p ha).1
    rw [hp] at e; cases e
  have ex := okn.push_ext (c := .lst xs) (p := p) (l := g'.hid) List.mem_cons_self hl
  have rv' := (rv.mono xn.toEx0).mono ex
  have okp := okn.push_ok (c := .lst xs) (p := p) (l := g'.hid) List.mem_cons_self hl hpn ⟨vs, upd_same, rv'⟩
  refine h ((g'.new p (.lst vs)).push p (.lst xs) g'.hid) ⟨(x.toEx0.trans xn.toEx0).trans ex, fun a ha => ?_⟩ e1 rfl okp _ (.inl (.ref okn.push_id))
  obtain ⟨h1, h2⟩ := x.hs a ha
  exact ⟨h1, (xn.hs a h1).2.trans h2⟩
end L2.Z
set_option Elab.async false
set_option linter.all false
set_option maxRecDepth 100000
set_option maxHeartbeats 1000000
/-! ### targets, what is walked, comprehensions -/
namespace L2.Z
open PySem PySem.Spec PyProof.Rows

/-! #### targets -/
mutual
def Tg.rd (K : PySem.W.Frag) : Tg → TG
  | .nm i _ _ => gName i
  | .tp ts _ _ => gTup K ts.length (Tg.rds K ts)
def Tg.rds (K : PySem.W.Frag) : List Tg → TGs
  | [] => gNil
  | t :: ts => gCons (t.rd K) (Tg.rds K ts)
end
theorem asgEach_ex (env : PySem.Env) : ∀ ts : List Tg, (assignEach (Tg.exs ts) env).length = ts.length ∧ (assignEach (Tg.exs ts) env).findIdx? (·.1) = none
  | [] => ⟨rfl, rfl⟩
  | t :: ts => by
    obtain ⟨h1, h2⟩ := asgEach_ex env ts
    have e : assignEach (Tg.exs (t :: ts)) env = (false, assign t.ex env) :: assignEach (Tg.exs ts) env := by
      cases t <;> (simp only [Tg.exs, Tg.ex]; rfl)
    rw [e]
    refine ⟨by simp [h1], ?_⟩
    rw [List.findIdx?_cons]
    simp [h2]
mutual
theorem pg_tg {X : Cx} (hN : X.N.Nodup) (hc : X.calm = true) : ∀ (t : Tg), t.wf X.N X.env.scope X.fn = true → PG X t.ex (t.rd X.K)
  | .nm i x p, h => by
    obtain ⟨h1, h2⟩ := Bool.and_eq_true_iff.mp h
    have h1 : X.N[i]? = some x := of_decide_eq_true h1
    rcases Bool.or_eq_true_iff.mp h2 with h2 | h2
    · exact pg_name hN h1 (.inl (of_decide_eq_true h2)) (.inr (of_decide_eq_true h2))
    · obtain ⟨h3, h4⟩ := Bool.and_eq_true_iff.mp h2
      exact pg_name hN h1 (.inr (of_decide_eq_true h3)) (.inl h4)
  | .tp ts k p, h => by
    obtain ⟨h1, h2⟩ := asgEach_ex X.env ts
    exact pg_tup hc (pg_tgs hN hc ts h) h1 h2
theorem pg_tgs {X : Cx} (hN : X.N.Nodup) (hc : X.calm = true) : ∀ (ts : List Tg), Tg.wfs X.N X.env.scope X.fn ts = true → PGs X (Tg.exs ts) (Tg.rds X.K ts)
  | [], _ => pgs_nil
  | t :: ts, h => by
    obtain ⟨h1, h2⟩ := Bool.and_eq_true_iff.mp h
    refine pgs_cons (pg_tg hN hc t h1) (pg_tgs hN hc ts h2) ?_
    cases t <;> (simp only [Tg.exs, Tg.ex]; rfl)
end
theorem wipe_set {s : St} {i : Nat} {x : Option V} : ∀ {vs : List Nat}, i ∈ vs → wipe (s.set i x) vs = wipe s vs
  | v :: vs, h => by
    unfold wipe
    by_cases hi : i ∈ vs
    · rw [wipe_set hi]
    · have e : i = v := by
        rcases List.mem_cons.mp h with h | h
        · exact h
        · exact absurd h hi
      subst e
      have : ∀ (vs : List Nat), i ∉ vs → (wipe (s.set i x) vs).set i none = (wipe s vs).set i none := by
        intro vs
        induction vs with
        | nil => intro _; simp [wipe]
        | cons w ws ih =>
          intro hn
          have hw : i ≠ w := fun q => hn (by simp [q])
          have hws : i ∉ ws := fun q => hn (by simp [q])
          show ((wipe (s.set i x) ws).set w none).set i none = ((wipe s ws).set w none).set i none
          rw [List.set_comm _ _ (Ne.symm hw), ih hws, List.set_comm _ _ (Ne.symm hw)]
      exact this vs hi
theorem wipe_wipe {s : St} : ∀ {us vs : List Nat}, (∀ i ∈ us, i ∈ vs) → wipe (wipe s us) vs = wipe s vs
  | [], vs, _ => rfl
  | u :: us, vs, h => by
    show wipe ((wipe s us).set u none) vs = wipe s vs
    rw [wipe_set (h u (by simp)), wipe_wipe fun i hi => h i (by simp [hi])]
section
variable {W : Gam} {h0 : List Addr} {g : G}
theorem EnvR.set {r : Env} {s : St} {i : Nat} {d : D} {v : V} (er : EnvR W h0 g r s) (rv : Rep W g d v) (n : nown d = true) : EnvR W h0 g (r.set i (some d)) (s.set i (some v)) := by
  have no : ∀ xs, d ≠ .own xs := fun xs e => by subst e; cases n
  have own : ∀ (j : Nat) (xs : List D), (r.set i (some d))[j]? = some (some (.own xs)) → j ≠ i ∧ r[j]? = some (some (.own xs)) := fun j xs e => by
    by_cases q : i = j
    · subst q
      by_cases hl : i < r.length
      · rw [List.getElem?_set_self hl] at e
        exact absurd (Option.some.inj (Option.some.inj e)) (no xs)
      · rw [List.getElem?_eq_none (by simpa using hl)] at e; cases e
    · rw [List.getElem?_set_ne q] at e
      exact ⟨fun z => q z.symm, e⟩
  refine ⟨by simp [er.len], fun j e hj => ?_, fun j xs a h1 h2 => ?_, fun j k xs ys a h1 h2 h3 h4 => ?_⟩
  · by_cases q : i = j
    · subst q
      by_cases hl : i < r.length
      · rw [List.getElem?_set_self hl] at hj
        cases hj
        exact ⟨v, by rw [List.getElem?_set_self (by rw [er.len]; exact hl)], .inl rv⟩
      · rw [List.getElem?_eq_none (by simpa using hl)] at hj; cases hj
    · rw [List.getElem?_set_ne q] at hj ⊢
      exact er.get j e hj
  · obtain ⟨n1, q1⟩ := own j xs h1
    rw [List.getElem?_set_ne (Ne.symm n1)] at h2
    exact er.own j xs a q1 h2
  · obtain ⟨n1, q1⟩ := own j xs h1
    obtain ⟨n2, q2⟩ := own k ys h2
    rw [List.getElem?_set_ne (Ne.symm n1)] at h3
    rw [List.getElem?_set_ne (Ne.symm n2)] at h4
    exact er.inj j k xs ys a q1 q2 h3 h4
mutual
theorem Tg.put_ok (K : PySem.W.Frag) (hK : K = W.K) : ∀ (t : Tg) {r r' : Env} {s : St} {d : D} {v : V} {Q : St → Hp → Prop}, EnvR W h0 g r s → Rep W g d v → nown d = true → t.put d r = some r' →
    (∀ s', EnvR W h0 g r' s' → (∀ vs, (∀ i ∈ t.slots, i ∈ vs) → wipe s' vs = wipe s vs) → Q s' g.H) → t.rd K v s g.H Q
  | .nm i x p, r, r', s, d, v, Q, er, rv, n, e, k => by
    cases e
    exact k _ (er.set rv n) fun vs h => wipe_set (h i (by simp [Tg.slots]))
  | .tp ts kk p, r, r', s, d, v, Q, er, rv, n, e, k => by
    unfold Tg.put at e
    split at e
    · split at e
      · rename_i xs hl
        cases rv with
        | tup h1 n1 r1 =>
          exact ⟨_, _, rfl, SqT.of h1, by rw [← r1.length]; exact hl, Tg.puts_ok K hK ts er r1 e k⟩
      · cases e
    · cases e
theorem Tg.puts_ok (K : PySem.W.Frag) (hK : K = W.K) : ∀ (ts : List Tg) {r r' : Env} {s : St} {ds : List D} {vs : List V} {Q : St → Hp → Prop}, EnvR W h0 g r s → RepL W g ds vs → Tg.puts ts ds r = some r' →
    (∀ s', EnvR W h0 g r' s' → (∀ vs, (∀ i ∈ Tg.slotss ts, i ∈ vs) → wipe s' vs = wipe s vs) → Q s' g.H) → Tg.rds K ts vs s g.H Q
  | [], r, r', s, ds, vs, Q, er, rv, e, k => by
    cases rv with
    | nil => cases e; exact ⟨rfl, k s er fun _ _ => rfl⟩
    | cons _ _ => cases e
  | t :: ts, r, r', s, ds, vs, Q, er, rv, e, k => by
    cases rv with
    | nil => cases e
    | @cons d ds v vs rd rt =>
      unfold Tg.puts at e
      split at e
      · rename_i r1 e1
        have n : nown d = true := by
          cases rd <;> rfl
        refine ⟨v, vs, rfl, Tg.put_ok K hK t er rd n e1 fun s1 er1 w1 => ?_⟩
        exact Tg.puts_ok K hK ts er1 rt e fun s2 er2 w2 => k s2 er2 fun us h => by
          rw [w2 us fun i hi => h i (by simp [Tg.slotss, hi]), w1 us fun i hi => h i (by simp [Tg.slotss, hi])]
      · cases e
end
end

/-! #### what is walked -/
theorem zip_at {α β : Type} {xs : List α} {ys : List β} {i : Nat} {x : α} {y : β} (h1 : xs[i]? = some x) (h2 : ys[i]? = some y) : (xs.zip ys)[i]? = some (x, y) := List.getElem?_zip_eq_some.mpr ⟨h1, h2⟩
structure ItOk (Rl : G → G → Prop) (W : Gam) (g : G) (ds : List D) (J : It) : Prop where
  go : ∀ (i : Nat) (g' : G), Rl g g' → i < ds.length → J.go i g'.H
  stop : ∀ g', Rl g g' → J.stop ds.length g'.H
  yld : ∀ (i : Nat) (g' : G) (x : V) (H' : Hp), Rl g g' → g'.Ok W → i < ds.length → J.yld i g'.H x H' →
    ∃ (g2 : G) (d : D), Ext g' g2 ∧ g2.hid = g'.hid ∧ g2.M = g'.M ∧ g2.Ok W ∧ g2.H = H' ∧ ds[i]? = some d ∧ Rep W g2 d x ∧ nown d = true
theorem Rep.nown {W : Gam} {g : G} {d : D} {v : V} (h : Rep W g d v) : L2.Z.nown d = true := by cases h <;> rfl
structure Prs (Rl : G → G → Prop) (W : Gam) (g : G) (d : D) (v : V) : Prop where
  int : ∀ i, d = .int i → v = .int i
  str : ∀ z, d = .str z → v = .str z
  tup : ∀ xs, d = .tup xs → ∃ a vs, v = .ref a ∧ (∀ g', Rl g g' → SqT W.K g'.H a vs) ∧ RepL W g xs vs
  lst : ∀ xs, litems d = some xs → ∃ a vs, v = .ref a ∧ (∀ g', Rl g g' → SqL W.K g'.H a vs) ∧ RepL W g xs vs
theorem Rep.prs {W : Gam} {g : G} {d : D} {v : V} (h : Rep W g d v) : Prs Ex0 W g d v where
  int := fun i e => by subst e; cases h; rfl
  str := fun i e => by subst e; cases h; rfl
  tup := fun xs e => by
    subst e
    cases h with
    | tup h1 n r => exact ⟨_, _, rfl, fun g' x => SqT.of (x.keep _ _ h1 n).1, r⟩
  lst := fun xs e => by
    cases h with
    | lst h1 n r => cases e; exact ⟨_, _, rfl, fun g' x => SqL.of (x.keep _ _ h1 n).1, r⟩
    | ext h1 r =>
      cases e
      refine ⟨_, _, rfl, fun g' x => ?_, r⟩
      rcases h1 with h1 | h1
      · exact .inl (x.rd h1.1 h1.2).1
      · exact .inr h1
    | _ => cases e
theorem RepX.prs {W : Gam} {g : G} {d : D} {v : V} (h : RepX W g d v) : Prs Ext W g d v := by
  rcases h with h | ⟨xs, a, vs, e1, e2, h1, h2, r⟩
  · have p := h.prs
    exact ⟨p.int, p.str, fun xs e => let ⟨a, vs, h1, h2, h3⟩ := p.tup xs e; ⟨a, vs, h1, fun g' x => h2 g' x.toEx0, h3⟩, fun xs e => let ⟨a, vs, h1, h2, h3⟩ := p.lst xs e; ⟨a, vs, h1, fun g' x => h2 g' x.toEx0, h3⟩⟩
  · subst e1 e2
    refine ⟨fun _ e => (by cases e), fun _ e => (by cases e), fun _ e => (by cases e), fun ys e => ?_⟩
    cases e
    exact ⟨a, vs, rfl, fun g' x => SqL.of ((x.hs a h1).2.trans h2), r⟩
section
variable {Rl : G → G → Prop} {W : Gam} {g : G} (hR : ∀ g', Rl g g' → Ex0 g g')
include hR
theorem RepL.at_ {ds : List D} {vs : List V} (r : RepL W g ds vs) {i : Nat} {x : V} {g' : G} (y : Rl g g') (hi : i < ds.length) (h : vs[i]? = some x) : ∃ d, ds[i]? = some d ∧ Rep W g' d x := by
  obtain ⟨v, h1, h2⟩ := r.get (List.getElem?_eq_getElem hi)
  rw [h] at h1; cases h1
  exact ⟨_, List.getElem?_eq_getElem hi, h2.mono (hR g' y)⟩
theorem it_list {ds : List D} {vs : List V} {a : Addr} (h : ∀ g', Rl g g' → SqL W.K g'.H a vs) (r : RepL W g ds vs) : ItOk Rl W g ds (Itl W.K a) where
  go := fun i g' y hi => ⟨vs, vs[i]'(by rw [← r.length]; exact hi), h g' y, List.getElem?_eq_getElem _⟩
  stop := fun g' y => ⟨vs, h g' y, by rw [r.length]; exact Nat.le_refl _⟩
  yld := fun i g' x H' y ok hi hy => by
    obtain ⟨e, k⟩ := hy
    obtain ⟨d, h1, h2⟩ := r.at_ hR y hi (k vs (h g' y))
    exact ⟨g', d, Ext.refl g', rfl, rfl, ok, e.symm, h1, h2, h2.nown⟩
theorem it_tup {ds : List D} {vs : List V} {a : Addr} (h : ∀ g', Rl g g' → SqT W.K g'.H a vs) (r : RepL W g ds vs) : ItOk Rl W g ds (Itt W.K a) where
  go := fun i g' y hi => ⟨vs, vs[i]'(by rw [← r.length]; exact hi), h g' y, List.getElem?_eq_getElem _⟩
  stop := fun g' y => ⟨vs, h g' y, by rw [r.length]; exact Nat.le_refl _⟩
  yld := fun i g' x H' y ok hi hy => by
    obtain ⟨e, k⟩ := hy
    obtain ⟨d, h1, h2⟩ := r.at_ hR y hi (k vs (h g' y))
    exact ⟨g', d, Ext.refl g', rfl, rfl, ok, e.symm, h1, h2, h2.nown⟩
omit hR
theorem it_str {z : Str} : ItOk Rl W g (z.cps.toList.map fun c => .str ⟨#[c]⟩) (Its z) where
  go := fun i g' y hi => by
    show i < z.cps.size
    simpa using hi
  stop := fun g' y => by simp [Its]
  yld := fun i g' x H' y ok hi hy => by
    obtain ⟨e, c, h1, h2⟩ := hy
    refine ⟨g', .str ⟨#[c]⟩, Ext.refl g', rfl, rfl, ok, e.symm, ?_, by rw [h2]; exact .str _, rfl⟩
    rw [List.getElem?_map]
    simp [h1]
theorem it_rng {lo : Int} {n : Nat} : ItOk Rl W g (rngL lo n) (Itr lo n) where
  go := fun i g' y hi => by
    show i < n
    simpa [rngL] using hi
  stop := fun g' y => by simp [Itr, rngL]
  yld := fun i g' x H' y ok hi hy => by
    obtain ⟨e, h2⟩ := hy
    have hi' : i < n := by simpa [rngL] using hi
    refine ⟨g', .int (lo + i), Ext.refl g', rfl, rfl, ok, e.symm, ?_, by rw [h2]; exact .int _, rfl⟩
    simp [rngL, hi']
include hR
theorem pair_ok {d e : D} {u v : V} {g' : G} {P : Addr} (ok : g'.Ok W) (hp : g'.H P = none) (r1 : Rep W g' d u) (r2 : Rep W g' e v) : ∃ g2, Ext g' g2 ∧ g2.hid = g'.hid ∧ g2.M = g'.M ∧ g2.Ok W ∧ g2.H = upd g'.H P (.tup [u, v]) ∧ Rep W g2 (.tup [d, e]) (.ref P) :=
  ⟨g'.put P (.tup [u, v]), ok.put_ext hp, rfl, rfl, ok.put_ok hp, rfl, ok.put_tup hp (.cons r1 (.cons r2 .nil))⟩
theorem it_enm {ds : List D} {vs : List V} {a : Addr} (h : ∀ g', Rl g g' → SqL W.K g'.H a vs) (r : RepL W g ds vs) : ItOk Rl W g (enmD ds) (Ite W.K a) where
  go := fun i g' y hi => by
    have hi : i < ds.length := by simpa [enmD] using hi
    exact ⟨vs, vs[i]'(by rw [← r.length]; exact hi), h g' y, List.getElem?_eq_getElem _⟩
  stop := fun g' y => ⟨vs, h g' y, by rw [← r.length]; simp [enmD]⟩
  yld := fun i g' x H' y ok hi hy => by
    have hi : i < ds.length := by simpa [enmD] using hi
    obtain ⟨P, z, e1, hp, e2, k⟩ := hy
    obtain ⟨d, h1, h2⟩ := r.at_ hR y hi (k vs (h g' y))
    obtain ⟨g2, x1, x2, x3, x4, x5, x6⟩ := pair_ok hR ok hp (.int (i : Nat)) h2
    refine ⟨g2, _, x1, x2, x3, x4, x5.trans e2.symm, ?_, by rw [e1]; exact x6, rfl⟩
    have hr : (List.range ds.length)[i]? = some i := by simp [hi]
    simp [enmD, zip_at hr h1]
theorem it_zip {ds es : List D} {vs us : List V} {a b : Addr} (h : ∀ g', Rl g g' → SqL W.K g'.H a vs) (h' : ∀ g', Rl g g' → SqL W.K g'.H b us) (r : RepL W g ds vs) (r' : RepL W g es us) : ItOk Rl W g (zipD ds es) (Itz W.K a b) where
  go := fun i g' y hi => by
    have hi : i < min ds.length es.length := by simpa [zipD, List.length_zip] using hi
    exact ⟨vs, us, vs[i]'(by rw [← r.length]; omega), us[i]'(by rw [← r'.length]; omega), h g' y, h' g' y, List.getElem?_eq_getElem _, List.getElem?_eq_getElem _⟩
  stop := fun g' y => ⟨vs, us, h g' y, h' g' y, by rw [← r.length, ← r'.length]; simp [zipD, List.length_zip]; omega⟩
  yld := fun i g' x H' y ok hi hy => by
    have hi : i < min ds.length es.length := by simpa [zipD, List.length_zip] using hi
    obtain ⟨P, z, z', e1, hp, e2, k, k'⟩ := hy
    obtain ⟨d, h1, h2⟩ := r.at_ hR y (by omega) (k vs (h g' y))
    obtain ⟨d', h1', h2'⟩ := r'.at_ hR y (by omega) (k' us (h' g' y))
    obtain ⟨g2, x1, x2, x3, x4, x5, x6⟩ := pair_ok hR ok hp h2 h2'
    refine ⟨g2, _, x1, x2, x3, x4, x5.trans e2.symm, ?_, by rw [e1]; exact x6, rfl⟩
    simp [zipD, zip_at h1 h1']
theorem it_zipT {ds es : List D} {vs us : List V} {a b : Addr} (h : ∀ g', Rl g g' → SqT W.K g'.H a vs) (h' : ∀ g', Rl g g' → SqT W.K g'.H b us) (r : RepL W g ds vs) (r' : RepL W g es us) : ItOk Rl W g (zipD ds es) (RZ.ItzT W.K a b) where
  go := fun i g' y hi => by
    have hi : i < min ds.length es.length := by simpa [zipD, List.length_zip] using hi
    exact ⟨vs, us, vs[i]'(by rw [← r.length]; omega), us[i]'(by rw [← r'.length]; omega), h g' y, h' g' y, List.getElem?_eq_getElem _, List.getElem?_eq_getElem _⟩
  stop := fun g' y => ⟨vs, us, h g' y, h' g' y, by rw [← r.length, ← r'.length]; simp [zipD, List.length_zip]; omega⟩
  yld := fun i g' x H' y ok hi hy => by
    have hi : i < min ds.length es.length := by simpa [zipD, List.length_zip] using hi
    obtain ⟨P, z, z', e1, hp, e2, k, k'⟩ := hy
    obtain ⟨d, h1, h2⟩ := r.at_ hR y (by omega) (k vs (h g' y))
    obtain ⟨d', h1', h2'⟩ := r'.at_ hR y (by omega) (k' us (h' g' y))
    obtain ⟨g2, x1, x2, x3, x4, x5, x6⟩ := pair_ok hR ok hp h2 h2'
    refine ⟨g2, _, x1, x2, x3, x4, x5.trans e2.symm, ?_, by rw [e1]; exact x6, rfl⟩
    simp [zipD, zip_at h1 h1']
end

/-! #### methods that look -/
def eqW (x : V) (u : Value) : Bool := match absV u with
  | some y => eqV y x
  | none => false
theorem countP_vals {x : V} : ∀ {ys : List V} {us : List Value}, Vals ys us → us.countP (eqW x) = ys.countP fun y => eqV y x
  | _, _, .nil => rfl
  | y :: _, u :: _, .cons r t => by
    have e : eqW x u = eqV y x := by
      unfold eqW
      rw [r.abs]
    rw [List.countP_cons, List.countP_cons, countP_vals t, e]
def rCntF (K : PySem.W.Frag) : V → List V → Hp → VK → Prop := fun x xs H Q => ∃ (a : Addr) (ys : List V) (y : V), x = V.ref a ∧ xs = [y] ∧ SqL K H a ys ∧ flatV y = true ∧ ys.all flatV = true ∧ Q (.int ((ys.countP fun z => eqV z y : Nat) : Int)) H
theorem mt_countF {X : Cx} : MtR X "list.count" (rCntF X.K) := by
  intro pins s σ H x xs v us Q I rx rxs h
  obtain ⟨a, ys, y, rfl, rfl, hs, fy, fys, q⟩ := h
  cases rx
  obtain ⟨u, rfl, ru⟩ := vals1 rxs
  obtain ⟨its, rv, ⟨⟨cls, dd, data, sl⟩, n, ho, hc, hdn, hd⟩, hlen⟩ := I.list hs
  simp only at hc hd
  subst hc hd
  refine call_meets PySem.F.slot_list_count ⟨_, ho, rfl⟩ PySem.F.entry_list_count (PySem.F.args_list_count_2 _ _)
    (SeqAt.list_countAt a its.toArray n dd sl u (eqW y)) ⟨ho, fun z hz => ?_, ?_⟩
  · have hz : z ∈ its := by simpa using hz
    obtain ⟨j, hj⟩ := List.getElem?_of_mem hz
    have hl : j < ys.length := by
      rw [rv.length]
      exact (List.getElem?_eq_some_iff.mp hj).1
    obtain ⟨z', h1, h2⟩ := rv.get (List.getElem?_eq_getElem hl)
    rw [hj] at h1
    cases h1
    have e : eqW y z = eqV ys[j] y := by
      unfold eqW
      rw [h2.abs]
    rw [e]
    exact eqAt_V h2 ru (List.all_eq_true.mp fys _ (List.getElem_mem hl)) fy
  · refine ⟨.int ((ys.countP fun z => eqV z y : Nat) : Int), H, I.tok _, ⟨s.toks, ?_⟩, q⟩
    have ec : its.toArray.toList.countP (eqW y) = ys.countP fun z => eqV z y := by
      simpa using countP_vals rv
    show Value.int ((its.toArray.toList.countP (eqW y) : Nat) : Int) s.toks = _
    rw [ec]
theorem RepL.cnt {W : Gam} {g : G} {x : D} {u : V} (rx : Rep W g x u) (fx : flatD x = true) : ∀ {ds : List D} {vs : List V}, RepL W g ds vs → ds.all flatD = true → (vs.countP fun z => eqV z u) = ds.countP fun z => eqD z x
  | _, _, .nil, _ => rfl
  | _, _, .cons r t, f => by
    simp only [List.all_cons, Bool.and_eq_true] at f
    rw [List.countP_cons, List.countP_cons, RepL.cnt rx fx t f.2, r.eqV rx f.1 fx]
theorem idxOf_spec {x : D} : ∀ {ys : List D} {k j : Nat}, idxOf x ys k = some j → ∃ i y, j = k + i ∧ ys[i]? = some y ∧ eqD y x = true ∧ ∀ m z, m < i → ys[m]? = some z → eqD z x = false
  | [], _, _, h => by cases h
  | y :: ys, k, j, h => by
    unfold idxOf at h
    split at h
    · rename_i he
      cases h
      exact ⟨0, y, rfl, rfl, he, fun m z hm => absurd hm (Nat.not_lt_zero _)⟩
    · rename_i he
      obtain ⟨i, z, h1, h2, h3, h4⟩ := idxOf_spec h
      refine ⟨i + 1, z, by omega, by simpa using h2, h3, fun m w hm hw => ?_⟩
      cases m with
      | zero =>
        have : w = y := by simpa using hw.symm
        subst this
        simpa using he
      | succ m => exact h4 m w (by omega) (by simpa using hw)
def rMth (m : Mth) (K : PySem.W.Frag) : V → List V → Hp → VK → Prop := match m with
  | .index => rIndex K
  | .count => rCntF K
theorem mth_ok {W : Gam} {m : Mth} {g : G} {x : D} {ds : List D} {v : V} {vs : List V} {Q : VK} {E : Nat → Hp → Prop} (ok : g.Ok W) (rx : RepX W g x v) (rv : RepXL W g ds vs) (h : Pst W g (ret (mthD m x ds) g.M) Q E) : rMth m W.K v vs g.H Q := by
  cases e : mthD m x ds with
  | none => rw [e] at h; exact h.elim
  | some d =>
    rw [e] at h
    unfold mthD at e
    split at e
    · rename_i y
      cases l : litems x with
      | none => rw [l] at e; cases e
      | some ys =>
        rw [l] at e
        obtain ⟨a, us, rfl, h1, r1⟩ := rx.prs.lst ys l
        obtain ⟨u, rfl, ry⟩ := rv.one
        simp only [Option.bind_some] at e
        split at e
        · rename_i hf
          have hf := Bool.and_eq_true_iff.mp hf
          cases q : idxOf y ys 0 with
          | none => rw [q] at e; cases e
          | some j =>
            rw [q] at e; cases e
            obtain ⟨f1, r2⟩ := ry.flat hf.1
            obtain ⟨i, z, h2, h3, h4, h5⟩ := idxOf_spec q
            have h2 : j = i := by omega
            subst h2
            obtain ⟨w, h6, h7⟩ := r1.get h3
            refine ⟨a, us, u, j, w, rfl, rfl, h1 g (Ext.refl g), f1, r1.flat hf.2, h6, by rw [h7.eqV r2 (List.all_eq_true.mp hf.2 _ (List.mem_of_getElem? h3)) hf.1]; exact h4, fun m z' hm hz => ?_, Pst.val (g := g) h ok (.inl (.int _))⟩
            have hml : m < ys.length := Nat.lt_trans hm (List.getElem?_eq_some_iff.mp h3).1
            obtain ⟨w', h8, h9⟩ := r1.get (List.getElem?_eq_getElem hml)
            rw [hz] at h8; cases h8
            rw [h9.eqV r2 (List.all_eq_true.mp hf.2 _ (List.getElem_mem hml)) hf.1]
            exact h5 m _ hm (List.getElem?_eq_getElem hml)
        · cases e
    · rename_i y
      cases l : litems x with
      | none => rw [l] at e; cases e
      | some ys =>
        rw [l] at e
        obtain ⟨a, us, rfl, h1, r1⟩ := rx.prs.lst ys l
        obtain ⟨u, rfl, ry⟩ := rv.one
        simp only [Option.bind_some] at e
        split at e
        · rename_i hf
          have hf := Bool.and_eq_true_iff.mp hf
          cases e
          obtain ⟨f1, r2⟩ := ry.flat hf.1
          refine ⟨a, us, u, rfl, rfl, h1 g (Ext.refl g), f1, r1.flat hf.2, ?_⟩
          rw [r1.cnt r2 hf.1 hf.2]
          exact Pst.val (g := g) h ok (.inl (.int _))
        · cases e
    · cases e
def PrsL (Rl : G → G → Prop) (W : Gam) (g : G) : List D → List V → Prop
  | [], [] => True
  | d :: ds, v :: vs => Prs Rl W g d v ∧ PrsL Rl W g ds vs
  | _, _ => False
theorem RepXL.prs {W : Gam} {g : G} : ∀ {ds : List D} {vs : List V}, RepXL W g ds vs → PrsL Ext W g ds vs
  | [], [], _ => trivial
  | _ :: _, _ :: _, ⟨h, t⟩ => ⟨h.prs, RepXL.prs t⟩
  | [], _ :: _, h => h.elim
  | _ :: _, [], h => h.elim
theorem RepXL.prs0 {W : Gam} {g : G} : ∀ {ds : List D} {vs : List V}, ds.all nown = true → RepXL W g ds vs → PrsL Ex0 W g ds vs
  | [], [], _, _ => trivial
  | _ :: _, _ :: _, n, ⟨h, t⟩ => by
    simp only [List.all_cons, Bool.and_eq_true] at n
    exact ⟨(h.rep n.1).prs, RepXL.prs0 n.2 t⟩
  | [], _ :: _, _, h => h.elim
  | _ :: _, [], _, h => h.elim
theorem RepXL.length {W : Gam} {g : G} : ∀ {ds : List D} {vs : List V}, RepXL W g ds vs → ds.length = vs.length
  | [], [], _ => rfl
  | _ :: _, _ :: _, ⟨_, t⟩ => by simp [RepXL.length t]
  | [], _ :: _, h => h.elim
  | _ :: _, [], h => h.elim
theorem evx_len {C : Cfg} : ∀ {es : List E} {r : Env} {M M' : Mem} {ds : List D}, evx C es r M = .ok ds M' → ds.length = es.length
  | [], r, M, M', ds, h => by cases h; rfl
  | e :: es, r, M, M', ds, h => by
    simp only [evx] at h
    cases hq : ev C e r M with
    | bad => rw [hq] at h; cases h
    | exc c M1 => rw [hq] at h; cases h
    | ok d M1 =>
      rw [hq] at h
      simp only [R.bind] at h
      cases hx : evx C es r M1 with
      | bad => rw [hx] at h; cases h
      | exc c M2 => rw [hx] at h; cases h
      | ok xs M2 =>
        rw [hx] at h
        cases h
        simp [evx_len hx]
def iAny (K : PySem.W.Frag) (te : TE) : TI := fun s H R => te s H fun x H1 => (∃ a, x = .ref a ∧ (∃ xs, SqL K H1 a xs) ∧ R (Itl K a) H1) ∨ (∃ a, x = .ref a ∧ (∃ xs, SqT K H1 a xs) ∧ R (Itt K a) H1) ∨ (∃ z, x = .str z ∧ R (Its z) H1)
theorem pi_any {X : Cx} {tg e : Expr} {te : TE} (he : PE X e te) : PI X tg e (iAny X.K te) := by
  constructor
  intro pins t sl H RR I want
  refine thn (he.run pins t sl H _ I want) fun v t1 ⟨x, H1, J, rel, alt⟩ => ?_
  rcases alt with ⟨a, rfl, ⟨xs, sq⟩, fin⟩ | ⟨a, rfl, ⟨xs, sq⟩, fin⟩ | ⟨z, rfl, fin⟩
  · cases rel
    obtain ⟨_, _, pl, _⟩ := J.list sq
    exact wpAny_pyIter_list pl.isList (pi_one (tk := t1.toks) J _ (turn_list a _) ⟨_, Heap.get?_push_size _ rfl, rfl, rfl⟩ fin)
  · cases rel
    obtain ⟨_, _, pl, _⟩ := J.tuple sq
    exact wpAny_pyIter_tuple pl (pi_one (tk := t1.toks) J _ (turn_tuple a _) ⟨_, Heap.get?_push_size _ rfl, rfl, rfl⟩ fin)
  · obtain ⟨tk, rfl⟩ := rel
    by_cases ascii : z.cps.all (· < 128) = true
    · exact wpAny_pyIter_ascii ascii (pi_one (tk := t1.toks) J _ (turn_str _ z tk _ (.inl rfl)) ⟨_, Heap.get?_push_size _ rfl, rfl, rfl⟩ fin)
    · exact wpAny_pyIter_wide (by simpa using ascii) (pi_one (tk := t1.toks) J _ (turn_str _ z tk _ (.inr rfl)) ⟨_, Heap.get?_push_size _ rfl, rfl, rfl⟩ fin)
theorem PI.imp {X : Cx} {tg e : Expr} {t t' : TI} (h : PI X tg e t) (k : ∀ s H Q, t' s H Q → t s H Q) : PI X tg e t' := ⟨fun pins s σ H Q I q => h.run pins s σ H Q I (k _ _ _ q)⟩

section
variable {W : Gam} {C : Cfg} {X : Cx} {h0 : List Addr} {wx : WXD} {Rl : G → G → Prop}
/-- the end of a source's run -/
theorem src_end {g : G} {sk : SK} {ss : List D} {R : It → Hp → Prop} {E : Nat → Hp → Prop} {J : It} (hR : ∀ g', Rl g g' → Ex0 g g') (ok : g.Ok W)
    (p : PostT (ItOk Rl W) W g (retL (srcD sk ss) g.M) R E) (h : ∀ ds, srcD sk ss = some ds → ItOk Rl W g ds J) : R J g.H := by
  cases e : srcD sk ss with
  | none => rw [e] at p; exact p.elim
  | some ds =>
    rw [e] at p
    exact p g (Ext.refl g) rfl rfl ok J (h ds e)
theorem pi_src (hK : X.K = W.K) (hmg : ∀ x, x ∈ bltNames → X.mg x = none) (hRl : ∀ g g', Rl g g' → Ex0 g g') (hrf : ∀ g, Rl g g) {sk : SK} {tg : Tg} {es : List E} {k : List D → Ev (List D)}
    (hk : ∀ ss M, k ss M = .bad ∨ (k ss M = retL (srcD sk ss) M ∧ ∀ g vs, RepXL W g ss vs → PrsL Rl W g ss vs))
    (hw : sk.wf X.env.scope tg es.length = true) (ha : PA X (E.exs es) (rdT RepXL W h0 wx (evx C es))) (h1 : ∀ e, es = [e] → PE X e.ex (rdE W h0 wx (ev C e))) :
    PI X tg.ex (sk.ex (E.exs es)) (rdT (fun W g ds J => ItOk Rl W g ds J) W h0 wx (fun r M => (evx C es r M).bind fun ss M1 => k ss M1)) := by
  cases sk with
  | one =>
    have hl : es.length = 1 := by simpa [SK.wf] using hw
    match es, hl with
    | [e], _ =>
      refine PI.imp (t := iAny X.K (rdE W h0 wx (ev C e))) (pi_any (h1 e rfl)) fun s H RR q => ?_
      rw [hK]
      obtain ⟨g, r, e0, ok, er, p⟩ := q
      refine ⟨g, r, e0, ok, er, ?_⟩
      simp only [evx] at p
      cases hq : ev C e r g.M with
      | bad => rw [hq] at p; exact p
      | exc c M => rw [hq] at p; exact p
      | ok d M =>
        rw [hq] at p
        simp only [R.bind] at p
        intro g' x e1 e2 ok' v rv
        subst e2
        have p := PostT.mono p x e1
        rcases hk [d] g'.M with hb | ⟨hb, hp⟩
        · rw [hb] at p; exact p.elim
        · rw [hb] at p
          obtain ⟨pr, _⟩ := hp g' [v] ⟨rv, trivial⟩
          have ls : ∀ xs, litems d = some xs → srcD .one [d] = some xs → ∃ a, v = .ref a ∧ (∃ xs, SqL W.K g'.H a xs) ∧ RR (Itl W.K a) g'.H := fun xs e e' => by
            obtain ⟨a, vs, rfl, h2, h3⟩ := pr.lst xs e
            exact ⟨a, rfl, ⟨vs, h2 g' (hrf g')⟩, src_end (hRl g') ok' p fun ds e2 => by rw [e'] at e2; cases e2; exact it_list (hRl g') h2 h3⟩
          cases d with
          | tup xs =>
            obtain ⟨a, vs, rfl, h2, h3⟩ := pr.tup xs rfl
            exact .inr (.inl ⟨a, rfl, ⟨vs, h2 g' (hrf g')⟩, src_end (hRl g') ok' p fun ds e => by cases e; exact it_tup (hRl g') h2 h3⟩)
          | str z =>
            cases pr.str z rfl
            exact .inr (.inr ⟨z, rfl, src_end (hRl g') ok' p fun ds e => by cases e; exact it_str⟩)
          | lst xs => exact .inl (ls xs rfl rfl)
          | ext xs => exact .inl (ls xs rfl rfl)
          | own xs => exact .inl (ls xs rfl rfl)
          | _ => exact p.elim
  | rng px pp =>
    obtain ⟨h2, h3⟩ := Bool.and_eq_true_iff.mp hw
    obtain ⟨g1, g2, g3⟩ := globC_ok h2
    have hm := hmg "range" (by decide)
    have key : ∀ (s : St) (H : Hp) (RR : It → Hp → Prop), rdT (fun W g ds J => ItOk Rl W g ds J) W h0 wx (fun r M => (evx C es r M).bind fun ss M1 => k ss M1) s H RR →
        rdT RepXL W h0 wx (evx C es) s H fun vs H1 => (∃ j : Int, vs = [.int j] ∧ -(2 ^ 62) ≤ j ∧ j < 2 ^ 62 ∧ RR (Itr 0 j.toNat) H1) ∨ (∃ i j : Int, vs = [.int i, .int j] ∧ (-(2 ^ 62) ≤ i ∧ i < 2 ^ 62 ∧ -(2 ^ 62) ≤ j ∧ j < 2 ^ 62) ∧ RR (Itr i (j - i).toNat) H1) := fun s H RR q => by
      refine rd1 (T' := RepXL) q fun g r ds vs ok er rv p => ?_
      rcases hk ds g.M with hb | ⟨hb, hp⟩
      · rw [hb] at p; exact p.elim
      · rw [hb] at p
        cases e : srcD (.rng px pp) ds with
        | none => rw [e] at p; exact p.elim
        | some xs =>
          rw [e] at p
          unfold srcD at e
          split at e <;> first | (cases e; done) | skip
          all_goals (rename_i heq; cases heq)
          · split at e
            · rename_i hz
              cases e
              obtain ⟨v, rfl, r1⟩ := rv.one
              cases r1.int
              exact .inl ⟨_, rfl, hz.1, hz.2, p g (Ext.refl g) rfl rfl ok _ it_rng⟩
            · cases e
          · split at e
            · rename_i hz
              cases e
              obtain ⟨v, u, rfl, r1, r2⟩ := rv.two
              cases r1.int; cases r2.int
              exact .inr ⟨_, _, rfl, hz, p g (Ext.refl g) rfl rfl ok _ it_rng⟩
            · cases e
    have hl : es.length = 1 ∨ es.length = 2 := by simpa using h3
    have len : ∀ {s : St} {H : Hp} {Q : List V → Hp → Prop}, rdT RepXL W h0 wx (evx C es) s H Q → rdT RepXL W h0 wx (evx C es) s H fun vs H1 => vs.length = es.length ∧ Q vs H1 := fun {s H Q} q => by
      obtain ⟨g, r, e, ok, er, p⟩ := q
      refine ⟨g, r, e, ok, er, ?_⟩
      cases hq : evx C es r g.M with
      | bad => rw [hq] at p; exact p
      | exc c M => rw [hq] at p; exact p
      | ok ds M =>
        rw [hq] at p
        exact fun g' x e1 e2 ok' vs rv => ⟨(rv.length.symm.trans (evx_len hq)), p g' x e1 e2 ok' vs rv⟩
    rcases hl with hl | hl
    · match es, hl with
      | [e], _ =>
        refine PI.imp (pi_range1 g1 hm ha (by rw [show E.exs [e] = [e.ex] from rfl] at *; exact star_ex X.env e [])) fun s H RR q => ?_
        obtain ⟨g, r, e0, ok, er, p⟩ := len (key s H RR q)
        refine ⟨g, r, e0, ok, er, PostT.imp p (fun vs H1 hh => ?_) fun _ _ z => z⟩
        obtain ⟨hv, hh⟩ := hh
        rcases hh with hh | ⟨i, j, e, _⟩
        · exact hh
        · subst e; simp at hv
    · match es, hl with
      | [e, e'], _ =>
        refine PI.imp (pi_range2 g1 hm ha (by show starEach (e.ex :: [e'.ex]) X.env = _; rw [star_ex, star_ex]; rfl) (star_ex X.env e' [])) fun s H RR q => ?_
        obtain ⟨g, r, e0, ok, er, p⟩ := len (key s H RR q)
        refine ⟨g, r, e0, ok, er, PostT.imp p (fun vs H1 hh => ?_) fun _ _ z => z⟩
        obtain ⟨hv, hh⟩ := hh
        rcases hh with ⟨j, e, _⟩ | hh
        · subst e; simp at hv
        · exact hh
  | zip px pp =>
    obtain ⟨hw, h5⟩ := Bool.and_eq_true_iff.mp hw
    obtain ⟨h2, h3⟩ := Bool.and_eq_true_iff.mp hw
    obtain ⟨g1, g2, g3⟩ := globC_ok h2
    have hm := hmg "zip" (by decide)
    have hl : es.length = 2 := by simpa using h3
    cases tg with
    | nm i x p => cases h5
    | tp ts kk tp =>
      match es, hl with
      | [e, e'], _ =>
        refine PI.imp (RZ.pi_zipA g1 hm ha (star_ex X.env e _) (stars_any X.env pp [e'])) fun s H RR q => ?_
        rw [hK]
        refine rd1 (T' := RepXL) q fun g r ds vs ok er rv p => ?_
        rcases hk ds g.M with hb | ⟨hb, hp⟩
        · rw [hb] at p; exact p.elim
        · rw [hb] at p
          have pr := hp g vs rv
          cases e2 : srcD (.zip px pp) ds with
          | none => rw [e2] at p; exact p.elim
          | some xs =>
            rw [e2] at p
            unfold srcD at e2
            split at e2 <;> first | (cases e2; done) | skip
            all_goals (rename_i heq; cases heq)
            obtain ⟨v, u, rfl, r1, r2⟩ := rv.two
            obtain ⟨p1, p2, _⟩ := pr
            split at e2
            · cases e2
              obtain ⟨a, vs, rfl, h6, h7⟩ := p1.tup _ rfl
              obtain ⟨b, us, rfl, h8, h9⟩ := p2.tup _ rfl
              exact ⟨a, b, vs, us, rfl, .inr ⟨h6 g (hrf g), h8 g (hrf g), p g (Ext.refl g) rfl rfl ok _ (it_zipT (hRl g) h6 h8 h7 h9)⟩⟩
            · split at e2
              · rename_i xs ys l1 l2
                cases e2
                obtain ⟨a, vs, rfl, h6, h7⟩ := p1.lst _ l1
                obtain ⟨b, us, rfl, h8, h9⟩ := p2.lst _ l2
                exact ⟨a, b, vs, us, rfl, .inl ⟨h6 g (hrf g), h8 g (hrf g), p g (Ext.refl g) rfl rfl ok _ (it_zip (hRl g) h6 h8 h7 h9)⟩⟩
              · cases e2
  | enm px pp =>
    obtain ⟨hw, h5⟩ := Bool.and_eq_true_iff.mp hw
    obtain ⟨h2, h3⟩ := Bool.and_eq_true_iff.mp hw
    obtain ⟨g1, g2, g3⟩ := globC_ok h2
    have hm := hmg "enumerate" (by decide)
    have hl : es.length = 1 := by simpa using h3
    cases tg with
    | nm i x p => cases h5
    | tp ts kk tp =>
      match es, hl with
      | [e], _ =>
        refine PI.imp (pi_enum g1 hm ha (star_ex X.env e [])) fun s H RR q => ?_
        rw [hK]
        refine rd1 (T' := RepXL) q fun g r ds vs ok er rv p => ?_
        rcases hk ds g.M with hb | ⟨hb, hp⟩
        · rw [hb] at p; exact p.elim
        · rw [hb] at p
          have pr := hp g vs rv
          cases e2 : srcD (.enm px pp) ds with
          | none => rw [e2] at p; exact p.elim
          | some xs =>
            rw [e2] at p
            unfold srcD at e2
            split at e2 <;> first | (cases e2; done) | skip
            all_goals (rename_i heq; cases heq)
            rename_i d
            obtain ⟨v, rfl, r1⟩ := rv.one
            obtain ⟨p1, _⟩ := pr
            cases l1 : litems d with
            | none => rw [l1] at e2; cases e2
            | some ys =>
              rw [l1] at e2; cases e2
              obtain ⟨a, vs, rfl, h6, h7⟩ := p1.lst _ l1
              exact ⟨a, vs, rfl, h6 g (hrf g), p g (Ext.refl g) rfl rfl ok _ (it_enm (hRl g) h6 h7)⟩
end

/-! #### comprehensions -/
/-- one turn -/
def turnE (C : Cfg) (elt : E) (tg : Tg) (ifs : List E) (vs : List Nat) (r : Env) (d : D) : Ev (Option D) := calm fun M => (match tg.put d (wipeD r vs) with
  | some r' => (evT C ifs r' M).bind fun b M2 => (match b with
    | true => (ev C elt r' M2).bind fun y M3 => (kept y M3).bind fun y M4 => .ok (some y) M4
    | false => .ok none M2)
  | none => .bad)
theorem EnvR.wipe {W : Gam} {h0 : List Addr} {g : G} {r : Env} {s : St} (er : EnvR W h0 g r s) : ∀ vs : List Nat, EnvR W h0 g (wipeD r vs) (L2.wipe s vs)
  | [] => er
  | v :: vs => by
    have ih := er.wipe vs
    show EnvR W h0 g ((wipeD r vs).set v none) ((L2.wipe s vs).set v none)
    have at_ : ∀ (j : Nat) (d : D), ((wipeD r vs).set v none)[j]? = some (some d) → v ≠ j ∧ (wipeD r vs)[j]? = some (some d) := fun j d e => by
      by_cases q : v = j
      · subst q
        by_cases hl : v < (wipeD r vs).length
        · rw [List.getElem?_set_self hl] at e; cases e
        · rw [List.getElem?_eq_none (by simpa using hl)] at e; cases e
      · rw [List.getElem?_set_ne q] at e
        exact ⟨q, e⟩
    refine ⟨by simp [ih.len], fun j d e => ?_, fun j xs a h1 h2 => ?_, fun j k xs ys a h1 h2 h3 h4 => ?_⟩
    · obtain ⟨q, e⟩ := at_ j d e
      rw [List.getElem?_set_ne q]
      exact ih.get j d e
    · obtain ⟨q, e⟩ := at_ j _ h1
      rw [List.getElem?_set_ne q] at h2
      exact ih.own j xs a e h2
    · obtain ⟨q, e⟩ := at_ j _ h1
      obtain ⟨q', e'⟩ := at_ k _ h2
      rw [List.getElem?_set_ne q] at h3
      rw [List.getElem?_set_ne q'] at h4
      exact ih.inj j k xs ys a e e' h3 h4
theorem calm_ok {α : Type} {m : Ev α} {M : Mem} : (∃ a M', calm m M = .ok a M' ∧ m M = .ok a M') ∨ calm m M = .bad := by
  unfold calm
  cases h : m M with
  | ok a M' => exact .inl ⟨a, M', rfl, rfl⟩
  | exc c M' => exact .inr rfl
  | bad => exact .inr rfl
theorem mapE_calm {f : D → Ev (Option D)} (hf : ∀ d M c M', f d M ≠ .exc c M') : ∀ (ds : List D) (M : Mem) (c : Nat) (M' : Mem), mapE f ds M ≠ .exc c M'
  | [], _, _, _ => by simp [mapE]
  | d :: ds, M, c, M' => by
    simp only [mapE]
    cases h : f d M with
    | bad => simp [R.bind]
    | exc c' M1 => exact absurd h (hf d M c' M1)
    | ok o M1 =>
      simp only [R.bind]
      cases h2 : mapE f ds M1 with
      | bad => simp [R.bind]
      | exc c' M2 => exact absurd h2 (mapE_calm hf ds M1 c' M2)
      | ok ys M2 => simp [R.bind]
theorem turnE_calm (C : Cfg) (elt : E) (tg : Tg) (ifs : List E) (vs : List Nat) (r : Env) (d : D) (M : Mem) (c : Nat) (M' : Mem) : turnE C elt tg ifs vs r d M ≠ .exc c M' := by
  unfold turnE
  intro h
  rcases calm_ok (m := fun M => (match tg.put d (wipeD r vs) with
    | some r' => (evT C ifs r' M).bind fun b M2 => (match b with
      | true => (ev C elt r' M2).bind fun y M3 => (kept y M3).bind fun y M4 => .ok (some y) M4
      | false => .ok none M2)
    | none => .bad)) (M := M) with ⟨a, M1, e, _⟩ | e
  · rw [e] at h; cases h
  · rw [e] at h; cases h
def delH' (H : Hp) (a : Addr) : Hp := fun b => if b = a then none else H b
theorem upd_del {H : Hp} {a : Addr} {o : HO} (h : H a = some o) : upd (delH' H a) a o = H := by
  funext b
  unfold upd delH'
  split
  · rename_i e; rw [e, h]
  · rfl
section
variable {W : Gam} {g g1 : G} {a : Addr}
/-- the hidden thing at a is forgotten -/
theorem del_ex0 (h : a ∈ g.hid) (hl : ∀ b ∈ g1.hid, b ∈ g.hid) : Ex0 g ⟨g.ph, g.M, g1.hid, delH' g.H a⟩ where
  ph := fun _ _ e => e
  keep := fun b u e n => by
    have ne : b ≠ a := fun q => n (.inr (by rw [q]; exact h))
    refine ⟨by show (if b = a then none else g.H b) = some u; rw [if_neg ne]; exact e, fun z => ?_⟩
    rcases z with z | z
    · exact n (.inl z)
    · exact n (.inr (hl b z))
theorem del_ok (ok : g.Ok W) (h : a ∈ g.hid) (hl : ∀ b ∈ g1.hid, b ∈ g.hid) (hn : a ∉ g1.hid) : G.Ok W ⟨g.ph, g.M, g1.hid, delH' g.H a⟩ where
  len := ok.len
  nd := ok.nd
  has := fun b hb => by
    obtain ⟨u, e⟩ := ok.has b hb
    exact ⟨u, by show (if b = a then none else g.H b) = some u; rw [if_neg (show b ≠ a from fun q => (ok.hh a h).2 (by rw [← q]; exact hb))]; exact e⟩
  hh := fun b hb => by
    obtain ⟨⟨u, e⟩, n⟩ := ok.hh b (hl b hb)
    exact ⟨⟨u, by show (if b = a then none else g.H b) = some u; rw [if_neg (show b ≠ a from fun q => hn (by rw [← q]; exact hb))]; exact e⟩, n⟩
  cell := fun r b c h1 h2 => (ok.cell r b c h1 h2).mono (del_ex0 h hl) fun u e => by
    show (if b = a then none else g.H b) = some u
    rw [if_neg (show b ≠ a from fun q => (ok.hh a h).2 (by rw [← q]; exact List.mem_of_getElem? h1))]; exact e
end
/-- what is held between two turns -/
def LcAt (W : Gam) (C : Cfg) (wx : WXD) (s : St) (Q : VK) (g1 : G) (Da : Addr) (f : D → Ev (Option D)) (ds : List D) (i : Nat) (H : Hp) : Prop :=
  ∃ (g : G) (acc : List D) (av : List V), g.H = H ∧ g.Ok W ∧ Ext g1 g ∧ g.hid = Da :: g1.hid ∧ g.H Da = some (.lst av) ∧ RepL W g acc av ∧
    PostN W g1 ((mapE f (ds.drop i) g.M).bind fun ys M5 => ret (if (acc ++ ys).length ≤ sizeLine then some (.lst (acc ++ ys)) else none) M5) Q (fun c H => wx c s H)
theorem lc_rd {W : Gam} {C : Cfg} {h0 : List Addr} {wx : WXD} {K : PySem.W.Frag} (hK : K = W.K) {elt : E} {tg : Tg} {ifs : List E} {own : List (Str × Nat)} {ms : Env → Ev (List D)} (hsl : ∀ i ∈ tg.slots, i ∈ own.map (·.2)) {s : St} {H : Hp} {Q : VK}
    (q : rdN W h0 wx (fun r M => (ms r M).bind fun ds M1 => (mapE (turnE C elt tg ifs (own.map (·.2)) r) ds M1).bind fun ys M5 => ret (if ys.length ≤ sizeLine then some (.lst ys) else none) M5) s H Q) :
    tLc (rdT (fun W g ds J => ItOk Ext W g ds J) W h0 wx ms) (tg.rd K) (rdT (fun _ _ (b c : Bool) => b = c) W h0 (fun _ _ _ => False) (evT C ifs)) (rdE W h0 (fun _ _ _ => False) (ev C elt)) (own.map (·.2)) s H Q := by
  refine rd1N (T' := fun W g ds J => ItOk Ext W g ds J) q fun g1 r ds J ok1 er1 it1 p1 => ?_
  intro Da hDa
  have okn := ok1.new_ok (o := HO.lst []) hDa
  have xn := ok1.new_ext (o := HO.lst []) hDa
  have nDa : Da ∉ g1.hid := fun h => by
    obtain ⟨o, e⟩ := (ok1.hh Da h).1
    rw [hDa] at e; cases e
  refine ⟨fun i m H => m = ds.length - i ∧ i ≤ ds.length ∧ LcAt W C wx s Q g1 Da (turnE C elt tg ifs (own.map (·.2)) r) ds i H, ⟨ds.length, by simp, Nat.zero_le _, g1.new Da (.lst []), [], [], rfl, okn, xn, rfl, upd_same, .nil, ?_⟩, ?_⟩
  · rw [show (g1.new Da (HO.lst [])).M = g1.M from rfl, List.drop_zero]
    exact p1
  · rintro i m H2 ⟨rfl, hi2, g, acc, av, e0, okg, xg, ehid, hD, rv, p2⟩
    subst e0
    have hDin : Da ∈ g.hid := by rw [ehid]; exact List.mem_cons_self
    have hsub : ∀ b ∈ g1.hid, b ∈ g.hid := fun b hb => by rw [ehid]; exact List.mem_cons_of_mem _ hb
    by_cases hlt : i < ds.length
    · refine .inr ⟨it1.go i g xg hlt, fun H' => LcAt W C wx s Q g1 Da (turnE C elt tg ifs (own.map (·.2)) r) ds (i + 1) H', fun H' h => ⟨ds.length - (i + 1), by omega, rfl, hlt, h⟩, fun x H' hy => ?_⟩
      obtain ⟨g2, d, x2, eh2, em2, ok2, eH2, hd, rd, nd⟩ := it1.yld i g x H' xg okg hlt hy
      subst eH2
      have hdrop : ds.drop i = d :: ds.drop (i + 1) := by
        rw [List.drop_eq_getElem_cons hlt]
        rw [List.getElem?_eq_getElem hlt] at hd
        rw [Option.some.inj hd]
      rw [hdrop] at p2
      simp only [mapE] at p2
      rw [← em2] at p2
      rcases calm_ok (m := fun M => (match tg.put d (wipeD r (own.map (·.2))) with
        | some r' => (evT C ifs r' M).bind fun b M2 => (match b with
          | true => (ev C elt r' M2).bind fun y M3 => (kept y M3).bind fun y M4 => .ok (some y) M4
          | false => .ok none M2)
        | none => .bad)) (M := g2.M) with ⟨o, M1, ec, em⟩ | ec
      rotate_left
      · have eb : turnE C elt tg ifs (own.map (·.2)) r d g2.M = .bad := ec
        rw [eb] at p2
        exact p2.elim
      · have et : turnE C elt tg ifs (own.map (·.2)) r d g2.M = .ok o M1 := ec
        rw [et] at p2
        simp only [R.bind] at p2
        split at em
        · rename_i r' hput
          have er2 : EnvR W h0 g2 r s := (er1.mono xg).mono x2
          refine Tg.put_ok K hK tg (er2.wipe _) rd nd hput fun s' er' hw => ⟨?_, ?_⟩
          · rw [hw _ hsl, wipe_wipe fun _ h => h]
          · refine ⟨g2, r', rfl, ok2, er', ?_⟩
            cases hb : evT C ifs r' g2.M with
            | bad => rw [hb] at em; cases em
            | exc c M2 => rw [hb] at em; cases em
            | ok b M2 =>
              rw [hb] at em
              simp only [R.bind] at em
              intro g3 x3 eh3 em3 ok3 b' eb
              subst em3 eb
              have xg3 : Ext g1 g3 := xg.trans (x2.trans x3)
              have eh3' : g3.hid = Da :: g1.hid := eh3.trans (eh2.trans ehid)
              have hD3 : g3.H Da = some (.lst av) := (x3.hs Da (by rw [eh2]; exact hDin)).2.trans ((x2.hs Da hDin).2.trans hD)
              have rv3 : RepL W g3 acc av := (rv.mono x2.toEx0).mono x3.toEx0
              cases b with
              | false =>
                rw [if_neg (by decide)]
                simp only [R.ok.injEq] at em
                obtain ⟨eo, eM⟩ := em
                subst eo eM
                refine ⟨g3, acc, av, rfl, ok3, xg3, eh3', hD3, rv3, ?_⟩
                cases hm : mapE (turnE C elt tg ifs (own.map (·.2)) r) (ds.drop (i + 1)) g3.M with
                | bad => rw [hm] at p2; exact p2
                | exc c M5 => exact absurd hm (mapE_calm (turnE_calm C elt tg ifs _ r) _ _ _ _)
                | ok ys M5 => rw [hm] at p2; exact p2
              | true =>
                rw [if_pos rfl]
                refine ⟨g3, r', rfl, ok3, er'.mono x3, ?_⟩
                cases hy2 : ev C elt r' g3.M with
                | bad => rw [hy2] at em; cases em
                | exc c M3 => rw [hy2] at em; cases em
                | ok y M3 =>
                  rw [hy2] at em
                  simp only [R.bind] at em
                  by_cases hn : nown y = true
                  · unfold kept at em
                    rw [if_pos hn] at em
                    simp only [R.ok.injEq] at em
                    obtain ⟨eo, eM⟩ := em
                    subst eo eM
                    intro g4 x4 eh4 em4 ok4 v rvy
                    subst em4
                    have hD4 : g4.H Da = some (.lst av) := (x4.hs Da (by rw [eh3']; exact List.mem_cons_self)).2.trans hD3
                    have hDin4 : Da ∈ g4.hid := by rw [eh4, eh3']; exact List.mem_cons_self
                    have rv4 := rv3.mono x4.toEx0
                    have ry : Rep W g4 y v := rvy.rep hn
                    cases hm : mapE (turnE C elt tg ifs (own.map (·.2)) r) (ds.drop (i + 1)) g4.M with
                    | bad => rw [hm] at p2; exact p2.elim
                    | exc c M5 => exact absurd hm (mapE_calm (turnE_calm C elt tg ifs _ r) _ _ _ _)
                    | ok ys M5 =>
                      rw [hm] at p2
                      simp only [R.bind] at p2
                      have hlen : (acc ++ y :: ys).length ≤ sizeLine := by
                        by_cases hl : (acc ++ y :: ys).length ≤ sizeLine
                        · exact hl
                        · rw [if_neg hl] at p2; exact p2.elim
                      refine ⟨av, hD4, by rw [← rv4.length]; simp at hlen; omega, g4.hw Da (.lst (av ++ [v])), acc ++ [y], av ++ [v], rfl, ok4.hw_ok hDin4, ?_, by show g4.hid = _; rw [eh4, eh3'], upd_same, (rv4.snoc ry).mono (ok4.hw_ext hDin4), ?_⟩
                      · have x14 : Ext g1 g4 := xg3.trans x4
                        refine ⟨x14.toEx0.trans (ok4.hw_ext hDin4), fun b hb => ⟨(x14.hs b hb).1, ?_⟩⟩
                        show upd g4.H Da _ b = g1.H b
                        rw [upd_ne (show b ≠ Da from fun q => nDa (by rw [← q]; exact hb))]
                        exact (x14.hs b hb).2
                      · show PostN W g1 ((mapE (turnE C elt tg ifs (own.map (·.2)) r) (ds.drop (i + 1)) g4.M).bind _) Q _
                        rw [hm]
                        simp only [R.bind]
                        rw [List.append_assoc]
                        exact p2
                  · unfold kept at em
                    rw [if_neg hn] at em
                    cases em
        · cases em
    · have ei : i = ds.length := by omega
      subst ei
      refine .inl ⟨it1.stop g xg, ?_⟩
      rw [List.drop_length] at p2
      simp only [mapE, R.bind, List.append_nil] at p2
      by_cases hl : acc.length ≤ sizeLine
      · rw [if_pos hl] at p2
        have key := p2 ⟨g.ph, g.M, g1.hid, delH' g.H Da⟩ Da av ⟨xg.toEx0.trans (del_ex0 hDin hsub), fun b hb => ⟨hb, ?_⟩⟩ rfl rfl (del_ok okg hDin hsub nDa) (by show (if Da = Da then none else _) = none; rw [if_pos rfl]) (rv.mono (del_ex0 hDin hsub))
        · rw [show upd (delH' g.H Da) Da (.lst av) = g.H from upd_del hD] at key
          exact key
        · show (if b = Da then none else g.H b) = g1.H b
          rw [if_neg (show b ≠ Da from fun q => nDa (by rw [← q]; exact hb))]
          exact (xg.hs b hb).2
      · rw [if_neg hl] at p2
        exact p2.elim
theorem lc_ok {W : Gam} {C : Cfg} {X : Cx} {h0 : List Addr} {wx : WXD} (hK : X.K = W.K) (hc : X.calm = true) (hN : X.N.Nodup) {elt : E} {tg : Tg} {src : Expr} {ifs : List E} {scope : Scope} {own : List (Str × Nat)} {p : Pos} {ms : Env → Ev (List D)}
    (hi : PI X tg.ex src (rdT (fun W g ds J => ItOk Ext W g ds J) W h0 wx ms)) (ok : BlkOk X.N X.env.scope scope own) (hfs : ∀ x, foldedSetIterable src X.env x = pure x)
    (htg : tg.wf X.N (relS scope X.env.scope) (fun x => scope.names.lookup x == some .cell) = true) (hsl : ∀ i ∈ tg.slots, i ∈ own.map (·.2))
    (ht : ∀ (s : Shared) (H : Hp) (C' : Addr) (cl : List (Str × Addr)) (fp : List Addr), PTs (X.blk s H scope (compEnvC scope cl C' X.env) fp) (E.exs ifs) (rdT (fun _ _ (b c : Bool) => b = c) W h0 (fun _ _ _ => False) (evT C ifs)))
    (he : ∀ (s : Shared) (H : Hp) (C' : Addr) (cl : List (Str × Addr)) (fp : List Addr), PE (X.blk s H scope (compEnvC scope cl C' X.env) fp) elt.ex (rdE W h0 (fun _ _ _ => False) (ev C elt))) :
    PE X (.ListComp elt.ex [⟨tg.ex, src, E.exs ifs, 0⟩] scope p) (rdN W h0 wx (fun r M => (ms r M).bind fun ds M1 => (mapE (turnE C elt tg ifs (own.map (·.2)) r) ds M1).bind fun ys M5 => ret (if ys.length ≤ sizeLine then some (.lst ys) else none) M5)) ∧
    ∀ (i : Nat) (y : Str) (py sp : Pos), X.N[i]? = some y → X.env.scope.names.lookup y = some .local → X.env.scope.kind = .function → (py.line == p.line) = true → (scope.names.any fun (n, k) => n == y && (k == .local || k == .cell)) = false →
      PS X (.Assign [.Name y py] (.ListComp elt.ex [⟨tg.ex, src, E.exs ifs, 0⟩] scope p) sp) (tAsg (rdN W h0 wx (fun r M => (ms r M).bind fun ds M1 => (mapE (turnE C elt tg ifs (own.map (·.2)) r) ds M1).bind fun ys M5 => ret (if ys.length ≤ sizeLine then some (.lst ys) else none) M5)) (gName i)) := by
  have hg : ∀ (s : Shared) (H : Hp) (C' : Addr) (cl : List (Str × Addr)) (fp : List Addr), PG (X.blk s H scope (compEnvC scope cl C' X.env) fp) tg.ex (tg.rd X.K) := fun s H C' cl fp =>
    pg_tg (X := X.blk s H scope (compEnvC scope cl C' X.env) fp) hN hc tg htg
  refine ⟨PE.imp (pe_lc hc hN hi ok hg ht he hfs) fun s H Q q => lc_rd hK hsl q, fun i y py sp hy hl hk hln hany => ?_⟩
  have h := ps_setLc (i := i) (y := y) (py := py) (spos := sp) hc hN hy hl (sw_true hk hl hln hany) hi ok hg ht he hfs
  exact ⟨fun pins s σ H D I q => h.run pins s σ H D I (lc_rd hK hsl q)⟩
end L2.Z
set_option Elab.async false
set_option linter.all false
set_option maxRecDepth 100000
set_option maxHeartbeats 1000000
/-! ### sorted, by a key too -/
namespace L2.Z
open PySem PySem.Spec PyProof.Rows

/-- the promise of a def: what the run says -/
def spD (W : Gam) (c : List D → Ev D) : Sp := fun vs H Q E => ∃ (g : G) (ds : List D), g.H = H ∧ g.Ok W ∧ RepL W g ds vs ∧ PostT (Rep W) W g (c ds g.M) Q (fun c H => E (.ref (W.ca c)) none H)
theorem and2 {a b : Bool} (h : (a && b) = true) : a = true ∧ b = true := Bool.and_eq_true_iff.mp h
theorem Inv.track {X : Cx} {pins : List (Addr × Obj)} {σ : St} {H : Hp} {s : Shared} {a : Addr} {o : HO} (I : Inv X pins σ H s) (na : H a = none) (n0 : X.s_0.heap.get? a = none) (nL : a ≠ X.env.locals)
    (nc : ∀ x c, X.env.cells.lookup x = some c → c ≠ a) (np : ∀ p ∈ X.pn ++ pins, p.1 ≠ a) (new : ObjOk X.prog X.w (upd H a o) s.heap a o) : Inv X pins σ (upd H a o) s := by
  have ne : ∀ b u, H b = some u → b ≠ a := fun b u e z => by rw [z, na] at e; cases e
  refine ⟨I.ok, I.os, I.bare, ⟨I.base.keep, I.base.slot, fun b ob e n hx => ?_, I.base.there, fun b xs e => ?_, fun b ob u e => ?_, fun b ps e => ?_⟩, I.loc, I.cell, ?_, fun x c e => ?_, fun p hp => ?_, fun b u e => ?_, I.len⟩
  · rw [upd_ne (show b ≠ a from fun z => by rw [z, n0] at e; cases e)]
    exact I.base.free b ob e n hx
  · have q := I.base.tups b xs e
    rw [upd_ne (ne b _ q)]; exact q
  · have q := I.base.frzs b ob u e
    rw [upd_ne (ne b _ q)]; exact q
  · obtain ⟨more, q⟩ := I.base.tbls b ps e
    exact ⟨more, by rw [upd_ne (ne b _ q)]; exact q⟩
  · rw [upd_ne (Ne.symm nL)]; exact I.free
  · rw [upd_ne (nc x c e)]; exact I.freeC x c e
  · obtain ⟨e, n, ne', nf, d⟩ := I.pin p hp
    exact ⟨e, by rw [upd_ne (np p hp)]; exact n, ne', nf, d⟩
  · by_cases hb : b = a
    · subst hb; rw [upd_same] at e; cases e; exact new
    · rw [upd_ne hb] at e
      exact (I.hok b u e).stay (fun c v _ q => q) (fun c q => by rw [upd_ne (ne c _ q)]; exact q) fun c xs q => by rw [upd_ne (ne c _ q)]; exact q

/-- untracked records of ours have turned -/
theorem Inv.turnedL {X : Cx} {pins : List (Addr × Obj)} {σ : St} {H : Hp} {s : Shared} {h' : Heap} {t' : Nat} {l : List Addr} (I : Inv X pins σ H s) (k : ∀ b o, b ∉ l → s.heap.get? b = some o → h'.get? b = some o) (hn : ∀ it ∈ l, H it = none)
    (hl : ∀ it ∈ l, (it ∈ X.ex ∨ X.s_0.heap.objs.size ≤ it) ∧ it ≠ X.env.locals ∧ (∀ x c, X.env.cells.lookup x = some c → c ≠ it) ∧ ∀ p ∈ X.pn ++ pins, p.1 ≠ it) : Inv X pins σ H { s with heap := h', toks := t' } := by
  have nit : ∀ b u, H b = some u → b ∉ l := fun b u e z => by rw [hn b z] at e; cases e
  refine I.step (g' := s.gens) (d' := s.drawn) (ch := l) hl (fun b o _ _ hc e _ => k b o hc e) (fun b o _ _ hc e _ => ⟨o.slots, k b o hc e⟩) (fun _ _ _ _ n => n)
    (fun b o hc e => ⟨o, k b o hc e⟩) (fun _ _ e => e) (fun _ _ _ e => e) (fun b ps e => ⟨#[], by rw [e]; simp⟩) (fun m hm => ?_) (fun b u e => ?_) I.bare
  · obtain ⟨o, es, ep, ho, r⟩ := hm
    exact ⟨o, es, ep, k _ o (fun z => (hl _ z).2.1 rfl) ho, r⟩
  · refine (I.hok b u e).stay (fun c v hc q => k c v ?_ q) (fun _ q => q) fun _ _ q => q
    rcases hc with z | z
    · rw [z]; exact nit b u e
    · exact nit c _ z
/-- an address that is new at s lies apart from all that the context knows -/
theorem Inv.newAt {X : Cx} {pins : List (Addr × Obj)} {σ : St} {H : Hp} {s : Shared} (I : Inv X pins σ H s) {a : Addr} (h : s.heap.objs.size ≤ a) :
    H a = none ∧ X.s_0.heap.objs.size ≤ a ∧ a ≠ X.env.locals ∧ a ∉ X.fs ∧ (∀ x c, X.env.cells.lookup x = some c → c ≠ a) ∧ (∀ p ∈ X.pn ++ pins, p.1 ≠ a) ∧ X.s_0.heap.get? a = none := by
  have lt : ∀ b o, s.heap.get? b = some o → b ≠ a := fun b o e z => by
    rw [z] at e
    exact Nat.lt_irrefl _ (Nat.lt_of_lt_of_le (Heap.lt_size e) h)
  refine ⟨I.hok.fresh h, Nat.le_trans I.sz h, fun z => ?_, I.nofs h, fun x c e => ?_, fun p hp => lt p.1 p.2 (I.pin p hp).1, Heap.get?_none_of_le (Nat.le_trans I.sz h)⟩
  · have := I.lt
    rw [← z] at this
    exact Nat.lt_irrefl _ (Nat.lt_of_lt_of_le this h)
  · obtain ⟨v, o, ho, _⟩ := I.cell x c e
    exact lt c o ho

theorem toPys_map : ∀ ds : List D, toPys ds = ds.map toPy
  | [] => rfl
  | d :: ds => by rw [List.map_cons, ← toPys_map ds]; rfl
theorem alikeD_ok {ks : List D} (h : alikeD ks = true) : PySem.W.AllAlike (ks.map toPy) := by
  unfold alikeD at h
  rw [toPys_map] at h
  intro d hd d' hd'
  exact List.all_eq_true.mp (List.all_eq_true.mp h d hd) d' hd'
theorem sortableD_ok {ks : List D} (h : sortableD ks = true) : PySem.W.Sortable (ks.map toPy) := by
  unfold sortableD at h
  rcases Bool.or_eq_true_iff.mp h with h | h
  · refine .inl fun d hd => ?_
    obtain ⟨k, hk, rfl⟩ := List.mem_map.mp hd
    have q := List.all_eq_true.mp h k hk
    cases k <;> first | (cases q; done) | skip
    rename_i xs
    cases xs with
    | nil => cases q
    | cons x xs => exact ⟨toPy x, toPys xs, by simp only [toPy, toPys]⟩
  · refine .inr fun d hd => ?_
    obtain ⟨k, hk, rfl⟩ := List.mem_map.mp hd
    have q := List.all_eq_true.mp h k hk
    cases k <;> first | (cases q; done) | (exact ⟨by simp [toPy], by intro xs; simp [toPy]⟩)
theorem deps_le : ∀ {ks : List D} {k : D}, k ∈ ks → dep k ≤ deps ks
  | _ :: _, _, h => by
    simp only [deps]
    rcases List.mem_cons.mp h with q | q
    · subst q; exact Nat.le_max_left _ _
    · exact Nat.le_trans (deps_le q) (Nat.le_max_right _ _)
theorem pyOks_mem : ∀ {ks : List D} {k : D}, pyOks ks = true → k ∈ ks → pyOk k = true
  | _ :: _, _, h, hk => by
    simp only [pyOks, Bool.and_eq_true] at h
    rcases List.mem_cons.mp hk with q | q
    · subst q; exact h.1
    · exact pyOks_mem h.2 q
theorem sortOk_ok {ks : List D} (h : sortOk ks = true) : pyOks ks = true ∧ deps ks ≤ 60 ∧ PySem.W.AllAlike (ks.map toPy) ∧ PySem.W.Sortable (ks.map toPy) := by
  unfold sortOk at h
  simp only [Bool.and_eq_true, decide_eq_true_eq] at h
  exact ⟨h.1.1.1, h.1.1.2, alikeD_ok h.1.2, sortableD_ok h.2⟩
section
variable {X : Cx} {W : Gam} {g : G}
/-- values that stand for data -/
def Stand (W : Gam) (g : G) (u : Value) (d : D) : Prop := ∃ v, RelV v u ∧ Rep W g d v
theorem stand_all : ∀ {ds : List D} {vs : List V} {us : List Value}, RepL W g ds vs → Vals vs us → PySem.W.EachIs (Stand W g) us ds
  | [], _, _, .nil, .nil => .nil
  | _ :: _, _, _, .cons r t, .cons q s => .cons ⟨_, q, r⟩ (stand_all t s)
theorem all_stand : ∀ {us : List Value} {ds : List D}, PySem.W.EachIs (Stand W g) us ds → ∃ vs, RepL W g ds vs ∧ Vals vs us
  | [], [], .nil => ⟨[], .nil, .nil⟩
  | _ :: _, _ :: _, .cons ⟨v, q, r⟩ t => let ⟨vs, h1, h2⟩ := all_stand t; ⟨v :: vs, .cons r h1, .cons q h2⟩
theorem stand_reads {pins : List (Addr × Obj)} {σ : St} {s : Shared} (hK : X.K = W.K) (I : Inv X pins σ g.H s) : ∀ {us : List Value} {ds : List D}, PySem.W.EachIs (Stand W g) us ds → pyOks ds = true → PySem.W.EachIs (fun v k => ∃ as, Reads s.heap v k as) us (ds.map toPy)
  | [], [], .nil, _ => .nil
  | _ :: _, _ :: _, .cons ⟨v, q, r⟩ t, h => by
    simp only [pyOks, Bool.and_eq_true] at h
    refine .cons (Dp.reads I _ v _ (by rw [hK]; exact Rep.dp _ _ r h.1) q) (stand_reads hK I t h.2)
end
section
variable {X : Cx} {W : Gam}
theorem key_call {k : Nat} {f : Addr} {fd : FuncData} {ps : List Str} {sp : Sp} {pins : List (Addr × Obj)} {σ : St} {H : Hp} {s : Shared} {Q : VK} {u : Value} {v : V} (F : FnOk X.prog X.w X.K X.mg X.base (L2.CX X.prog X.w) k f fd ps sp) (hr : Room k X.A.in1.in1) (hb : Binds X.K fd ps [])
    (I : Inv X pins σ H s) (r : RelV v u) (h : sp [v] H Q (fun _ _ _ => False)) : wpAny (model X.prog X.w) X.A.in1.in1 (call (.ref f) [u]) (EP X pins σ Q) (fun _ _ => False) s := by
  have e0 : Env0 X.prog X.w X.K X.mg X.base X.A.in1.in1 X.stack s H := { I.env0 with frames := I.env0.frames }
  have hl : ([u] ++ []).length = ps.length := by have := F.len _ _ _ _ h; simpa using this
  refine wpAny_call (codeAny_mono (F.run X.A.in1.in1 X.stack s H ⟨[u], []⟩ ([u] ++ []) [v] Q (fun _ _ _ => False) hr e0 (hb s [u] I.kIn hl) (.cons r .nil) h) fun r s' hq => ?_)
  cases r with
  | error e =>
    obtain ⟨a, B, H', cls, d, _, _, _, _, _, _, _, hF⟩ := hq
    exact hF
  | ok fl =>
    cases fl with
    | ret u => exact I.after hq
    | next => exact False.elim hq
    | brk => exact False.elim hq
    | cont => exact False.elim hq
/-- what is wanted behind the keys -/
def KPost (W : Gam) (g : G) (r : R (List D)) (Z : G → List D → Prop) : Prop := match r with
  | .ok ks M => ∀ g', Ext g g' → g'.hid = g.hid → g'.M = M → g'.Ok W → Z g' ks
  | _ => False
theorem KPost.mono {g g1 : G} {r : R (List D)} {Z : G → List D → Prop} (h : KPost W g r Z) (x : Ext g g1) (e : g1.hid = g.hid) : KPost W g1 r Z := by
  cases r with
  | ok d M => exact fun g' y e1 => h g' (x.trans y) (e1.trans e)
  | exc c M => exact h
  | bad => exact h
theorem EachIs.mono2 {α β : Type} {R R' : α → β → Prop} (h : ∀ a b, R a b → R' a b) : ∀ {as : List α} {bs : List β}, PySem.W.EachIs R as bs → PySem.W.EachIs R' as bs
  | _, _, .nil => .nil
  | _, _, .cons q t => .cons (h _ _ q) (EachIs.mono2 h t)
theorem EachIs.snoc2 {α β : Type} {R : α → β → Prop} {a : α} {b : β} (q : R a b) : ∀ {as : List α} {bs : List β}, PySem.W.EachIs R as bs → PySem.W.EachIs R (as ++ [a]) (bs ++ [b])
  | _, _, .nil => .cons q .nil
  | _, _, .cons p t => .cons p (EachIs.snoc2 q t)
theorem EachIs.at2 {α β : Type} {R : α → β → Prop} : ∀ {as : List α} {bs : List β} {i : Nat} {a : α}, PySem.W.EachIs R as bs → as[i]? = some a → ∃ b, bs[i]? = some b ∧ R a b
  | _, _, _, _, .nil, h => by simp at h
  | _, _, 0, _, .cons q _, h => by simp at h; subst h; exact ⟨_, rfl, q⟩
  | _, _, i + 1, _, .cons _ t, h => by
    obtain ⟨b, h1, h2⟩ := EachIs.at2 (i := i) t (by simpa using h)
    exact ⟨b, by simpa using h1, h2⟩
theorem Stand.mono {g g' : G} (x : Ex0 g g') {u : Value} {d : D} (h : Stand W g u d) : Stand W g' u d := let ⟨v, q, r⟩ := h; ⟨v, q, r.mono x⟩

/-- the keys are told, one by one -/
theorem srk_rest {k : Nat} {f : Nat} {fd : FuncData} {ps : List Str} {call' : List D → Ev D} {pins : List (Addr × Obj)} {σ : St} {s : Shared} {a kS : Addr} {e1 : Nat} {us : List Value} {xs : List D} {g : G} {P : PySem.Fin → Shared → Prop} {E : Value → Shared → Prop} {Z : G → List D → Prop}
    (F : FnOk X.prog X.w X.K X.mg X.base (L2.CX X.prog X.w) k (W.fa f) fd ps (fun vs H Q E => vs.length = ps.length ∧ spD W call' vs H Q E)) (hps : ps.length = 1) (hr : Room k X.A.in1.in1) (hb : Binds X.K fd ps []) (hK : X.K = W.K)
    (ok : g.Ok W) (I : Inv X ((a, seqObj "list" #[] e1) :: (kS, seqObj "list" #[] 0) :: pins) σ g.H s) (hka : kS ≠ a) (hk0 : X.s_0.heap.objs.size ≤ kS) (hkc : ∀ x c, X.env.cells.lookup x = some c → c ≠ kS) (hkp : ∀ p ∈ X.pn ++ pins, p.1 ≠ kS)
    (hz : us.length ≤ sizeLine) (st : PySem.W.EachIs (Stand W g) us xs) (kp : KPost W g (keysE call' xs g.M) Z)
    (h : ∀ (g' : G) (ks : List D) (kA : Array Value) (e : Nat) (s' : Shared), g'.Ok W → Ext g g' → Z g' ks → ks.length = us.length → PySem.W.EachIs (Stand W g') kA.toList ks → Inv X ((a, seqObj "list" #[] e1) :: (kS, seqObj "list" kA e) :: pins) σ g'.H s' →
      wpAny (model X.prog X.w) X.A.in1.in1 (PyProof.Rows.ksk_end a false us.toArray e1 (.ref kS) kA) P E s') :
    wpAny (model X.prog X.w) X.A.in1.in1 (PyProof.Rows.ksk_rest a (.ref (W.fa f)) false us.toArray e1 (.ref kS)) P E s := by
  unfold PyProof.Rows.ksk_rest
  refine wpAny_bind (wpAny_rule ?_)
  rw [List.forIn_toArray]
  have hlen : us.length = xs.length := st.length
  refine wpAny_bind (PyProof.Rows.ksk_fold (fun i s' => ∃ (g' : G) (ks : List D) (kA : Array Value) (e : Nat), g'.Ok W ∧ Ext g g' ∧ g'.hid = g.hid ∧ ks.length = i ∧ PySem.W.EachIs (Stand W g') kA.toList ks ∧ Inv X ((a, seqObj "list" #[] e1) :: (kS, seqObj "list" kA e) :: pins) σ g'.H s' ∧
    KPost W g' ((keysE call' (xs.drop i) g'.M).bind fun ks' M => .ok (ks ++ ks') M) Z) us 0 s ⟨g, [], #[], 0, ok, Ext.refl g, rfl, rfl, .nil, I, ?_⟩ ?step ?done)
  · show KPost W g ((keysE call' xs g.M).bind fun ks' M => .ok ([] ++ ks') M) Z
    cases hq : keysE call' xs g.M with
    | ok ks M => rw [hq] at kp; exact kp
    | exc c M => rw [hq] at kp; exact kp
    | bad => rw [hq] at kp; exact kp
  case step =>
    rintro j u s' hu ⟨g', ks, kA, e, ok', x, hh, hkl, hks, J, q⟩
    rw [Nat.zero_add] at hkl q ⊢
    have hj : j < us.length := (List.getElem?_eq_some_iff.mp hu).1
    obtain ⟨d, hd, v, rv, rd⟩ := EachIs.at2 st hu
    have ed : xs.drop j = d :: xs.drop (j + 1) := by
      obtain ⟨h1, h2⟩ := List.getElem?_eq_some_iff.mp hd
      rw [List.drop_eq_getElem_cons h1, h2]
    rw [ed] at q
    simp only [keysE] at q
    have rd' := rd.mono x.toEx0
    cases hc : call' [d] g'.M with
    | bad => rw [hc] at q; exact q.elim
    | exc c M => rw [hc] at q; exact q.elim
    | ok kd M1 =>
      rw [hc] at q
      simp only [R.bind] at q
      refine wpAny_bind (wpAny_attempt (wpAny_mono (key_call (Q := fun v H' => ∃ g2 : G, g2.H = H' ∧ g2.Ok W ∧ Ext g' g2 ∧ g2.hid = g'.hid ∧ g2.M = M1 ∧ Rep W g2 kd v) F hr hb J rv ⟨by simp [hps], g', [d], rfl, ok', .cons rd' .nil, ?_⟩) (fun w s2 he => ?_) fun _ _ hF => hF.elim))
      · rw [hc]
        exact fun g2 x2 h2 m2 ok2 v2 r2 => ⟨g2, rfl, ok2, x2, h2, m2, r2⟩
      · obtain ⟨vk, H2, J2, rvk, g2, rfl, ok2, x2, h2, m2, rk⟩ := he
        try dsimp only
        have nk : s2.heap.get? kS = some (seqObj "list" kA e) := (J2.pin (kS, seqObj "list" kA e) (List.mem_append_right _ (by simp))).1
        have fk := J2.pin (kS, seqObj "list" kA e) (List.mem_append_right _ (by simp))
        have fa := J2.pin (a, seqObj "list" #[] e1) (List.mem_append_right _ (by simp))
        have sz : kA.size = j := by
          have := hks.length
          rw [Array.length_toList] at this
          omega
        have s1 := Heap.SameBut.update s2.heap kS (Obj.mapSeq (·.push w))
        obtain ⟨c2, hc2⟩ : ∃ c2, (s2.heap.update kS (Obj.mapSeq (·.push w))).get? kS = some (seqObj "list" (kA.push w) c2) := ⟨_, get?_update_seq nk (·.push w)⟩
        refine wpAny_bind (listUpdate_at nk rfl ?_ (by rw [sz]; omega) (by rw [Array.size_push, sz]; omega))
        have J3 : Inv X ((a, seqObj "list" #[] e1) :: pins) σ g2.H s2 := J2.pins_of fun p hp => J2.pin p (List.mem_append_right _ (by
          rcases List.mem_cons.mp hp with q | q
          · rw [q]; exact List.mem_cons_self
          · exact List.mem_cons_of_mem _ (List.mem_cons_of_mem _ q)))
        have J4 := Inv.turnedL (l := [kS]) (t' := s2.toks) (h' := s2.heap.update kS (Obj.mapSeq (·.push w))) J3 (fun b o hb e => (s1.2 b (by simpa using hb)).trans e) (fun it hit => by
          have : it = kS := by simpa using hit
          rw [this]; exact fk.2.1) (fun it hit => by
          have : it = kS := by simpa using hit
          subst this
          refine ⟨.inr hk0, fk.2.2.1, hkc, fun p hp => ?_⟩
          rcases List.mem_append.mp hp with z | z
          · exact hkp p (List.mem_append_left _ z)
          · rcases List.mem_cons.mp z with z | z
            · rw [z]; exact hka.symm
            · exact hkp p (List.mem_append_right _ z))
        have J5 := J4.pins_of (pins' := (a, seqObj "list" #[] e1) :: (kS, seqObj "list" (kA.push w) c2) :: pins) fun p hp => by
          rcases List.mem_cons.mp hp with z | z
          · exact J4.pin p (List.mem_append_right _ (by rw [z]; exact List.mem_cons_self))
          · rcases List.mem_cons.mp z with z | z
            · rw [z]; exact ⟨hc2, fk.2.1, fk.2.2.1, fk.2.2.2.1, fun v q => by cases q⟩
            · exact J4.pin p (List.mem_append_right _ (List.mem_cons_of_mem _ z))
        refine wpAny_pure ⟨rfl, g2, ks ++ [kd], kA.push w, c2, ok2, x.trans x2, h2.trans hh, by simp [hkl], ?_, J5, ?_⟩
        · rw [show (kA.push w).toList = kA.toList ++ [w] by simp]
          exact EachIs.snoc2 ⟨vk, rvk, rk⟩ (EachIs.mono2 (fun _ _ z => Stand.mono x2.toEx0 z) hks)
        · rw [m2]
          have q2 := KPost.mono q x2 h2
          cases hr2 : keysE call' (xs.drop (j + 1)) M1 with
          | bad => rw [hr2] at q2; exact q2.elim
          | exc c M => rw [hr2] at q2; exact q2.elim
          | ok ks' M2 =>
            rw [hr2] at q2
            simp only [R.bind] at q2 ⊢
            rw [List.append_assoc]
            exact q2
  case done =>
    rintro s' ⟨g', ks, kA, e, ok', x, hh, hkl, hks, J, q⟩
    rw [Nat.zero_add] at hkl q
    have e0 : xs.drop us.length = [] := List.drop_of_length_le (by omega)
    rw [e0] at q
    simp only [keysE, R.bind, List.append_nil] at q
    have nk : s'.heap.get? kS = some (seqObj "list" kA e) := (J.pin (kS, seqObj "list" kA e) (List.mem_append_right _ (by simp))).1
    refine wpAny_bind (listItems_at nk rfl ?_)
    exact h g' ks kA e s' ok' x (q g' (Ext.refl g') rfl rfl ok') hkl hks J
/-- what is sorted: a list, a tuple -/
structure Seq0 (P : Program) (w : World) (l : Addr) (its : List Value) (s : Shared) : Prop where
  col : ∀ (A : Around) (E : Value → Shared → Prop) (Q : List Value → Shared → Prop), Q its { s with heap := (s.heap.push (seqObj "list" #[] 0)).update s.heap.objs.size (Obj.mapSeq (· ++ its.toArray)) } → wpAny (model P w) A (collect (.ref l)) Q E s
theorem seq0_list {P : Program} {w : World} {l : Addr} {its : List Value} {s : Shared} (hl : s.heap.IsList l its.toArray) (hz : its.length ≤ sizeLine) : Seq0 P w l its s := ⟨fun A E Q h => collect_list hl h hz⟩
theorem seq0_tup {P : Program} {w : World} {l : Addr} {its : List Value} {s : Shared} (hl : IsTup s.heap l its.toArray) (hz : its.length ≤ sizeLine) : Seq0 P w l its s := ⟨fun A E Q h => by
  obtain ⟨o, ho, hc, n, hd⟩ := id hl
  unfold collect
  refine wpAny_bind (wpAny_runValue (codeAny_builtin entry_proto_collect' ?_))
  show wpAny _ _ (do again (.builtin "list.__iadd__" ⟨[← newList [], .ref l], []⟩)) _ _ s
  refine wpAny_bind (wpAny_newList (wpAny_pure ⟨Code.quiet_builtin _ (by decide +kernel), codeAny_builtin entry_list_iadd' ?_⟩))
  show wpAny _ _ (Builtin.List.listExtendWith (.ref s.heap.objs.size) (.ref l) (.ref s.heap.objs.size)) _ _ { s with heap := s.heap.push (seqObj "list" #[] 0) }
  unfold Builtin.List.listExtendWith
  have ho' : (s.heap.push (seqObj "list" #[] 0)).get? l = some o := Heap.get?_push_of_some _ ho
  refine wpAny_bind (wpAny_typeOf (T := "tuple") ⟨o, ho', hc⟩ ?_)
  have ht : (Value.type "tuple" == Value.type "tuple") = true := by rfl
  rw [if_pos (by rw [ht]; simp)]
  refine wpAny_bind (listItems_at ho' hd ?_)
  refine wpAny_bind (listItems_at (xs := #[]) (n := 0) (Heap.get?_push_size _ rfl) rfl ?_)
  rw [if_neg (by simp)]
  refine wpAny_bind (listUpdate_at (xs := #[]) (n := 0) (Heap.get?_push_size _ rfl) rfl ?_ (Nat.zero_le _) (by show (#[] ++ its.toArray).size ≤ sizeLine + 1; simp only [Array.size_append, List.size_toArray, List.length_nil]; omega))
  refine wpAny_pure ?_
  show wpAny (model P w) A (do
      let o ← load s.heap.objs.size
      match o.data with
      | .seq xs _ => pure xs.toList
      | _ => unsupported "internal:collect") Q E { s with heap := (s.heap.push (seqObj "list" #[] 0)).update s.heap.objs.size (Obj.mapSeq (· ++ its.toArray)) }
  refine wpAny_bind (wpAny_load (get?_update_seq (Heap.get?_push_size _ rfl) _) ?_)
  show wpAny _ _ (pure ((#[] : Array Value) ++ its.toArray).toList) Q E _
  rw [show ((#[] : Array Value) ++ its.toArray).toList = its by simp]
  exact wpAny_pure h⟩
theorem sorted_seq {P : Program} {w : World} {A : Around} {E : Value → Shared → Prop} {s : Shared} {l : Addr} {vs : List Value} {kw : List (Str × Value)} {Q : Value → Shared → Prop} (hl : Seq0 P w l vs s) (hL : vs.length ≤ sizeLine) (ha1 : argsOk "sorted" ⟨[.ref l], kw⟩) (ha2 : ∀ x, argsOk "list.sort" ⟨[.ref x], kw⟩)
    (body : ∀ E' : Value → Shared → Prop, wpAny (model P w) A.in1.in1 (Builtin.«list.sort» ⟨[.ref (s.heap.objs.size + 1)], kw⟩) (fun f s' => f = .done (.ret .none) ∧ Q (.ref (s.heap.objs.size + 1)) s') E' { s with heap := PySem.W.copyHeap s.heap vs }) :
    wpAny (model P w) A (call (.builtin "sorted") [.ref l] kw) Q E s := by
  refine PyProof.Rows.call_function_entry_kw kind_sorted plain_sorted entry_sorted ha1 ?_
  unfold Builtin.«sorted»
  refine wpAny_bind (m := checkCount "sorted" 1 1 _) (wpAny_pure ?_)
  refine wpAny_bind (hl.col _ _ _ ?_)
  refine wpAny_bind (wpAny_newList ?_ hL)
  have hsz : ((s.heap.push (seqObj "list" #[] 0)).update s.heap.objs.size (Obj.mapSeq (· ++ vs.toArray))).objs.size = s.heap.objs.size + 1 := by
    rw [Heap.size_update, size_push']
  show wpAny _ _ _ _ _ { s with heap := PySem.W.copyHeap s.heap vs }
  rw [hsz]
  refine wpAny_bind (wpAny_holding (wpAny_call_entry_kw slot_list_sort ⟨_, PySem.W.copyHeap_at s.heap vs, rfl⟩ entry_list_sort ?body (ha2 _)))
  case body =>
    show wpAny (model P w) A.in1.in1 (Builtin.«list.sort» ⟨[.ref (s.heap.objs.size + 1)], kw⟩) _ _ _
    refine wpAny_mono (body _) (fun f s' hf => ?_) fun _ _ e => e
    obtain ⟨rfl, hq⟩ := hf
    exact ⟨_, rfl, wpAny_pure ⟨_, rfl, hq⟩⟩
theorem RepX.sview {g : G} {d : D} {v : V} {xs : List D} {pins : List (Addr × Obj)} {σ : St} {s : Shared} (hK : X.K = W.K) (I : Inv X pins σ g.H s) (ok : g.Ok W) (h : RepX W g d v) (e : sview g.M d = some xs) (hz : xs.length ≤ sizeLine) :
    ∃ (a : Addr) (vs : List V) (its : List Value), v = .ref a ∧ RepL W g xs vs ∧ Vals vs its ∧ Seq0 X.prog X.w a its s := by
  by_cases ht : ∃ ys, d = .tup ys
  · obtain ⟨ys, rfl⟩ := ht
    have e : some ys = some xs := e
    cases e
    rcases h with h | ⟨_, _, _, e1, _⟩
    · cases h with
      | tup h1 n r =>
        obtain ⟨its, rits, hl, _⟩ := I.tuple (a := _) (SqT.of h1)
        exact ⟨_, _, its, rfl, r, rits, seq0_tup hl (by rw [← rits.length, ← r.length]; exact hz)⟩
    · cases e1
  · have e : L2.Z.lview g.M d = some xs := by
      cases d <;> first | exact e | exact absurd ⟨_, rfl⟩ ht
    obtain ⟨l, vsl, rfl, hS, rl⟩ := h.lview ok e
    obtain ⟨its, rits, hl, hzl⟩ := I.list (show SqL X.K g.H l vsl by rw [hK]; exact hS)
    exact ⟨l, vsl, its, rfl, rl, rits, seq0_list hl.isList (by rw [← rits.length, ← rl.length]; exact hz)⟩
/-- sorted(..) -/
def rSrt (W : Gam) : List V → Hp → VK → Prop := fun vs H Q => ∃ (g : G) (d : D) (v : V) (X' : Nat → Hp → Prop), vs = [v] ∧ g.H = H ∧ g.Ok W ∧ RepX W g d v ∧ PostN W g (ret (srtD g.M d) g.M) Q X'
theorem call_srt (hK : X.K = W.K) (hun : X.A.units + 65 < cLine) : CallR X (.builtin "sorted") (rSrt W) := by
  intro pins s σ H vs us Q I rv h
  obtain ⟨g, d, v, X', rfl, rfl, ok, rx, p⟩ := h
  obtain ⟨u, rfl, r1⟩ := vals1 rv
  unfold srtD at p
  cases hv : sview g.M d with
  | none => rw [hv] at p; exact p.elim
  | some xs =>
    rw [hv] at p
    dsimp only at p
    by_cases hs : (sortOk xs && decide (xs.length ≤ sizeLine)) = true
    · rw [if_pos hs] at p
      obtain ⟨hs, hz⟩ := and2 hs
      have hz : xs.length ≤ sizeLine := of_decide_eq_true hz
      obtain ⟨l, vsl, its, rfl, rl, rits, hq⟩ := rx.sview hK I ok hv hz
      have r1 : u = .ref l := r1
      subst r1
      have hlen : its.length = xs.length := by rw [← rits.length, rl.length]
      have hzi : its.length ≤ sizeLine := by rw [hlen]; exact hz
      obtain ⟨hpy, hdp, hal, hsk⟩ := sortOk_ok hs
      have st0 : PySem.W.EachIs (Stand W g) its xs := stand_all rl rits
      have er := stand_reads hK I st0 hpy
      have er' : PySem.W.EachIs (fun v k => ∃ as, Reads (PySem.W.sortingHeap (PySem.W.copyHeap s.heap its) (s.heap.objs.size + 1) its) v k as) its (xs.map toPy) := EachIs.mono2 (fun _ _ ⟨as, r⟩ => ⟨as, PyProof.Rows.Reads.keeps (fun _ _ => PySem.W.sorting_copy_old) r⟩) er
      have hu : ∀ d ∈ xs.map toPy, X.A.in1.in1.units + d.depth < cLine := fun d hd => by
        obtain ⟨k0, hk0, rfl⟩ := List.mem_map.mp hd
        rw [depth_py]
        have := deps_le hk0
        show X.A.units + 1 + 1 + dep k0 < cLine
        omega
      refine sorted_seq hq hzi (args_sorted1 _) (fun _ => args_list_sort _) fun E' => ?_
      refine PySem.W.list_sort_vals (κ := PySem.W.dataKind (PySem.W.sortingHeap (PySem.W.copyHeap s.heap its) (s.heap.objs.size + 1) its) (xs.map toPy)) (s := { s with heap := PySem.W.copyHeap s.heap its }) (PySem.W.copyHeap_at s.heap its)
        (PySem.W.SortsAt.data (s := { s with heap := PySem.W.sortingHeap (PySem.W.copyHeap s.heap its) (s.heap.objs.size + 1) its }) er' hal hsk hu) hzi ⟨rfl, ?_⟩
      have ho2 : PySem.W.EachIs (Stand W g) (PySem.W.sortVals (PySem.W.dataKind (PySem.W.sortingHeap (PySem.W.copyHeap s.heap its) (s.heap.objs.size + 1) its) (xs.map toPy)) false its its) (xs.mergeSort leP) := PySem.W.sortVals_data false st0 (PySem.W.each_of_map toPy er') hal
      obtain ⟨vo, ro, rvo⟩ := all_stand ho2
      obtain ⟨ep, he'⟩ := PyProof.Rows.sortedAll_at s.heap its (PySem.W.sortVals (PySem.W.dataKind (PySem.W.sortingHeap (PySem.W.copyHeap s.heap its) (s.heap.objs.size + 1) its) (xs.map toPy)) false its its).toArray
      have hlo : vo.length ≤ sizeLine := by
        rw [← ro.length, (List.mergeSort_perm _ _).length_eq]
        exact hz
      exact ⟨.ref (s.heap.objs.size + 1), upd g.H (s.heap.objs.size + 1) (.lst vo), I.laid (t' := s.toks) (fun _ _ => PyProof.Rows.sortedAll_old) (Nat.le_succ _) ⟨hlo, _, ep, rvo, he'⟩, rfl, PostN.lst p ok (I.hok.fresh (Nat.le_succ _)) ro⟩
    · rw [if_neg hs] at p; exact p.elim
/-- sorted(.., key=f) -/
def rSrk (W : Gam) (call' : List D → Ev D) (f : Nat) : List V → List V → Hp → VK → Prop := fun vs zs H Q => ∃ (g : G) (d : D) (v : V) (X' : Nat → Hp → Prop), vs = [v] ∧ zs = [.ref (W.fa f)] ∧ g.H = H ∧ g.Ok W ∧ RepX W g d v ∧ PostN W g (srkE call' d g.M) Q X'
theorem zip_fst {α β γ : Type} (k : α → γ) : ∀ {as : List α} {bs : List β}, as.length = bs.length → (as.zip bs).map (fun p => k p.1) = as.map k
  | [], [], _ => rfl
  | a :: as, b :: bs, h => by simp only [List.zip_cons_cons, List.map_cons, zip_fst k (as := as) (bs := bs) (by simpa using h)]
theorem EachIs.zip2 {α β γ : Type} {R : α → γ → Prop} : ∀ {as : List α} {bs : List β} {cs : List γ}, bs.length = cs.length → PySem.W.EachIs R as cs → PySem.W.EachIs (fun a (p : β × γ) => R a p.2) as (bs.zip cs)
  | _, [], _, h, .nil => .nil
  | _, b :: bs, _, h, .cons q t => .cons q (EachIs.zip2 (by simpa using h) t)
theorem EachIs.map2 {α β γ : Type} {R : α → γ → Prop} (f : β → γ) : ∀ {as : List α} {bs : List β}, PySem.W.EachIs (fun a b => R a (f b)) as bs → PySem.W.EachIs R as (bs.map f)
  | _, _, .nil => .nil
  | _, _, .cons q t => .cons q (EachIs.map2 f t)
theorem sortK_length {ks xs : List D} (h : ks.length = xs.length) : (sortK ks xs).length = xs.length := by
  unfold sortK
  rw [List.length_map, (List.mergeSort_perm _ _).length_eq, List.length_zip, h, Nat.min_self]
theorem call_srk {k : Nat} {f : Nat} {fd : FuncData} {ps : List Str} {call' : List D → Ev D} (F : FnOk X.prog X.w X.K X.mg X.base (L2.CX X.prog X.w) k (W.fa f) fd ps (fun vs H Q E => vs.length = ps.length ∧ spD W call' vs H Q E)) (hps : ps.length = 1) (hr : Room k X.A.in1.in1) (hb : Binds X.K fd ps []) (hK : X.K = W.K)
    (hun : X.A.units + 65 < cLine) : CallRK X (.builtin "sorted") [Str.ofString "key"] (rSrk W call' f) := by
  intro pins s σ H vs zs us ws Q I rv rz h
  obtain ⟨g, d, v, X', rfl, rfl, rfl, ok, rx, p⟩ := h
  obtain ⟨u, rfl, r1⟩ := vals1 rv
  obtain ⟨w, rfl, r2⟩ := vals1 rz
  have r2 : w = .ref (W.fa f) := r2
  subst r2
  unfold srkE at p
  cases hv : sview g.M d with
  | none => rw [hv] at p; exact p.elim
  | some xs =>
    rw [hv] at p
    dsimp only at p
    by_cases hz : xs.length ≤ sizeLine
    · rw [if_pos hz] at p
      obtain ⟨l, vsl, its, rfl, rl, rits, hsq⟩ := rx.sview hK I ok hv hz
      have r1 : u = .ref l := r1
      subst r1
      have hlen : its.length = xs.length := by rw [← rits.length, rl.length]
      have st0 : PySem.W.EachIs (Stand W g) its xs := stand_all rl rits
      have kp : KPost W g (keysE call' xs g.M) (fun g' ks => sortOk ks = true ∧ ∀ p vs, g'.H p = none → RepL W g' (sortK ks xs) vs → Q (.ref p) (upd g'.H p (.lst vs))) := by
        unfold calm at p
        cases hq : keysE call' xs g.M with
        | bad => rw [hq] at p; exact p.elim
        | exc c M => rw [hq] at p; exact p.elim
        | ok ks M =>
          rw [hq] at p
          simp only [R.bind] at p
          by_cases hs : sortOk ks = true
          · rw [if_pos hs] at p
            exact fun g' x e1 e2 ok' => ⟨hs, fun pp vs hp rr => p g' pp vs x e1 e2 ok' hp rr⟩
          · rw [if_neg hs] at p; exact p.elim
      have hzi : its.length ≤ sizeLine := by rw [hlen]; exact hz
      refine sorted_seq hsq hzi (ksk_s1 _ _) (fun x => ksk_l1 _ _) fun E' => ?_
      rw [show ([Str.ofString "key"].zip [Value.ref (W.fa f)]) = [(Str.ofString "key", .ref (W.fa f))] from rfl, ksk_t1]
      have ho := PySem.W.copyHeap_at s.heap its
      have ha : s.heap.objs.size + 1 < (PySem.W.copyHeap s.heap its).objs.size := Heap.lt_size ho
      obtain ⟨e1, ho1⟩ : ∃ e1, ((PySem.W.copyHeap s.heap its).update (s.heap.objs.size + 1) (Obj.mapSeq fun _ => (#[] : Array Value))).get? (s.heap.objs.size + 1) = some (seqObj "list" #[] e1) := ⟨_, get?_update_seq ho fun _ => #[]⟩
      have hkS : (((PySem.W.copyHeap s.heap its).update (s.heap.objs.size + 1) (Obj.mapSeq fun _ => (#[] : Array Value))).push (seqObj "tuple" its.toArray 0)).objs.size = (PySem.W.copyHeap s.heap its).objs.size + 1 := by rw [size_push', Heap.size_update]
      unfold ksk_tree
      refine wpAny_bind (listItems_at ho rfl ?_)
      refine wpAny_bind (listUpdate_at ho rfl ?_ (by rw [List.size_toArray]; exact hzi) (Nat.zero_le _))
      refine wpAny_bind (seqEpoch_at ho1 rfl ?_)
      refine wpAny_bind (wpAny_newTuple ?_ (by show its.length ≤ _; exact hzi))
      refine wpAny_bind (wpAny_newList ?_ (Nat.zero_le _))
      refine wpAny_holding ?_
      have I1 : Inv X pins σ g.H { s with heap := PySem.W.sortingHeap (PySem.W.copyHeap s.heap its) (s.heap.objs.size + 1) its } := I.kept (t' := s.toks) fun b o e => PySem.W.sorting_copy_old e
      obtain ⟨kS, hkS2⟩ : ∃ kS, kS = (((PySem.W.copyHeap s.heap its).update (s.heap.objs.size + 1) (Obj.mapSeq fun _ => (#[] : Array Value))).push (seqObj "tuple" its.toArray 0)).objs.size := ⟨_, rfl⟩
      have na := Inv.newAt I (Nat.le_succ s.heap.objs.size)
      have nk := Inv.newAt I (a := kS) (by rw [hkS2, hkS]; omega)
      have hka : kS ≠ s.heap.objs.size + 1 := by rw [hkS2, hkS]; omega
      have g1 : (PySem.W.sortingHeap (PySem.W.copyHeap s.heap its) (s.heap.objs.size + 1) its).get? (s.heap.objs.size + 1) = some (seqObj "list" #[] e1) := Heap.get?_push_of_some _ (Heap.get?_push_of_some _ ho1)
      have g2 : (PySem.W.sortingHeap (PySem.W.copyHeap s.heap its) (s.heap.objs.size + 1) its).get? kS = some (seqObj "list" #[] 0) := by rw [hkS2]; exact Heap.get?_push_size _ rfl
      have I2 := I1.pins_of (pins' := (s.heap.objs.size + 1, seqObj "list" #[] e1) :: (kS, seqObj "list" #[] 0) :: pins) fun p hp => by
        rcases List.mem_cons.mp hp with z | z
        · rw [z]; exact ⟨g1, na.1, na.2.2.1, na.2.2.2.1, fun v q => by cases q⟩
        · rcases List.mem_cons.mp z with z | z
          · rw [z]; exact ⟨g2, nk.1, nk.2.2.1, nk.2.2.2.1, fun v q => by cases q⟩
          · exact I1.pin p (List.mem_append_right _ z)
      rw [← hkS2]
      refine srk_rest (g := g) (s := { s with heap := PySem.W.sortingHeap (PySem.W.copyHeap s.heap its) (s.heap.objs.size + 1) its }) F hps hr hb hK ok I2 hka nk.2.1 nk.2.2.2.2.1 nk.2.2.2.2.2.1 hzi st0 kp fun g' ks kA e s' ok' x' hZ hkl hks J => ?_
      obtain ⟨hso, hQ⟩ := hZ
      obtain ⟨hpy, hdp, hal, hsk⟩ := sortOk_ok hso
      have hk' := stand_reads hK J hks hpy
      have hsz : kA.size = its.length := by
        have := hks.length
        rw [Array.length_toList] at this
        omega
      obtain ⟨h₁, hr1, hr2⟩ := L2.restrict s'.heap (fun b => b != kS)
      have kpb : PySem.W.KeepsBut (s.heap.objs.size + 1) h₁ s'.heap := fun b o hb e => by
        by_cases hbk : b = kS
        · rw [hbk, hr2 kS (by simp)] at e; cases e
        · rw [hr1 b (by simpa using hbk)] at e; exact e
      have pa := J.pin (s.heap.objs.size + 1, seqObj "list" #[] e1) (List.mem_append_right _ (by simp))
      have pk := J.pin (kS, seqObj "list" kA e) (List.mem_append_right _ (by simp))
      have hu : ∀ d ∈ ks.map toPy, X.A.in1.in1.units + d.depth < cLine := fun d hd => by
        obtain ⟨k0, hk0, rfl⟩ := List.mem_map.mp hd
        rw [depth_py]
        have := deps_le hk0
        show X.A.units + 1 + 1 + dep k0 < cLine
        omega
      refine PySem.W.keyH_end (κ := PySem.W.dataKind s'.heap (ks.map toPy)) (b := false) (h₁ := h₁) kpb (hr2 kS (by simp)) pk.1 pa.1 hka (PySem.W.SortsAt.data (s := s') hk' hal hsk hu) hsz hzi fun h' tk c k3 n3 => ⟨rfl, ?_⟩
      have hkx : ks.length = xs.length := by omega
      have ho2 : PySem.W.EachIs (fun u (p : D × D) => Stand W g' u p.2) (PySem.W.sortVals (PySem.W.dataKind s'.heap (ks.map toPy)) false kA.toList its) ((ks.zip xs).mergeSort leK) := by
        refine PySem.W.keyedOut_each (fun p : D × D => toPy p.1) ?_ (EachIs.zip2 hkx (EachIs.mono2 (fun _ _ z => Stand.mono x'.toEx0 z) st0))
        rw [zip_fst toPy hkx]
        exact ⟨s'.heap, kA.toList, hal, rfl, hk'⟩
      obtain ⟨vo, ro, rvo⟩ := all_stand (EachIs.map2 (R := Stand W g') (fun p : D × D => p.2) ho2)
      have J1 := J.pins_of (pins' := pins) fun p hp => J.pin p (List.mem_append_right _ (List.mem_cons_of_mem _ (List.mem_cons_of_mem _ hp)))
      have J2 := Inv.turnedL (l := [kS, s.heap.objs.size + 1]) (t' := tk) (h' := h') J1 (fun b o hb e => by
        have hb1 : b ≠ kS := fun z => hb (by simp [z])
        have hb2 : b ≠ s.heap.objs.size + 1 := fun z => hb (by simp [z])
        exact k3 b o hb2 (by rw [hr1 b (by simpa using hb1)]; exact e)) (fun it hit => by
        rcases List.mem_cons.mp hit with z | z
        · rw [z]; exact pk.2.1
        · have z : it = s.heap.objs.size + 1 := by simpa using z
          rw [z]; exact pa.2.1) (fun it hit => by
        rcases List.mem_cons.mp hit with z | z
        · rw [z]; exact ⟨.inr nk.2.1, nk.2.2.1, nk.2.2.2.2.1, nk.2.2.2.2.2.1⟩
        · have z : it = s.heap.objs.size + 1 := by simpa using z
          rw [z]; exact ⟨.inr na.2.1, na.2.2.1, na.2.2.2.2.1, na.2.2.2.2.2.1⟩)
      refine ⟨.ref (s.heap.objs.size + 1), _, Inv.track (o := .lst vo) J2 pa.2.1 na.2.2.2.2.2.2 na.2.2.1 na.2.2.2.2.1 na.2.2.2.2.2.1 ⟨?_, _, c, rvo, n3⟩, rfl, hQ _ _ pa.2.1 ro⟩
      rw [← ro.length]
      show (sortK ks xs).length ≤ sizeLine
      rw [sortK_length hkx]
      exact hz
    · rw [if_neg hz] at p; exact p.elim
end
end L2.Z
set_option Elab.async false
set_option linter.all false
set_option maxRecDepth 100000
set_option maxHeartbeats 1000000
/-! ### soundness: expressions, by their form -/
namespace L2.Z
open PySem PySem.Spec PyProof.Rows

abbrev wxX (W : Gam) (wx : WXD) : WX := fun cls d s H => ∃ c, cls = .ref (W.ca c) ∧ d = none ∧ wx c s H
def FnD (X : Cx) (W : Gam) (C : Cfg) (f : Nat) (F : Fn) : Prop := ∃ k fd, FnOk X.prog X.w X.K X.mg X.base (L2.CX X.prog X.w) k (W.fa f) fd F.ps (fun vs H Q E => vs.length = F.ps.length ∧ spD W (C.call f) vs H Q E) ∧ Room (k + 2) X.A ∧ X.mg F.name = some (.ref (W.fa f)) ∧ PySem.W.keepIn X.K (.ref (W.fa f)) = true ∧ Binds X.K fd F.ps []
structure Ctx (W : Gam) (T : Nat → Option Fn) (C : Cfg) (X : Cx) (wx : WXD) : Prop where
  K : X.K = W.K
  calm : X.calm = true
  nd : X.N.Nodup
  un : X.A.units + 65 < cLine
  facts : Facts W C.sub
  blt : ∀ x, x ∈ bltNames → X.mg x = none
  gi : ∀ x i, W.gi x = some i → ∃ t, X.mg x = some (.int i t)
  gs : ∀ x z, W.gs x = some z → ∃ t, X.mg x = some (.str z t)
  cls : ∀ c x, W.ct c = some x → X.mg x = some (.ref (W.ca c))
  fn : ∀ f F, T f = some F → FnD X W C f F
  len : ∀ f F ds M, T f = some F → ds.length ≠ F.ps.length → C.call f ds M = .bad
  tk : Takes X (wxX W wx)


section
variable {W : Gam} {T : Nat → Option Fn} {C : Cfg}
/-- a test's reading -/
abbrev rdB (W : Gam) (h0 : List Addr) (wx : WXD) (m : Env → Ev Bool) : TT := rdT (fun _ _ (b c : Bool) => b = c) W h0 wx m
def tstE (C : Cfg) (e : E) : Env → Ev Bool := fun r M => (ev C e r M).bind fun x M1 => (match x with
  | .bl b => .ok b M1
  | _ => .bad)
theorem PW.imp {X : Cx} {e : Expr} {t t' : TT} (h : PW X e t) (k : ∀ s H Q, t' s H Q → t s H Q) : PW X e t' := ⟨fun wh pins s σ H Q I q => h.run wh pins s σ H Q I (k _ _ _ q)⟩
theorem tst_rd {h0 : List Addr} {wx : WXD} {m : Env → Ev D} {s : St} {H : Hp} {Q : Bool → Hp → Prop} (q : rdB W h0 wx (fun r M => (m r M).bind fun x M1 => (match x with
      | .bl b => .ok b M1
      | _ => .bad)) s H Q) : rdE W h0 wx m s H (fun x H' => ∃ k, x = .bl k ∧ Q k H') := by
  refine rd1 (T' := RepX) q fun g r d v ok er rv p => ?_
  cases d <;> first | exact p.elim | skip
  cases rv.bl
  exact ⟨_, rfl, p g (Ext.refl g) rfl rfl ok _ rfl⟩
/-- by the value -/
theorem tst_of {X : Cx} {h0 : List Addr} {wx : WXD} {e : Expr} {m : Env → Ev D} (h : PE X e (rdE W h0 wx m)) (he : ∀ whole, isTrue e X.env whole = (do let v ← whole; standAt e.pos; holding [v] (truthy v))) :
    PT X e (rdB W h0 wx (fun r M => (m r M).bind fun x M1 => (match x with
      | .bl b => .ok b M1
      | _ => .bad))) := PT.imp (pt_val h he) fun s H Q q => tst_rd q
/-- what is shown of an expression: its value, its truth, its new list -/
def SE (W : Gam) (C : Cfg) (X : Cx) (h0 : List Addr) (wx : WXD) (e : E) : Prop := PE X e.ex (rdE W h0 wx (ev C e)) ∧ (E.wft e = true → PT X e.ex (rdB W h0 wx (tstE C e))) ∧ (isNew e = true → PE X e.ex (rdN W h0 wx (ev C e)))
theorem mk_t {X : Cx} {h0 : List Addr} {wx : WXD} {e : E} (k : E.wft e = true → tstOk e = true) (n : isNew e = true → False) (h : PE X e.ex (rdE W h0 wx (ev C e))) :
    SE W C X h0 wx e := ⟨h, fun q => tst_of h (tst_ex X.env e (k q)), fun q => (n q).elim⟩
theorem mk_n {X : Cx} {h0 : List Addr} {wx : WXD} {e : E} (k : E.wft e = true → False) (n : isNew e = true → False) (h : PE X e.ex (rdE W h0 wx (ev C e))) :
    SE W C X h0 wx e := ⟨h, fun q => (k q).elim, fun q => (n q).elim⟩
/-- a list that is always new -/
theorem mk_l {X : Cx} {h0 : List Addr} {wx : WXD} {e : E} (k : E.wft e = true → False) (hr : ∀ r M d M', ev C e r M = .ok d M' → ∃ xs, d = .lst xs) (h : PE X e.ex (rdN W h0 wx (ev C e))) :
    SE W C X h0 wx e := ⟨PE.imp h fun s H Q ⟨g, r, e0, ok, er, p⟩ => ⟨g, r, e0, ok, er, PostN.of p fun d M q => hr r g.M d M q⟩, fun q => (k q).elim, fun _ => h⟩
theorem Ctx.blk {X : Cx} {wx : WXD} (cx : Ctx W T C X wx) (s : Shared) (H : Hp) (scope : Scope) (cl : List (Str × Addr)) (C' : Addr) (fp : List Addr) : Ctx W T C (X.blk s H scope (compEnvC scope cl C' X.env) fp) (fun _ _ _ => False) :=
  ⟨cx.K, cx.calm, cx.nd, cx.un, cx.facts, cx.blt, cx.gi, cx.gs, cx.cls, cx.fn, cx.len, Takes.imp takes0 fun _ _ _ _ ⟨_, _, _, z⟩ => z⟩
theorem chain_rd {h0 : List Addr} {wx : WXD} {o o' : CmpOp} {a b c : E} {p : Pos} {s : St} {H : Hp} {Q : VK} (h : rdE W h0 wx (ev C (.chain o o' a b c p)) s H Q) : tChain (rCmp o W.K) (rCmp o' W.K) (rdE W h0 wx (ev C a)) (rdE W h0 wx (ev C b)) (rdE W h0 wx (ev C c)) s H Q := by
  refine rd1 (T' := RepX) h fun g r x v ok er rx p => ?_
  refine ⟨g, r, rfl, ok, er, PostT.bind p fun y M g' _ ex e1 e2 ok' u ru q => ?_⟩
  subst e2
  have rx' := rx.mono ex
  have er' := er.mono ex
  refine cmp_ok (E := fun c H => wx c s H) ok' rx' ru ?_
  cases hq : cmpD o g'.M x y with
  | none => rw [hq] at q; exact q
  | some k =>
    rw [hq] at q
    intro g2 ex2 e3 e4 ok2 z rz
    cases rz.bl
    refine ⟨k, rfl, ?_⟩
    cases k with
    | false =>
      rw [if_neg (by decide)]
      exact q g2 ex2 e3 e4 ok2 _ (.inl (.bl _))
    | true =>
      rw [if_pos rfl]
      have q2 := PostT.mono q ex2 e3
      rw [← e4] at q2
      refine ⟨g2, r, rfl, ok2, er'.mono ex2, PostT.bind q2 fun z M g3 _ ex3 e5 e6 ok3 w rw q => ?_⟩
      subst e6
      exact cmp_ok ok3 ((ru.mono ex2).mono ex3) rw q
theorem rd_bin {h0 : List Addr} {wx : WXD} {ma mb : Env → Ev D} {r : R2} {t : D → D → Ev D} {s : St} {H : Hp} {Q : VK}
    (hr : ∀ (g : G) (x y : D) (v u : V), g.Ok W → RepX W g x v → RepX W g y u → Pst W g (t x y g.M) Q (fun c H => wx c s H) → r v u g.H Q)
    (h : rdE W h0 wx (fun r M => (ma r M).bind fun x M1 => (mb r M1).bind fun y M2 => t x y M2) s H Q) : tOp r (rdE W h0 wx ma) (rdE W h0 wx mb) s H Q := rd2 hr h

mutual
theorem sound_e : ∀ (e : E) {X : Cx} {h0 : List Addr} {wx : WXD}, Ctx W T C X wx → e.wf W T X.N X.env.scope = true → SE W C X h0 wx e
  | .var i x p, X, h0, wx, cx, h => mk_t (fun q => q) (fun q => by cases q) <| by
    obtain ⟨h, h4⟩ := and2 h
    obtain ⟨h, h3⟩ := and2 h
    obtain ⟨h1, h2⟩ := and2 h
    have h3 : x ≠ "__debug__" := of_decide_eq_true h3
    have h4 : x ≠ "__classdict__" := of_decide_eq_true h4
    refine PE.imp (pe_var (X := X) (i := i) (x := x) (pos := p) (of_decide_eq_true h1) (visC_ok h2) (by simpa using h3) (by simpa using h4)) fun s H Q q => ?_
    obtain ⟨g, r, e, ok, er, p⟩ := q
    subst e
    simp only [ev] at p
    split at p
    · rename_i d hd
      obtain ⟨v, e1, rv⟩ := er.get i d hd
      exact ⟨v, e1, Pst.val (g := g) p ok rv⟩
    · exact p.elim
  | .cst c k p, X, h0, wx, cx, h => mk_n (fun q => by cases q) (fun q => by cases q) <| by
    cases c with
    | none => exact PE.imp (pe_non (X := X)) fun s H Q ⟨g, r, e, ok, er, p⟩ => by subst e; exact Pst.val (g := g) p ok (.inl .non)
    | bool b => exact PE.imp (pe_bl (X := X)) fun s H Q ⟨g, r, e, ok, er, p⟩ => by subst e; exact Pst.val (g := g) p ok (.inl (.bl _))
    | int b => exact PE.imp (pe_int (X := X)) fun s H Q ⟨g, r, e, ok, er, p⟩ => by subst e; exact Pst.val (g := g) p ok (.inl (.int _))
    | str b => exact PE.imp (pe_str (X := X)) fun s H Q ⟨g, r, e, ok, er, p⟩ => by subst e; exact Pst.val (g := g) p ok (.inl (.str _))
    | _ => cases h
  | .gint x i p, X, h0, wx, cx, h => mk_n (fun q => by cases q) (fun q => by cases q) <| by
    obtain ⟨h1, h2⟩ := and2 h
    obtain ⟨g1, g2, g3⟩ := globC_ok h1
    obtain ⟨t, hm⟩ := cx.gi x i (of_decide_eq_true h2)
    exact PE.imp (pe_glob (X := X) (v := .int i) g1 hm ⟨t, rfl⟩ g2) fun s H Q ⟨g, r, e, ok, er, p⟩ => by subst e; exact Pst.val (g := g) p ok (.inl (.int _))
  | .gstr x z p, X, h0, wx, cx, h => mk_n (fun q => by cases q) (fun q => by cases q) <| by
    obtain ⟨h1, h2⟩ := and2 h
    obtain ⟨g1, g2, g3⟩ := globC_ok h1
    obtain ⟨t, hm⟩ := cx.gs x z (of_decide_eq_true h2)
    exact PE.imp (pe_glob (X := X) (v := .str z) g1 hm ⟨t, rfl⟩ g2) fun s H Q ⟨g, r, e, ok, er, p⟩ => by subst e; exact Pst.val (g := g) p ok (.inl (.str _))
  | .gfn x f p, X, h0, wx, cx, h => mk_n (fun q => by cases q) (fun q => by cases q) <| by
    obtain ⟨h1, h2⟩ := and2 h
    obtain ⟨g1, g2, g3⟩ := globC_ok h1
    have h2 : (T f).map (·.name) = some x := of_decide_eq_true h2
    cases q : T f with
    | none => rw [q] at h2; cases h2
    | some F =>
      rw [q] at h2
      have e : F.name = x := Option.some.inj h2
      subst e
      obtain ⟨k, fd, _, _, hm, _⟩ := cx.fn f F q
      exact PE.imp (pe_glob (X := X) (v := .ref (W.fa f)) g1 hm rfl g2) fun s H Q ⟨g, r, e, ok, er, p⟩ => by subst e; exact Pst.val (g := g) p ok (.inl (.fn _))
  | .bin o a b p, X, h0, wx, cx, h => by
    obtain ⟨h1, h2⟩ := and2 h
    have hp := pe_op (pos := p) (op_bin o) (sound_e a (h0 := h0) cx h1).1 (sound_e b (h0 := h0) cx h2).1
    rw [cx.K] at hp
    refine ⟨PE.imp hp fun s H Q q => rd2 (k := fun x y M => ret (binD o M x y) M) (fun g x y v u ok rx ry p => bin_ok ok rx ry p) q, fun q => (by cases q), fun q => PE.imp hp fun s H Q q' => rd2N (k := fun x y M => ret (binD o M x y) M) (fun g x y v u ok rx ry p => ?_) q'⟩
    cases o <;> first | (cases q; done) | exact add_okN ok rx ry p | exact mul_okN ok rx ry p
  | .neg a p, X, h0, wx, cx, h => mk_n (fun q => by cases q) (fun q => by cases q) <| by
    refine PE.imp (pe_un un_neg (sound_e a (h0 := h0) cx h).1) fun s H Q q => ?_
    refine rd1 (T' := RepX) q fun g r d v ok er rv p => ?_
    cases d <;> first | exact p.elim | skip
    cases rv.int
    exact ⟨_, rfl, Pst.val (g := g) p ok (.inl (.int _))⟩
  | .not a p, X, h0, wx, cx, h => by
    refine ⟨?_, fun ht => PT.imp (pt_not ((sound_e a (h0 := h0) cx h).2.1 ht)) fun s H Q q => ?_, fun q => by cases q⟩
    rotate_left
    · obtain ⟨g, r, e, ok, er, p⟩ := q
      refine ⟨g, r, e, ok, er, ?_⟩
      unfold tstE at p ⊢
      simp only [ev] at p
      cases hq : ev C a r g.M with
      | bad => rw [hq] at p; exact p
      | exc c M => rw [hq] at p; exact p
      | ok d M =>
        rw [hq] at p
        simp only [R.bind] at p ⊢
        cases d <;> first | exact p.elim | skip
        intro g' x e1 e2 ok' c ec
        subst ec
        exact p g' x e1 e2 ok' _ rfl
    refine PE.imp (pe_not (sound_e a (h0 := h0) cx h).1) fun s H Q q => ?_
    refine rd1 (T' := RepX) q fun g r d v ok er rv p => ?_
    cases d <;> first | exact p.elim | skip
    cases rv.bl
    exact ⟨_, rfl, Pst.val (g := g) p ok (.inl (.bl _))⟩
  | .bop o es p, X, h0, wx, cx, h => ⟨(sound_b o es p (h0 := h0) cx h).1, fun ht => ((sound_b o es p (h0 := h0) cx h).2 ht).pt, fun q => by cases q⟩
  | .cmp o a b p, X, h0, wx, cx, h => by
    obtain ⟨h1, h2⟩ := and2 h
    refine ⟨?_, fun _ => PT.imp (pt_cmpR (op_cmp o cx.un) (sound_e a (h0 := h0) cx h1).1 (sound_e b (h0 := h0) cx h2).1 (marks_ex b o)) fun s H Q q => ?_, fun q => by cases q⟩
    rotate_left
    · rw [cx.K]
      exact rd2 (k := fun x y M => retB (cmpD o M x y) M) (fun g x y v u ok rx ry p => cmp_ok ok rx ry p) (tst_rd q)
    refine PE.imp (pe_cmpR (op_cmp o cx.un) (sound_e a (h0 := h0) cx h1).1 (sound_e b (h0 := h0) cx h2).1 (marks_ex b o)) fun s H Q q => ?_
    rw [cx.K]
    exact rd2 (k := fun x y M => retB (cmpD o M x y) M) (fun g x y v u ok rx ry p => cmp_ok ok rx ry p) q
  | .chain o o' a b c p, X, h0, wx, cx, h => by
    obtain ⟨h, h3⟩ := and2 h
    obtain ⟨h1, h2⟩ := and2 h
    refine ⟨?_, fun _ => PT.imp (pt_chain (op_cmp o cx.un) (op_cmp o' cx.un) (sound_e a (h0 := h0) cx h1).1 (sound_e b (h0 := h0) cx h2).1 (sound_e c (h0 := h0) cx h3).1 (marks_ex c o')) fun s H Q q => ?_, fun q => by cases q⟩
    rotate_left
    · rw [cx.K]
      exact chain_rd (tst_rd q)
    refine PE.imp (pe_chain (op_cmp o cx.un) (op_cmp o' cx.un) (sound_e a (h0 := h0) cx h1).1 (sound_e b (h0 := h0) cx h2).1 (sound_e c (h0 := h0) cx h3).1 (marks_ex c o')) fun s H Q q => ?_
    rw [cx.K]
    exact chain_rd q
  | .ite t a b p, X, h0, wx, cx, h => mk_n (fun q => by cases q) (fun q => by cases q) <| by
    obtain ⟨h, h4⟩ := and2 h
    obtain ⟨h, h3⟩ := and2 h
    obtain ⟨h1, h2⟩ := and2 h
    refine PE.imp (pe_ifExp ((sound_e t (h0 := h0) cx h1).2.1 h2) (sound_e a (h0 := h0) cx h3).1 (sound_e b (h0 := h0) cx h4).1) fun s H Q q => ?_
    obtain ⟨g, r, e, ok, er, p⟩ := q
    refine ⟨g, r, e, ok, er, ?_⟩
    simp only [ev] at p
    unfold tstE
    cases hq : ev C t r g.M with
    | bad => rw [hq] at p; exact p
    | exc c M => rw [hq] at p; exact p
    | ok d M =>
      rw [hq] at p
      simp only [R.bind] at p ⊢
      cases d <;> first | exact p.elim | skip
      intro g' x e1 e2 ok' c ec
      subst e2 ec
      rename_i bb
      cases bb with
      | true => exact ⟨g', r, rfl, ok', er.mono x, PostT.mono p x e1⟩
      | false => exact ⟨g', r, rfl, ok', er.mono x, PostT.mono p x e1⟩
  | .call f x px es p, X, h0, wx, cx, h => mk_t (fun q => q) (fun q => by cases q) <| by
    obtain ⟨h, h4⟩ := and2 h
    obtain ⟨h, h3⟩ := and2 h
    obtain ⟨h1, h2⟩ := and2 h
    obtain ⟨g1, g2, g3⟩ := globC_ok h1
    have h2 : (T f).map (·.name) = some x := of_decide_eq_true h2
    cases q : T f with
    | none => rw [q] at h2; cases h2
    | some F =>
      rw [q] at h2
      have e : F.name = x := Option.some.inj h2
      subst e
      cases es with
      | nil => cases h3
      | cons e es =>
        obtain ⟨k, fd, hf, hr, hm, hk, hb⟩ := cx.fn f F q
        have ha := sound_s (e :: es) (h0 := h0) cx h4
        refine PE.imp (pe_callS (e := e.ex) (es := E.exs es) (x := F.name) (p := px) (pos := p) (E := WE (wxX W wx)) hf (hr.mono (Nat.le_add_right k 2)) g1 hm hk hb (fun s => passAt cx.tk s) ha g2 (star_ex _ e _) (stars_any _ p es)) fun s H Q q' => ?_
        refine rd1 (T' := RepL) q' fun g r ds vs ok er rv p => ?_
        by_cases hl : ds.length = F.ps.length
        · refine ⟨by rw [← rv.length]; exact hl, g, ds, rfl, ok, rv, ?_⟩
          cases hc : C.call f ds g.M with
          | bad => rw [hc] at p; exact p
          | exc c M =>
            rw [hc] at p
            exact fun g' x e1 e2 ok' => ⟨c, rfl, rfl, p g' x e1 e2 ok'⟩
          | ok d M =>
            rw [hc] at p
            exact fun g' x e1 e2 ok' v rv => p g' x e1 e2 ok' v (.inl rv)
        · rw [cx.len f F ds g.M q hl] at p
          exact p.elim
  | .isi a t px pt p, X, h0, wx, cx, h => mk_t (fun q => q) (fun q => by cases q) <| by
    obtain ⟨h, h4⟩ := and2 h
    obtain ⟨h, h3⟩ := and2 h
    obtain ⟨h1, h2⟩ := and2 h
    obtain ⟨g1, g2, g3⟩ := globC_ok h1
    obtain ⟨f1, f2, f3⟩ := globC_ok h2
    have ht : PE X (.Name t.name pt) (tC (t.v W)) := by
      cases t with
      | own c y => exact pe_glob f1 (cx.cls c y (of_decide_eq_true h3)) rfl f2
      | _ => exact pe_bltn f1 (cx.blt _ (by decide)) (by decide +kernel) rfl (by decide +kernel) (by decide +kernel)
    refine PE.imp (pe_callB (call_is2 cx.K) g1 (cx.blt _ (by decide)) (by decide +kernel) (pa_cons (sound_e a (h0 := h0) cx h4).1 (pa_cons ht pa_nil) (star_ex _ a _)) (by decide +kernel) (by decide +kernel) (star_ex _ a _) rfl) fun s H Q q => ?_
    refine rd1 (T' := RepX) q fun g r d v ok er rv p => ?_
    exact isi_ok cx.facts h3 ok rv p
  | .blt b px es p, X, h0, wx, cx, h => by
    obtain ⟨h, h3⟩ := and2 h
    obtain ⟨h1, h2⟩ := and2 h
    obtain ⟨g1, g2, g3⟩ := globC_ok h1
    cases es with
    | nil => cases h2
    | cons e es =>
      have ha := sound_x (e :: es) (h0 := h0) cx h3
      have hp := pe_blt (e := e.ex) (es := E.exs es) (b := b) (p := px) (pos := p) cx.calm g1 (cx.blt _ (by cases b <;> decide)) ha (star_ex _ e _) (stars_any _ p es)
      rw [cx.K] at hp
      have h4 : PE X (E.blt b px (e :: es) p).ex (rdE W h0 wx (ev C (E.blt b px (e :: es) p))) := PE.imp hp fun s H Q q => rd1 (T' := RepXL) q fun g r ds vs ok er rv p => blt_ok ok rv p
      refine ⟨h4, fun q => tst_of h4 (tst_ex X.env _ q), fun q => ?_⟩
      cases b <;> first | (cases q; done) | skip
      exact PE.imp hp fun s H Q q => rd1N (T' := RepXL) q fun g r ds vs ok er rv p => list_okN ok rv p
  | .mth m o po es p, X, h0, wx, cx, h => mk_n (fun q => by cases q) (fun q => by cases q) <| by
    obtain ⟨h, w5⟩ := and2 h
    obtain ⟨h, w4⟩ := and2 h
    obtain ⟨h, w3⟩ := and2 h
    obtain ⟨w1, w2⟩ := and2 h
    have hl : es.length = 1 := of_decide_eq_true w3
    have hline : (po.endLine == p.line) = true := by
      have := of_decide_eq_true w2
      simpa using this
    match es, hl, w5 with
    | [e], _, w5 =>
      have ha := sound_x [e] (h0 := h0) cx w5
      have hfew : ((backTo p (starEach [e.ex] X.env)).all (fun x => !x.1) && (backToKw p (keywordEach [] X.env)).all (fun x => x.1.isSome) && decide (([e.ex] : List Expr).length + ([] : List Keyword).length + (if ([] : List Keyword).isEmpty then 0 else 1) < 30)) = true := by
        rw [show [e.ex] = E.exs [e] from rfl, stars_all X.env p [e]]; rfl
      have key : ∀ (s : St) (H : Hp) (Q : VK), rdE W h0 wx (ev C (.mth m o po [e] p)) s H Q → tBM X.K "list" (rMth m X.K) (rdE W h0 wx (ev C o)) (rdT RepXL W h0 wx (evx C [e])) s H Q := fun s H Q q => by
        refine rd1 (T' := RepX) q fun g r d v ok er rv pp => ?_
        cases l : litems d with
        | none => rw [l] at pp; exact pp.elim
        | some ys =>
          rw [l] at pp
          simp only [Option.isSome_some, if_true] at pp
          obtain ⟨a, us, rfl, h1, r1⟩ := rv.prs.lst ys l
          refine ⟨.inl ⟨rfl, us, by rw [cx.K]; exact h1 g (Ext.refl g)⟩, g, r, rfl, ok, er, PostT.bind pp fun ds M g' _ x e1 e2 ok' vs rvs q => ?_⟩
          subst e2
          rw [cx.K]
          exact mth_ok ok' (rv.mono x) rvs q
      cases m with
      | index => exact PE.imp (pe_bm PySem.F.plainAttrs_list PySem.F.slot_list_index PySem.F.type_list_index mt_index (sound_e o (h0 := h0) cx w4).1 ha (base_ex X.env _ o w1) hfew hline (star_ex X.env e []) rfl) key
      | count => exact PE.imp (pe_bm PySem.F.plainAttrs_list PySem.F.slot_list_count PySem.F.type_list_count mt_countF (sound_e o (h0 := h0) cx w4).1 ha (base_ex X.env _ o w1) hfew hline (star_ex X.env e []) rfl) key
  | .sub a i p, X, h0, wx, cx, h => mk_t (fun q => q) (fun q => by cases q) <| by
    obtain ⟨h1, h2⟩ := and2 h
    refine PE.imp (pe_ix ix_seq (sound_e a (h0 := h0) cx h1).1 (sound_e i (h0 := h0) cx h2).1 (plainIx_ex i)) fun s H Q q => ?_
    rw [cx.K]
    exact rd2 (k := fun x y M => ret (subD M x y) M) (fun g x y v u ok rx ry p => sub_ok ok rx ry p) q
  | .slc a lo hi ps p, X, h0, wx, cx, h => by
    obtain ⟨h, h3⟩ := and2 h
    obtain ⟨h1, h2⟩ := and2 h
    have hp := pe_slice (pos := p) (p2 := ps) sl_3 (sound_e a (h0 := h0) cx h1).1 (sound_o lo (h0 := h0) cx h2) (sound_o hi (h0 := h0) cx h3)
    rw [cx.K] at hp
    refine ⟨PE.imp hp fun s H Q q => ?_, fun q => (by cases q), fun _ => PE.imp hp fun s H Q q => ?_⟩
    · refine rd1 (T' := RepX) q fun g r d v ok er rv p => ?_
      refine ⟨g, r, rfl, ok, er, PostT.bind p fun l M g' _ x e1 e2 ok' l' el q => ?_⟩
      subst e2 el
      refine ⟨g', r, rfl, ok', er.mono x, PostT.bind q fun u M g'' _ y e3 e4 ok'' u' eu q => ?_⟩
      subst e4 eu
      exact slc_ok ok'' ((rv.mono x).mono y) q
    · refine rd1N (T' := RepX) q fun g r d v ok er rv p => ?_
      refine ⟨g, r, rfl, ok, er, PostN.bind p fun l M g' _ x e1 e2 ok' l' el q => ?_⟩
      subst e2 el
      refine ⟨g', r, rfl, ok', er.mono x, PostN.bind q fun u M g'' _ y e3 e4 ok'' u' eu q => ?_⟩
      subst e4 eu
      exact slc_okN ok'' ((rv.mono x).mono y) q
  | .srt a px p, X, h0, wx, cx, h => by
    obtain ⟨h1, h2⟩ := and2 h
    obtain ⟨g1, g2, g3⟩ := globC_ok h1
    have hp : PE X (E.ex (.srt a px p)) (tCB (rSrt W) (tCons (rdE W h0 wx (ev C a)) tNil)) := by
      have := pe_callB (e := a.ex) (es := []) (p := px) (pos := p) (call_srt cx.K cx.un) g1 (cx.blt "sorted" (by decide)) boot_sorted (pa_cons (sound_e a (h0 := h0) cx h2).1 pa_nil (star_ex _ a _)) g3 g2 (star_ex _ a _) rfl
      exact this
    refine mk_l (fun q => by cases q) (fun r M d M' q => ?_) (PE.imp hp fun s H Q q => ?_)
    · simp only [ev] at q
      cases h1 : ev C a r M with
      | bad => rw [h1] at q; cases q
      | exc c M1 => rw [h1] at q; cases q
      | ok x M1 =>
        rw [h1] at q
        simp only [R.bind] at q
        unfold ret srtD at q
        split at q
        · rename_i hh
          split at hh
          · split at hh
            · cases hh; cases q; exact ⟨_, rfl⟩
            · cases hh
          · cases hh
        · cases q
    · exact rd1N (T' := RepX) (k := fun x r M1 => ret (srtD M1 x) M1) q fun g r d v ok er rv p => ⟨g, d, v, _, rfl, rfl, ok, rv, p⟩
  | .srk a f x pf pk px p, X, h0, wx, cx, h => by
    obtain ⟨h, h4⟩ := and2 h
    obtain ⟨h, h3⟩ := and2 h
    obtain ⟨h1, h2⟩ := and2 h
    obtain ⟨g1, g2, g3⟩ := globC_ok h1
    obtain ⟨f1, f2, f3⟩ := globC_ok h2
    have h3 : (T f).map (fun F => (F.name, F.ps.length)) = some (x, 1) := of_decide_eq_true h3
    cases q : T f with
    | none => rw [q] at h3; cases h3
    | some F =>
      rw [q] at h3
      have e : (F.name, F.ps.length) = (x, 1) := Option.some.inj h3
      injection e with e1 e2
      subst e1
      obtain ⟨k, fd, hf, hr, hm, hk, hb⟩ := cx.fn f F q
      have hp : PE X (E.ex (.srk a f F.name pf pk px p)) (tCKw (rSrk W (C.call f) f) (tCons (rdE W h0 wx (ev C a)) tNil) (tCons (tC (.ref (W.fa f))) tNil)) := by
        have := pe_callBK (e := a.ex) (es := []) (p := px) (pos := p) (call_srk hf e2 hr.in1.in1 hb cx.K cx.un) g1 (cx.blt "sorted" (by decide)) boot_sorted (pa_cons (sound_e a (h0 := h0) cx h4).1 pa_nil (star_ex _ a _)) (pk_cons (nm := some "key") (kpos := pk) (e := .Name F.name pf) (pe_glob (X := X) (v := .ref (W.fa f)) f1 hm rfl f2) pk_nil) g3 g2 (by rw [star_ex]; rfl) (by rw [star_ex]; rfl)
        exact this
      refine mk_l (fun q => by cases q) (fun r M d M' q => ?_) (PE.imp hp fun s H Q q => ?_)
      · simp only [ev] at q
        cases h1 : ev C a r M with
        | bad => rw [h1] at q; cases q
        | exc c M1 => rw [h1] at q; cases q
        | ok x M1 =>
          rw [h1] at q
          simp only [R.bind] at q
          unfold srkE at q
          split at q
          · split at q
            · unfold R.bind at q
              split at q
              · dsimp only at q
                split at q
                · cases q; exact ⟨_, rfl⟩
                · cases q
              · cases q
              · cases q
            · cases q
          · cases q
      · exact rd1N (T' := RepX) (k := fun x r M1 => srkE (C.call f) x M1) q fun g r d v ok er rv p => ⟨g, d, v, _, rfl, rfl, rfl, ok, rv, p⟩
  | .tup es k p, X, h0, wx, cx, h => mk_n (fun q => by cases q) (fun q => by cases q) <| by
    refine PE.imp (pe_tup (sound_s es (h0 := h0) cx h)) fun s H Q q => ?_
    refine rd1 (T' := RepL) q fun g r ds vs ok er rv p => ?_
    by_cases hl : ds.length ≤ sizeLine
    · rw [if_pos hl] at p
      exact ⟨by rw [← rv.length]; exact hl, fun a ha => Pst.tup p ok ha rv⟩
    · rw [if_neg hl] at p
      exact p.elim
  | .lst es p, X, h0, wx, cx, h => mk_l (fun q => by cases q) (fun r M d M' q => by
      simp only [ev] at q
      cases h1 : evs C es r M with
      | bad => rw [h1] at q; cases q
      | exc c M1 => rw [h1] at q; cases q
      | ok ds M1 =>
        rw [h1] at q
        simp only [R.bind] at q
        by_cases hl : ds.length ≤ sizeLine
        · rw [if_pos hl] at q; cases q; exact ⟨_, rfl⟩
        · rw [if_neg hl] at q; cases q) <| by
    refine PE.imp (pe_lst (sound_s es (h0 := h0) cx h)) fun s H Q q => ?_
    refine rd1N (T' := RepL) q fun g r ds vs ok er rv p => ?_
    by_cases hl : ds.length ≤ sizeLine
    · rw [if_pos hl] at p
      exact ⟨by rw [← rv.length]; exact hl, fun a ha => PostN.lst p ok ha rv⟩
    · rw [if_neg hl] at p
      exact p.elim
  | .lc elt tg sk src ifs scope own p, X, h0, wx, cx, h => mk_l (fun q => by cases q) (fun r M d M' q => by
      simp only [ev] at q
      cases h1 : (evx C src r M).bind fun ss M1 => retL (srcD sk ss) M1 with
      | bad => rw [h1] at q; cases q
      | exc c M1 => rw [h1] at q; cases q
      | ok ds M1 =>
        rw [h1] at q
        simp only [R.bind] at q
        split at q
        · rename_i ys M5 _
          by_cases hl : ys.length ≤ sizeLine
          · rw [if_pos hl] at q; cases q; exact ⟨_, rfl⟩
          · rw [if_neg hl] at q; cases q
        · cases q
        · cases q) <| by
    obtain ⟨h, w8⟩ := and2 h
    obtain ⟨h, w7⟩ := and2 h
    obtain ⟨h, w6⟩ := and2 h
    obtain ⟨h, w5⟩ := and2 h
    obtain ⟨h, w4⟩ := and2 h
    obtain ⟨h, w3⟩ := and2 h
    obtain ⟨w1, w2⟩ := and2 h
    have hi := pi_src (Rl := Ext) (C := C) (W := W) (h0 := h0) (wx := wx) (k := fun ss M => retL (srcD sk ss) M) (tg := tg) cx.K cx.blt (fun _ _ x => x.toEx0) Ext.refl (fun ss M => .inr ⟨rfl, fun g vs r => r.prs⟩) w4 (sound_x src (h0 := h0) cx w5) (fun e he => (sound_1 src (h0 := h0) cx w5 e he))
    refine PE.imp (lc_ok (p := p) (C := C) cx.K cx.calm cx.nd hi (blkOk_by w1) ?_ w2 (fun i hi => ?_) (fun s H C' cl fp => ?_) (fun s H C' cl fp => (sound_e elt (h0 := h0) (cx.blk s H scope cl C' fp) w8).1)).1 fun s H Q q => q
    · cases sk with
      | one =>
        have hl : src.length = 1 := by simpa [SK.wf] using w4
        match src, hl with
        | [e], _ => exact folded_ex X.env e
      | _ => intro x; rfl
    · have := List.all_eq_true.mp w3 i hi
      exact List.contains_iff_mem.mp this
    · exact sound_ts ifs (cx.blk s H scope cl C' fp) w6 w7
  | .live e, X, h0, wx, cx, h => mk_n (fun q => by cases q) (fun q => by cases q) <| by
    obtain ⟨h1, h2⟩ := and2 h
    refine PE.imp ((sound_e e (h0 := h0) cx h2).2.2 h1) fun s H Q q => ?_
    obtain ⟨g, r, e0, ok, er, p⟩ := q
    refine ⟨g, r, e0, ok, er, ?_⟩
    simp only [ev] at p
    cases hq : ev C e r g.M with
    | bad => rw [hq] at p; exact p
    | exc c M => rw [hq] at p; exact p
    | ok d M =>
      rw [hq] at p
      simp only [R.bind] at p
      cases d <;> first | exact p.elim | skip
      exact live_ok p
theorem sound_1 : ∀ (es : List E) {X : Cx} {h0 : List Addr} {wx : WXD}, Ctx W T C X wx → E.wfs W T X.N X.env.scope es = true → ∀ e, es = [e] → PE X e.ex (rdE W h0 wx (ev C e))
  | [], _, _, _, _, _, _, he => by cases he
  | e :: es, X, h0, wx, cx, h, e', he => by
    obtain ⟨h1, h2⟩ := and2 h
    have q := (sound_e e (h0 := h0) cx h1).1
    cases he
    exact q
theorem sound_ts : ∀ (es : List E) {X : Cx} {h0 : List Addr} {wx : WXD}, Ctx W T C X wx → E.wfs W T X.N X.env.scope es = true → es.all E.wft = true → PTs X (E.exs es) (rdT (fun _ _ (b c : Bool) => b = c) W h0 wx (evT C es))
  | [], X, h0, wx, cx, h, ht => ⟨fun pins s σ H Q I q => pts_nil.run pins s σ H Q I (by obtain ⟨g, r, e, ok, er, p⟩ := q; subst e; exact p g (Ext.refl g) rfl rfl ok _ rfl)⟩
  | [e], X, h0, wx, cx, h, ht => by
    obtain ⟨h1, h2⟩ := and2 h
    have ht : E.wft e = true := by simpa using ht
    exact pts_one ((sound_e e (h0 := h0) cx h1).2.1 ht)
  | e :: e' :: es, X, h0, wx, cx, h, ht => ⟨fun pins s σ H Q I q => by obtain ⟨g, r, e, ok, er, p⟩ := q; exact p.elim⟩
theorem sound_s : ∀ (es : List E) {X : Cx} {h0 : List Addr} {wx : WXD}, Ctx W T C X wx → E.wfs W T X.N X.env.scope es = true → PA X (E.exs es) (rdT RepL W h0 wx (evs C es))
  | [], X, h0, wx, cx, h => PA.imp pa_nil fun s H Q ⟨g, r, e, ok, er, p⟩ => by subst e; exact p g (Ext.refl g) rfl rfl ok _ .nil
  | e :: es, X, h0, wx, cx, h => by
    obtain ⟨h1, h2⟩ := and2 h
    refine PA.imp (pa_cons (sound_e e (h0 := h0) cx h1).1 (sound_s es (h0 := h0) cx h2) (star_ex _ e _)) fun s H Q q => ?_
    refine rd1 (T' := RepX) q fun g r d v ok er rv p => ?_
    unfold kept at p
    by_cases hn : nown d = true
    · rw [if_pos hn] at p
      refine ⟨g, r, rfl, ok, er, PostT.bind p fun ds M g' _ x e1 e2 ok' vs rvs q => ?_⟩
      exact q g' (Ext.refl g') rfl e2 ok' _ (.cons ((rv.rep hn).mono x.toEx0) rvs)
    · rw [if_neg hn] at p
      exact p.elim
theorem sound_x : ∀ (es : List E) {X : Cx} {h0 : List Addr} {wx : WXD}, Ctx W T C X wx → E.wfs W T X.N X.env.scope es = true → PA X (E.exs es) (rdT RepXL W h0 wx (evx C es))
  | [], X, h0, wx, cx, h => PA.imp pa_nil fun s H Q ⟨g, r, e, ok, er, p⟩ => by subst e; exact p g (Ext.refl g) rfl rfl ok _ trivial
  | e :: es, X, h0, wx, cx, h => by
    obtain ⟨h1, h2⟩ := and2 h
    refine PA.imp (pa_cons (sound_e e (h0 := h0) cx h1).1 (sound_x es (h0 := h0) cx h2) (star_ex _ e _)) fun s H Q q => ?_
    refine rd1 (T' := RepX) q fun g r d v ok er rv p => ?_
    refine ⟨g, r, rfl, ok, er, PostT.bind p fun ds M g' _ x e1 e2 ok' vs rvs q => ?_⟩
    exact q g' (Ext.refl g') rfl e2 ok' _ ⟨rv.mono x, rvs⟩
theorem sound_o : ∀ (o : Option E) {X : Cx} {h0 : List Addr} {wx : WXD}, Ctx W T C X wx → E.wfo W T X.N X.env.scope o = true → PO X (E.exo o) (rdT (fun _ _ (a b : Option Int) => a = b) W h0 wx (evO C o))
  | none, X, h0, wx, cx, h => ⟨fun pins s σ H Q I q => (po_none (X := X)).run pins s σ H Q I (by obtain ⟨g, r, e, ok, er, p⟩ := q; subst e; exact p g (Ext.refl g) rfl rfl ok _ rfl)⟩
  | some e, X, h0, wx, cx, h => ⟨fun pins s σ H Q I q => (po_some (sound_e e (h0 := h0) cx h).1).run pins s σ H Q I (by
      refine rd1 (T' := RepX) q fun g r d v ok er rv p => ?_
      cases d <;> first | exact p.elim | skip
      cases rv.int
      exact ⟨_, rfl, p g (Ext.refl g) rfl rfl ok _ rfl⟩)⟩
theorem sound_b : ∀ (o : BoolOp) (es : List E) (p : Pos) {X : Cx} {h0 : List Addr} {wx : WXD}, Ctx W T C X wx → E.wfs W T X.N X.env.scope es = true →
    PE X (.BoolOp o (E.exs es) p) (rdE W h0 wx (evB C o es)) ∧ (E.wfts es = true → PW X (.BoolOp o (E.exs es) p) (rdB W h0 wx (fun r M => (evB C o es r M).bind fun x M1 => (match x with
      | .bl b => .ok b M1
      | _ => .bad))))
  | o, [], p, X, h0, wx, cx, h => ⟨⟨fun _ _ _ _ _ _ q => by obtain ⟨g, r, e, ok, er, p⟩ := q; exact p.elim⟩, fun _ => ⟨fun _ _ _ _ _ _ _ q => by obtain ⟨g, r, e, ok, er, p⟩ := q; exact p.elim⟩⟩
  | o, [e], p, X, h0, wx, cx, h => by
    obtain ⟨h1, _⟩ := and2 h
    refine ⟨PE.imp (pe_one (sound_e e (h0 := h0) cx h1).1) fun s H Q q => q, fun ht => ?_⟩
    obtain ⟨ht, _⟩ := and2 ht
    have q := (sound_e e (h0 := h0) cx h1).2.1 ht
    cases o with
    | And => exact pw_and1 q
    | Or => exact pw_or1 q
  | .And, e :: e' :: es, p, X, h0, wx, cx, h => by
    obtain ⟨h1, h2⟩ := and2 h
    refine ⟨PE.imp (pe_and (sound_e e (h0 := h0) cx h1).1 (sound_b .And (e' :: es) p (h0 := h0) cx h2).1) fun s H Q q => ?_, fun ht => ?_⟩
    · refine rd1 (T' := RepX) q fun g r d v ok er rv p => ?_
      cases d <;> first | exact p.elim | skip
      rename_i b
      cases rv.bl
      refine ⟨b, rfl, ?_⟩
      cases b with
      | true => rw [if_pos rfl]; exact ⟨g, r, rfl, ok, er, p⟩
      | false => rw [if_neg (by decide)]; exact Pst.val (g := g) p ok (.inl (.bl _))
    · obtain ⟨ht1, ht2⟩ := and2 ht
      refine PW.imp (pw_and ((sound_e e (h0 := h0) cx h1).2.1 ht1) ((sound_b .And (e' :: es) p (h0 := h0) cx h2).2 ht2)) fun s H Q q => ?_
      obtain ⟨g, r, e0, ok, er, p⟩ := q
      refine ⟨g, r, e0, ok, er, ?_⟩
      unfold tstE
      simp only [evB] at p ⊢
      cases hq : ev C e r g.M with
      | bad => rw [hq] at p; exact p
      | exc c M => rw [hq] at p; exact p
      | ok d M =>
        rw [hq] at p
        simp only [R.bind] at p ⊢
        cases d <;> first | exact p.elim | skip
        rename_i b
        intro g' x e1 e2 ok' c ec
        subst e2 ec
        cases b with
        | true => rw [if_pos rfl]; exact ⟨g', r, rfl, ok', er.mono x, PostT.mono p x e1⟩
        | false => rw [if_neg (by decide)]; exact p g' x e1 rfl ok' _ rfl
  | .Or, e :: e' :: es, p, X, h0, wx, cx, h => by
    obtain ⟨h1, h2⟩ := and2 h
    refine ⟨PE.imp (pe_or (sound_e e (h0 := h0) cx h1).1 (sound_b .Or (e' :: es) p (h0 := h0) cx h2).1) fun s H Q q => ?_, fun ht => ?_⟩
    · refine rd1 (T' := RepX) q fun g r d v ok er rv p => ?_
      cases d <;> first | exact p.elim | skip
      rename_i b
      cases rv.bl
      refine ⟨b, rfl, ?_⟩
      cases b with
      | false => rw [if_neg (by decide)]; exact ⟨g, r, rfl, ok, er, p⟩
      | true => rw [if_pos rfl]; exact Pst.val (g := g) p ok (.inl (.bl _))
    · obtain ⟨ht1, ht2⟩ := and2 ht
      refine PW.imp (pw_or ((sound_e e (h0 := h0) cx h1).2.1 ht1) ((sound_b .Or (e' :: es) p (h0 := h0) cx h2).2 ht2)) fun s H Q q => ?_
      obtain ⟨g, r, e0, ok, er, p⟩ := q
      refine ⟨g, r, e0, ok, er, ?_⟩
      unfold tstE
      simp only [evB] at p ⊢
      cases hq : ev C e r g.M with
      | bad => rw [hq] at p; exact p
      | exc c M => rw [hq] at p; exact p
      | ok d M =>
        rw [hq] at p
        simp only [R.bind] at p ⊢
        cases d <;> first | exact p.elim | skip
        rename_i b
        intro g' x e1 e2 ok' c ec
        subst e2 ec
        cases b with
        | false => rw [if_neg (by decide)]; exact ⟨g', r, rfl, ok', er.mono x, PostT.mono p x e1⟩
        | true => rw [if_pos rfl]; exact p g' x e1 rfl ok' _ rfl
end
end
end L2.Z
set_option Elab.async false
set_option linter.all false
set_option maxRecDepth 100000
set_option maxHeartbeats 1000000
/-! ### soundness: statements -/
namespace L2.Z
open PySem PySem.Spec PyProof.Rows

/-- what is wanted behind a statement; g0: the def's entry -/
def PostS (W : Gam) (g0 gf : G) (r : R Fl) (D : Ends) (wx : WXD) : Prop := match r with
  | .ok (.nx r') M => ∀ (g' : G) (s' : St), g'.Ok W → Ext g0 g' → Ex0 gf g' → g'.M = M → EnvR W g0.hid g' r' s' → D.nx s' g'.H
  | .ok (.rt d) M => ∀ (g' : G), g'.Ok W → Ext g0 g' → Ex0 gf g' → g'.M = M → ∀ v, Rep W g' d v → D.rt v g'.H
  | .exc c M => ∀ (g' : G) (s' : St), g'.Ok W → Ext g0 g' → Ex0 gf g' → g'.M = M → wx c s' g'.H
  | .bad => False
theorem PostS.mono {W : Gam} {g0 gf g1 : G} {r : R Fl} {D : Ends} {wx : WXD} (h : PostS W g0 gf r D wx) (x : Ex0 gf g1) : PostS W g0 g1 r D wx := by
  cases r with
  | ok o M =>
    cases o with
    | nx r' => exact fun g' s' ok x0 y => h g' s' ok x0 (x.trans y)
    | rt d => exact fun g' ok x0 y => h g' ok x0 (x.trans y)
  | exc c M => exact fun g' s' ok x0 y => h g' s' ok x0 (x.trans y)
  | bad => exact h
def rdS (W : Gam) (g0 : G) (wx : WXD) (m : Env → Ev Fl) : TS := fun D s H => ∃ (g : G) (r : Env), g.H = H ∧ g.Ok W ∧ Ext g0 g ∧ EnvR W g0.hid g r s ∧ PostS W g0 g (m r g.M) D wx
theorem PS.imp {X : Cx} {st : Stmt} {t t' : TS} (h : PS X st t) (k : ∀ D s H, t' D s H → t D s H) : PS X st t' := ⟨fun pins s σ H D I q => h.run pins s σ H D I (k _ _ _ q)⟩
theorem PSs.imp {X : Cx} {st : List Stmt} {t t' : TS} (h : PSs X st t) (k : ∀ D s H, t' D s H → t D s H) : PSs X st t' := ⟨fun pins s σ H D I q => h.run pins s σ H D I (k _ _ _ q)⟩
section
variable {W : Gam} {g0 : G} {wx : WXD}
/-- an expression's run at the head of a statement -/
theorem rdS1 {α' β' : Type} {T' : Gam → G → α' → β' → Prop} {m : Env → Ev α'} {k : α' → Env → Ev Fl} {s : St} {H : Hp} {D : Ends} {Q1 : β' → Hp → Prop}
    (h : rdS W g0 wx (fun r M => (m r M).bind fun x M1 => k x r M1) D s H)
    (hk : ∀ (g : G) (r : Env) (d : α') (v : β'), g.Ok W → Ext g0 g → EnvR W g0.hid g r s → T' W g d v → PostS W g0 g (k d r g.M) D wx → Q1 v g.H) : rdT T' W g0.hid wx m s H Q1 := by
  obtain ⟨g, r, e, ok, x0, er, p⟩ := h
  refine ⟨g, r, e, ok, er, ?_⟩
  dsimp only at p
  cases hq : m r g.M with
  | bad => rw [hq] at p; exact p
  | exc c M => rw [hq] at p; exact fun g' x e1 e2 ok' => p g' s ok' (x0.trans x) x.toEx0 e2
  | ok d M =>
    rw [hq] at p
    intro g' x e1 e2 ok' v rv
    subst e2
    exact hk g' r d v ok' (x0.trans x) (er.mono x) rv (PostS.mono p x.toEx0)
theorem rdS1N {m : Env → Ev D} {k : D → Env → Ev Fl} {s : St} {H : Hp} {D' : Ends} {Q1 : VK}
    (h : rdS W g0 wx (fun r M => (m r M).bind fun x M1 => k x r M1) D' s H) (hl : ∀ r M d M', m r M = .ok d M' → (∀ r' M', k d r' M' = .bad) ∨ ∃ xs, d = .lst xs)
    (hk : ∀ (g : G) (r : Env) (xs : List D) (p : Addr) (vs : List V), g.Ok W → Ext g0 g → EnvR W g0.hid g r s → g.H p = none → RepL W g xs vs → PostS W g0 g (k (.lst xs) r g.M) D' wx → Q1 (.ref p) (upd g.H p (.lst vs))) : rdN W g0.hid wx m s H Q1 := by
  obtain ⟨g, r, e, ok, x0, er, p⟩ := h
  refine ⟨g, r, e, ok, er, ?_⟩
  dsimp only at p
  cases hq : m r g.M with
  | bad => rw [hq] at p; exact p
  | exc c M => rw [hq] at p; exact fun g' x e1 e2 ok' => p g' s ok' (x0.trans x) x.toEx0 e2
  | ok d M =>
    rw [hq] at p
    rcases hl r g.M d M hq with hb | ⟨xs, rfl⟩
    · simp only [R.bind, hb] at p
      exact p.elim
    · intro g' pp vs x e1 e2 ok' hp rv
      subst e2
      exact hk g' r xs pp vs ok' (x0.trans x) (er.mono x) hp rv (PostS.mono p x.toEx0)
end
/-- what a def's body stands in -/
structure SCtx (W : Gam) (T : Nat → Option Fn) (C : Cfg) (X : Cx) (wx : WXD) : Prop extends Ctx W T C X wx where
  kind : X.env.scope.kind = .function
  stk : X.stack = X.env :: X.outer
  frm : X.env.frame = some X.env.locals
  exn : X.ex = []
  fnT : X.fn = fun _ => true
  po : PassesOwn (model X.prog X.w) X.A X.env X.xe
  rse : ∀ c x, W.ct c = some x → PySem.W.excIn X.K (W.ca c) [.type "ValueError", .type "Exception", .type "BaseException", .type "object"] "ValueError.__new__" = true ∧ PySem.W.keepIn X.K (.ref (W.ca c)) = true ∧ PySem.W.subIn X.K (.ref (W.ca c)) (.type "BaseException") = some true ∧ PySem.W.typeIn X.K (.ref (W.ca c)) = some (.type "type")
  subv : ∀ e c, C.sub e c = true → (W.ct e).isSome = true
  exm : ∀ c e x y, W.ct c = some x → W.ct e = some y → PySem.W.exmOne X.K (.ref (W.ca e)) (.ref (W.ca c)) = some (C.sub e c)

/-! #### names that are stored -/
theorem assignEach_nm (env : PySem.Env) (t : Tg) : (assignEach [t.ex] env).map (·.2) = [assign t.ex env] := by
  cases t <;> (simp only [Tg.ex]; rfl)
def isLc : E → Bool
  | .lc _ _ _ _ _ _ _ _ => true
  | .live e => isLc e
  | _ => false
theorem swaps_no (env : PySem.Env) (e : E) (t : Option Expr) (l : Nat) (h : isLc e = false) : swapsWith e.ex t l env = pure false := by
  induction e using E.rec (motive_2 := fun _ => True) (motive_3 := fun _ => True) <;> first | trivial | (simp only [E.ex]; rfl) | (cases h; done) | skip
  rename_i ih
  exact ih h
def isTupE : E → Bool
  | .tup _ _ _ => true
  | .live e => isTupE e
  | _ => false
theorem stores_no (env : PySem.Env) (tg : Tg) (e : E) (h : isTupE e = false ∨ tg.isTp = false) : swappedStores [tg.ex] e.ex env = pure none := by
  rcases h with h | h
  · induction e using E.rec (motive_2 := fun _ => True) (motive_3 := fun _ => True) <;> first | trivial | (cases tg <;> (simp only [E.ex, Tg.ex]; rfl)) | (cases h; done) | skip
    rename_i ih
    exact ih h
  · cases tg with
    | nm i x p => simp only [Tg.ex]; rfl
    | tp ts k p => cases h
/-! #### what may be stored where -/
theorem kept_bind {α : Type} {d : D} {M : Mem} {k : D → Ev α} : (kept d M).bind k = if nown d = true then k d M else .bad := by
  unfold kept
  by_cases h : nown d = true
  · rw [if_pos h, if_pos h]; rfl
  · rw [if_neg h, if_neg h]; rfl
section
variable {W : Gam} {h0 : List Addr} {g : G}
/-- a name takes a list as its own -/
theorem EnvR.setOwn {r : Env} {s : St} {i : Nat} {xs : List D} {a : Addr} {vs : List V} (er : EnvR W h0 g r s) (h1 : a ∈ g.hid) (h2 : g.H a = some (.lst vs)) (rv : RepL W g xs vs) (hn : a ∉ h0)
    (hf : ∀ (j : Nat) (ys : List D), r[j]? = some (some (.own ys)) → s[j]? ≠ some (some (.ref a))) : EnvR W h0 g (r.set i (some (.own xs))) (s.set i (some (.ref a))) := by
  refine ⟨by simp [er.len], fun j d e => ?_, fun j ys b e1 e2 => ?_, fun j k ys zs b e1 e2 e3 e4 => ?_⟩
  · by_cases q : i = j
    · subst q
      by_cases hl : i < r.length
      · rw [List.getElem?_set_self hl] at e
        cases e
        exact ⟨.ref a, by rw [List.getElem?_set_self (by rw [er.len]; exact hl)], .inr ⟨xs, a, vs, rfl, rfl, h1, h2, rv⟩⟩
      · rw [List.getElem?_eq_none (by simpa using hl)] at e; cases e
    · rw [List.getElem?_set_ne q] at e ⊢
      exact er.get j d e
  · by_cases q : i = j
    · subst q
      by_cases hl : i < s.length
      · rw [List.getElem?_set_self hl] at e2
        cases e2
        exact hn
      · rw [List.getElem?_eq_none (by simpa using hl)] at e2; cases e2
    · rw [List.getElem?_set_ne q] at e1 e2
      exact er.own j ys b e1 e2
  · by_cases q : i = j
    · by_cases q' : i = k
      · rw [← q, ← q']
      · subst q
        rw [List.getElem?_set_ne q'] at e2 e4
        by_cases hl : i < s.length
        · rw [List.getElem?_set_self hl] at e3
          cases e3
          exact absurd e4 (hf k zs e2)
        · rw [List.getElem?_eq_none (by simpa using hl)] at e3; cases e3
    · by_cases q' : i = k
      · subst q'
        rw [List.getElem?_set_ne q] at e1 e3
        by_cases hl : i < s.length
        · rw [List.getElem?_set_self hl] at e4
          cases e4
          exact absurd e3 (hf j ys e1)
        · rw [List.getElem?_eq_none (by simpa using hl)] at e4; cases e4
      · rw [List.getElem?_set_ne q] at e1 e3
        rw [List.getElem?_set_ne q'] at e2 e4
        exact er.inj j k ys zs b e1 e2 e3 e4
/-- the own list of a name is changed -/
theorem EnvR.hw {r : Env} {s : St} {i : Nat} {ys xs : List D} {a : Addr} {vs : List V} (ok : g.Ok W) (er : EnvR W h0 g r s) (hi : r[i]? = some (some (.own ys))) (hs : s[i]? = some (some (.ref a))) (h1 : a ∈ g.hid) (rv : RepL W g xs vs) :
    EnvR W h0 (g.hw a (.lst vs)) (r.set i (some (.own xs))) s := by
  have hil : i < r.length := (List.getElem?_eq_some_iff.mp hi).1
  have old : ∀ (j : Nat) (d : D), i ≠ j → (r.set i (some (.own xs)))[j]? = some (some d) → r[j]? = some (some d) := fun j d q e => by
    rw [List.getElem?_set_ne q] at e; exact e
  have ownAt : ∀ (j : Nat) (zs : List D), (r.set i (some (.own xs)))[j]? = some (some (.own zs)) → ∃ ws, r[j]? = some (some (.own ws)) := fun j zs e => by
    by_cases q : i = j
    · subst q; exact ⟨ys, hi⟩
    · exact ⟨zs, old j _ q e⟩
  refine ⟨by simp [er.len], fun j d e => ?_, fun j zs b e1 e2 => ?_, fun j k zs ws b e1 e2 e3 e4 => ?_⟩
  · by_cases q : i = j
    · subst q
      rw [List.getElem?_set_self hil] at e
      cases e
      exact ⟨.ref a, hs, .inr ⟨xs, a, vs, rfl, rfl, h1, upd_same, rv.mono (ok.hw_ext h1)⟩⟩
    · have e := old j d q e
      obtain ⟨v, e1, rx⟩ := er.get j d e
      refine ⟨v, e1, ?_⟩
      rcases rx with rx | ⟨zs, b, us, d1, d2, d3, d4, d5⟩
      · exact .inl (rx.mono (ok.hw_ext h1))
      · subst d1 d2
        have ne : b ≠ a := fun z => by
          subst z
          exact q (er.inj i j ys zs b hi e hs e1)
        exact .inr ⟨zs, b, us, rfl, rfl, d3, by show upd g.H a _ b = _; rw [upd_ne ne]; exact d4, d5.mono (ok.hw_ext h1)⟩
  · obtain ⟨ws, e1⟩ := ownAt j zs e1
    exact er.own j ws b e1 e2
  · obtain ⟨us, e1⟩ := ownAt j zs e1
    obtain ⟨us', e2⟩ := ownAt k ws e2
    exact er.inj j k us us' b e1 e2 e3 e4
theorem EnvR.none {r : Env} {s : St} {i : Nat} {o : Option V} (er : EnvR W h0 g r s) : EnvR W h0 g (r.set i none) (s.set i o) := by
  have at_ : ∀ (j : Nat) (d : D), (r.set i Option.none)[j]? = some (some d) → i ≠ j ∧ r[j]? = some (some d) := fun j d e => by
    by_cases q : i = j
    · subst q
      by_cases hl : i < r.length
      · rw [List.getElem?_set_self hl] at e; cases e
      · rw [List.getElem?_eq_none (by simpa using hl)] at e; cases e
    · rw [List.getElem?_set_ne q] at e
      exact ⟨q, e⟩
  refine ⟨by simp [er.len], fun j d e => ?_, fun j xs a h1 h2 => ?_, fun j k xs ys a h1 h2 h3 h4 => ?_⟩
  · obtain ⟨q, e⟩ := at_ j d e
    rw [List.getElem?_set_ne q]
    exact er.get j d e
  · obtain ⟨q, e⟩ := at_ j _ h1
    rw [List.getElem?_set_ne q] at h2
    exact er.own j xs a e h2
  · obtain ⟨q, e⟩ := at_ j _ h1
    obtain ⟨q', e'⟩ := at_ k _ h2
    rw [List.getElem?_set_ne q] at h3
    rw [List.getElem?_set_ne q'] at h4
    exact er.inj j k xs ys a e e' h3 h4
/-- an own list is frozen -/
theorem EnvR.fz1 {r : Env} {s : St} {i : Nat} {xs : List D} (ok : g.Ok W) (er : EnvR W h0 g r s) (hi : r[i]? = some (some (.own xs))) (hl : ∀ b ∈ h0, b ∈ g.hid) :
    ∃ g', g'.Ok W ∧ Ex0 g g' ∧ g'.M = g.M ∧ g'.H = g.H ∧ (∀ b ∈ h0, b ∈ g'.hid) ∧ EnvR W h0 g' (r.set i (some (.lst xs))) s := by
  obtain ⟨v, hs, rx⟩ := er.get i _ hi
  rcases rx with rx | ⟨zs, a, vs, d1, d2, d3, d4, d5⟩
  · cases rx
  · cases d1
    subst d2
    have na := er.own i xs a hi hs
    have sub : ∀ b ∈ g.hid.filter (· ≠ a), b ∈ g.hid := fun b hb => (List.mem_filter.mp hb).1
    have ex := G.show_ext0 (g := g) sub
    have ok' := ok.show_ok sub
    have nl : ¬ (g.show_ (g.hid.filter (· ≠ a))).live a := ok.show_nl d3 (by simp)
    have hil : i < r.length := (List.getElem?_eq_some_iff.mp hi).1
    refine ⟨g.show_ (g.hid.filter (· ≠ a)), ok', ex, rfl, rfl, fun b hb => List.mem_filter.mpr ⟨hl b hb, by simp; exact fun z => na (by rw [← z]; exact hb)⟩, by simp [er.len], fun j d e => ?_, fun j ys b e1 e2 => ?_, fun j k ys ws b e1 e2 e3 e4 => ?_⟩
    · by_cases q : i = j
      · subst q
        rw [List.getElem?_set_self hil] at e
        cases e
        exact ⟨.ref a, hs, .inl (.lst d4 nl (d5.mono ex))⟩
      · rw [List.getElem?_set_ne q] at e
        obtain ⟨v, e1, rx⟩ := er.get j d e
        refine ⟨v, e1, ?_⟩
        rcases rx with rx | ⟨zs, b, us, f1, f2, f3, f4, f5⟩
        · exact .inl (rx.mono ex)
        · subst f1 f2
          have ne : b ≠ a := fun z => by
            subst z
            exact q (er.inj i j xs zs b hi e hs e1)
          exact .inr ⟨zs, b, us, rfl, rfl, List.mem_filter.mpr ⟨f3, by simpa using ne⟩, f4, f5.mono ex⟩
    · by_cases q : i = j
      · subst q
        rw [List.getElem?_set_self hil] at e1
        cases e1
      · rw [List.getElem?_set_ne q] at e1
        exact er.own j ys b e1 e2
    · by_cases q : i = j
      · subst q
        rw [List.getElem?_set_self hil] at e1
        cases e1
      · by_cases q' : i = k
        · subst q'
          rw [List.getElem?_set_self hil] at e2
          cases e2
        · rw [List.getElem?_set_ne q] at e1
          rw [List.getElem?_set_ne q'] at e2
          exact er.inj j k ys ws b e1 e2 e3 e4
theorem EnvR.fzs {s : St} : ∀ (js : List Nat) {r : Env} {g : G}, g.Ok W → EnvR W h0 g r s → (∀ b ∈ h0, b ∈ g.hid) →
    ∃ g', g'.Ok W ∧ Ex0 g g' ∧ g'.M = g.M ∧ g'.H = g.H ∧ (∀ b ∈ h0, b ∈ g'.hid) ∧ EnvR W h0 g' (L2.Z.fzs r js) s
  | [], r, g, ok, er, hl => ⟨g, ok, Ex0.refl g, rfl, rfl, hl, er⟩
  | j :: js, r, g, ok, er, hl => by
    unfold L2.Z.fzs
    split
    · rename_i xs hj
      obtain ⟨g1, ok1, x1, m1, h1, l1, er1⟩ := er.fz1 ok hj hl
      obtain ⟨g2, ok2, x2, m2, h2, l2, er2⟩ := EnvR.fzs js ok1 er1 l1
      exact ⟨g2, ok2, x1.trans x2, m2.trans m1, h2.trans h1, l2, er2⟩
    · exact EnvR.fzs js ok er hl
end
def notStar : Expr → Bool
  | .Starred .. => false
  | _ => true
theorem notStar_ex (e : E) : notStar e.ex = true := by
  induction e using E.rec (motive_2 := fun _ => True) (motive_3 := fun _ => True) <;> first | trivial | (simp only [E.ex]; rfl) | assumption
theorem stores_par {env : PySem.Env} (hk : env.blockKind = .function) {x y : Str} {px py pt p2 : Pos} {kt k2 : Nat} {a b : Expr} (hx : env.kindOf x = some .local) (hy : env.kindOf y = some .local) (hl : py.line = px.line) (hne : x ≠ y)
    (ha : notStar a = true) (hb : notStar b = true) (hf : (foldedForSure 8 a && foldedForSure 8 b) = false) (hc : (constantsAlone 8 a && constantsAlone 8 b) = false) :
    swappedStores [.Tuple [.Name x px, .Name y py] kt pt] (.Tuple [a, b] k2 p2) env = pure (some [x, y]) := by
  have k1 : ∀ f : Expr → Bool, (∀ e, notStar e = true → f e = false) → [a, b].any f = false := fun f h => by simp [List.any_cons, h a ha, h b hb]
  have k2 : ∀ f : Expr → Option Str, f (.Name x px) = some x → f (.Name y py) = some y → [Expr.Name x px, Expr.Name y py].filterMap f = [x, y] := fun f e1 e2 => by simp [List.filterMap_cons, e1, e2]
  have h2 : [a, b].all (foldedForSure 8) = false := by simpa [List.all_cons] using hf
  have h3 : [a, b].all (constantsAlone 8) = false := by simpa [List.all_cons] using hc
  have h5 : ([x, y].eraseDups).length = 2 := by
    have : (y == x) = false := by simpa using Ne.symm hne
    simp [List.eraseDups_cons, List.filter_cons, this]
  unfold swappedStores
  dsimp only
  rw [if_neg (by simp [hk]), if_neg (by rw [k1 _ (fun e he => by cases e <;> first | rfl | cases he)]; decide), k2 _ (by simp [hx, Expr.pos]) (by simp [hy, hl, Expr.pos]), h5, h2, h3]
  rfl
/-- nothing is swapped: constants alone, names that are captured, other lengths -/
def swNo (sc : Scope) (ts : List Tg) (es : List Expr) : Bool := !(ts.length == 2 || ts.length == 3) || es.length != ts.length || es.all (foldedForSure 8) || ts.any fun
  | .nm _ x _ => decide (sc.names.lookup x = some .cell)
  | .tp _ _ _ => true
theorem filterMap_lt {α β : Type} (f : α → Option β) : ∀ (l : List α), (∃ a ∈ l, f a = none) → (l.filterMap f).length < l.length
  | [], h => by obtain ⟨a, h, _⟩ := h; cases h
  | b :: l, h => by
    have le : ∀ l : List α, (l.filterMap f).length ≤ l.length := fun l => List.length_filterMap_le f l
    rw [List.filterMap_cons]
    cases q : f b with
    | none => simp only [List.length_cons]; have := le l; omega
    | some c =>
      obtain ⟨a, ha, e⟩ := h
      rcases List.mem_cons.mp ha with ha | ha
      · subst ha; rw [q] at e; cases e
      · have := filterMap_lt f l ⟨a, ha, e⟩
        simp only [List.length_cons]; omega
theorem exs_len : ∀ ts : List Tg, (Tg.exs ts).length = ts.length
  | [] => rfl
  | _ :: ts => by simp [Tg.exs, exs_len ts]
theorem mem_exs : ∀ {ts : List Tg} {t : Tg}, t ∈ ts → t.ex ∈ Tg.exs ts
  | _ :: _, _, h => by
    rcases List.mem_cons.mp h with h | h
    · subst h; simp [Tg.exs]
    · simp [Tg.exs, mem_exs h]
theorem stores_none {env : PySem.Env} (hk : env.blockKind = .function) {ts : List Tg} {kt k2 : Nat} {pt p2 : Pos} {es : List Expr} (h : swNo env.scope ts es = true) (hs : ∀ e ∈ es, notStar e = true) :
    swappedStores [.Tuple (Tg.exs ts) kt pt] (.Tuple es k2 p2) env = pure none := by
  unfold swappedStores
  dsimp only
  by_cases c1 : (!(ts.length == 2 || ts.length == 3) || es.length != ts.length) = true
  · rw [if_pos (by rw [exs_len, c1]; rfl)]
  · rw [exs_len, if_neg (by rw [hk]; simpa using c1)]
    have k1 : ∀ f : Expr → Bool, (∀ e, notStar e = true → f e = false) → es.any f = false := fun f h => by
      rw [List.any_eq_false]; intro e he; simp [h e (hs e he)]
    rw [if_neg (by rw [k1 _ (fun e he => by cases e <;> first | rfl | cases he)]; decide)]
    unfold swNo at h
    rw [Bool.eq_false_iff.mpr c1, Bool.false_or] at h
    rcases Bool.or_eq_true_iff.mp h with h | h
    · split
      · rfl
      · first | rfl | rw [if_pos h]
    · obtain ⟨t, ht, h⟩ := List.any_eq_true.mp h
      have key : ∀ f : Expr → Option Str, f t.ex = none → ((Tg.exs ts).filterMap f).length ≠ ts.length := fun f e => by
        have := filterMap_lt f (Tg.exs ts) ⟨_, mem_exs ht, e⟩
        rw [exs_len] at this; omega
      rw [if_pos ?_]
      rw [Bool.or_eq_true]
      refine .inl ?_
      rw [bne_iff_ne]
      refine key _ ?_
      cases t with
      | nm i x p =>
        have hx : env.kindOf x = some .cell := of_decide_eq_true h
        simp [Tg.ex, hx]
      | tp ts' k p => simp [Tg.ex]
end L2.Z
set_option Elab.async false
set_option linter.all false
set_option maxRecDepth 100000
set_option maxHeartbeats 1000000
/-! ### a try that holds what it caught -/
namespace L2.Z
open PySem PySem.Spec PyProof.Rows

/-- what 'except x as n: m = n' wishes of what the body lets out: it is caught; m holds it, n is gone -/
def wHold (K : PySem.W.Frag) (c : Value) (i j : Nat) (D : Ends) : WX := fun cls d sl H =>
  d = none ∧ PySem.W.exmOne K cls c = some true ∧ ∀ a, H a = none → D.nx ((sl.set j (some (.ref a))).set i none) (upd H a (ExD cls a))
section
variable {X : Cx} {pins : List (Addr × Obj)} {sl : St} {H : Hp} {sI t : Shared} {B : Heap} {a : Addr} {cls : Value} {hp : Heap}
/-- an exception that flies over the frames of X: where it stands, and where it does not -/
structure Caught (X : Cx) (pins : List (Addr × Obj)) (B : Heap) (sI : Shared) (a : Addr) : Prop where
  gone : sI.heap.get? a = none
  ent : X.s_0.heap.get? a = none
  loc : a ≠ X.env.locals
  frs : a ∉ X.fs
  cel : ∀ x c, X.env.cells.lookup x = some c → c ≠ a
  pin : ∀ p ∈ X.pn ++ pins, p.1 ≠ a
theorem Caught.of (hs : X.stack = X.env :: X.outer) (hf : X.env.frame = some X.env.locals) (hex : X.ex = []) (I : Inv X pins sl H sI)
    (nb : ∀ b o, sI.heap.get? b = some o → b ∉ L2.frs X.stack → B.get? b = some o) (fl : HandSPX.FlyingZ B (X.env :: X.outer) a (Zc cls none) hp) : Caught X pins B sI a := by
  obtain ⟨oe, vs, e1, _, e2⟩ := fl.there
  have away : a ∉ L2.frs (X.env :: X.outer) := fun hm => by
    obtain ⟨_, ob, q, no⟩ := fl.2.2.1.mem hm
    exact no vs (by rw [e1] at q; rw [← Option.some.inj q]; exact e2)
  have gone : sI.heap.get? a = none := Option.eq_none_iff_forall_ne_some.mpr fun o q => by
    have z := nb a o q (hs ▸ away)
    rw [fl.2.1] at z
    cases z
  have clash : ∀ {o : Obj}, sI.heap.get? a = some o → False := fun z => by rw [gone] at z; cases z
  refine ⟨gone, ?_, fun z => away ?_, fun hm => away ?_, fun x c e z => ?_, fun p hp z => ?_⟩
  · refine Option.eq_none_iff_forall_ne_some.mpr fun o q => ?_
    obtain ⟨_, z⟩ := I.base.there a o q (by rw [hex]; simp)
    exact clash z
  · exact List.mem_filterMap.mpr ⟨X.env, by simp, hf.trans (congrArg some z.symm)⟩
  · obtain ⟨en, hen, q⟩ := List.mem_filterMap.mp hm
    exact List.mem_filterMap.mpr ⟨en, by simp [hen], q⟩
  · obtain ⟨_, o, ho, _⟩ := I.cell x c e
    exact clash (z ▸ ho)
  · exact clash (z ▸ (I.pin p hp).1)
/-- the suite m = n: behind it the exception is tracked -/
theorem held_end {oe : Obj} {vs : Array Value} {n : Str} {i j : Nat} {pos : Pos} {D : Ends} (ok : X.Ok) (cg : Caught X pins B sI a) (hN : X.N.Nodup) (hi : X.N[i]? = some n) (hln : X.env.kindOf n = some .local) (hij : i ≠ j)
    (hz : Zc cls none oe) (hd : oe.data = .fields vs) (S : Inv (X.suite a ((a, oe) :: (X.pn ++ pins))) [] ((sl.set i (some (.ref a))).set j (some (.ref a))) H t)
    (want : D.nx ((sl.set j (some (.ref a))).set i none) (upd H a (ExD cls a))) :
    wpAny (model X.prog X.w) X.A (do bindName X.env n .none; unbindBehindTheSuite X.env n pos) (fun _ t' => SP X pins D .next t') X.xe t := by
  have back : Inv X ((a, oe) :: pins) ((sl.set i (some (.ref a))).set j (some (.ref a))) H t :=
    ⟨ok, S.os, S.bare, S.base, S.loc, S.cell, S.free, S.freeC, fun p hp => S.pin p (by simp only [List.append_nil, List.mem_cons, List.mem_append] at hp ⊢; rcases hp with z | z | z <;> simp [z]), S.hok, S.len⟩
  refine gone_ok back hN hi hln fun t' J => ?_
  obtain ⟨at_, free, _⟩ := J.pin (a, oe) (by simp)
  have J' : Inv X pins _ H t' := J.pins_of fun p hp => J.pin p (by simp [hp])
  refine ⟨_, _, Inv.track (o := ExD cls a) J' free cg.ent cg.loc cg.cel cg.pin (exD_ok at_ hz hd), ?_⟩
  rw [List.set_comm _ _ hij, List.set_set]
  exact want
end
theorem ps_try_hold {X : Cx} {x n m : Str} {c : Value} {i j : Nat} {body : List Stmt} {np pos pos' pz py pa : Pos} {tb : WX → TS} (hs : X.stack = X.env :: X.outer) (hf : X.env.frame = some X.env.locals) (hex : X.ex = []) (hN : X.N.Nodup)
    (hi : X.N[i]? = some n) (hln : X.env.kindOf n = some .local) (hj : X.N[j]? = some m) (hlm : X.env.kindOf m = some .local) (hij : i ≠ j) (hd1 : (n == ("__debug__" : Str)) = false) (hd2 : (n == ("__classdict__" : Str)) = false) (hg : Gl X x) (hgd : (x == ("__debug__" : Str)) = false) (hm : X.mg x = some c)
    (hb : ∀ (W : WX) (pn : List (Addr × Obj)) (xe : Value → Shared → Prop), Takes (X.tr pn xe) W → PSs (X.tr pn xe) body (tb W)) :
    PS X (.Try body [.ExceptHandler (some (.Name x np)) (some n) [.Assign [.Name m pz] (.Name n py) pa] pos'] [] [] pos) (fun D σ H => tb (wHold X.K c i j D) D σ H) := by
  constructor
  intro pins t0 sl0 H0 D I0 want
  have ok := I0.ok
  have frames : X.A.frames = some (X.env :: X.outer) := ok.frames.trans (congrArg some hs)
  apply wpAny_Try_except
  have run := hb (wHold X.K c i j D) (X.pn ++ pins) (fun u t1 => wpAny (model X.prog X.w) X.A (noteFrame u X.env) (fun _ t2 => wpAny (model X.prog X.w) X.A (setFlight u none) (fun _ t3 => wpAny (model X.prog X.w) X.A (handleBy u X.env [.ExceptHandler (some (.Name x np)) (some n) [.Assign [.Name m pz] (.Name n py) pa] pos']) (SP X pins D) X.xe t3) X.xe t2) X.xe t1) (fun u t1 xx => by
      obtain ⟨a, B, sI, _, sl, H, cls, _, rfl, I1, nb, up, sky, na, os, ag, rfl, hyes, want⟩ := xx
      have I : Inv X pins sl H sI := I1.ofTry ok
      refine Sky.land Zc.steady frames hf (by rw [← hs]; exact sky) fun h3 fl up3 => ?_
      have cg : Caught X pins B sI a := Caught.of hs hf hex I nb fl
      have I3 : Inv X pins sl H { t1 with heap := h3 } := I.landed nb fl.1 (up.trans up3) os ag
      obtain ⟨oe, vs, e1, z1, e2⟩ := fl.there
      have S3 := I3.suite e1 e2 na cg.loc cg.frs
      apply wpAny_handleBy_cons (codeAny_handlers_test _) (by intro q; cases q)
      refine ld_glob (X := X.suite a ((a, oe) :: (X.pn ++ pins))) S3 hg hm ?_ hgd
      have ty : PySem.W.Looks (model X.prog X.w) h3 (typeOf (.ref a)) cls := fun _ _ _ _ k q => wpAny_typeOf_ref (k a oe e1) (z1.1.symm ▸ q)
      apply (PySem.W.exm_one (M := model X.prog X.w) I3.kIn ty hyes).here
      apply codeAny_handlers_suite_as
      refine HandSPX.lands_againZ fl fun h4 fl4 up4 => ?_
      obtain ⟨oe4, vs4, f1, z4, f2⟩ := fl4.there
      have I4 : Inv X pins sl H { t1 with heap := h4 } := I.landed nb fl4.1 ((up.trans up3).trans up4) os ag
      have S4 := I4.suite f1 f2 na cg.loc cg.frs
      refine store_ok (X := X.suite a ((a, oe4) :: (X.pn ++ pins))) S4 hN hi (.inl hln) (v := .ref a) rfl (fun t5 S5 => ?_) (.inr hln)
      have suite : PSs (X.suite a ((a, oe4) :: (X.pn ++ pins))) [.Assign [.Name m pz] (.Name n py) pa] (tAsg (tVar i) (gName j)) := pss_one (ps_set hN hj (.inl hlm) (pe_var hi (.inl hln) hd1 hd2) rfl (.inr hlm))
      have lt : i < sl.length := I.len ▸ (List.getElem?_eq_some_iff.mp hi).1
      have last := suite.run [] t5 _ H { nx := fun s6 H6 => s6 = (sl.set i (some (.ref a))).set j (some (.ref a)) ∧ H6 = H, rt := fun _ _ => False } S5 ⟨.ref a, List.getElem?_set_self lt, rfl, rfl⟩
      refine wpAny_mono last (fun f t6 q => ?_) fun _ _ z => z.elim
      cases f with
      | next =>
        obtain ⟨_, _, S6, rfl, rfl⟩ := q
        exact held_end ok cg hN hi hln hij z4 f2 S6 (want a na)
      | brk => exact (q.elim fun _ h => h.elim fun _ h => h.2).elim
      | cont => exact (q.elim fun _ h => h.elim fun _ h => h.2).elim
      | ret u => exact (q.elim fun _ h => h.elim fun _ h => h.elim fun _ h => h.2.2).elim)
  refine wpAny_mono (run.run [] t0 sl0 H0 D (I0.toTry _) want) (fun f t1 q => ?_) fun _ _ z => z
  cases f with
  | next => exact q.elim fun s1 h => h.elim fun H1 h => wpAny_execs_nil ⟨s1, H1, h.1.ofTry ok, h.2⟩
  | brk => exact q.elim fun s1 h => h.elim fun H1 h => ⟨s1, H1, h.1.ofTry ok, h.2⟩
  | cont => exact q.elim fun s1 h => h.elim fun H1 h => ⟨s1, H1, h.1.ofTry ok, h.2⟩
  | ret u => exact q.elim fun v h => h.elim fun s1 h => h.elim fun H1 h => ⟨v, s1, H1, h.1.ofTry ok, h.2⟩
end L2.Z
set_option Elab.async false
set_option linter.all false
set_option maxRecDepth 100000
set_option maxHeartbeats 1000000
/-! ### soundness: statements, by their form -/
namespace L2.Z
open PySem PySem.Spec PyProof.Rows

/-- a comprehension that is stored at once: the name is a local one -/
def swYes (sc : Scope) (x : Str) (px : Pos) : E → Bool
  | .lc _ _ _ _ _ scope _ p => decide (sc.names.lookup x = some .local) && (px.line == p.line) && !(scope.names.any fun (n, k) => n == x && (k == .local || k == .cell))
  | _ => false
/-- a comprehension that is stored as any value is (the name is a cell, on another line, ..), or none -/
def swN (sc : Scope) (x : Str) (px : Pos) : E → Bool
  | .lc _ _ _ _ _ scope _ p => !(decide (sc.names.lookup x = some .local) && (px.line == p.line) && !(scope.names.any fun (n, k) => n == x && (k == .local || k == .cell)))
  | e => !isLc e
theorem swN_ok {env : PySem.Env} {x : Str} {px : Pos} {l : Nat} {e : E} (h : swN env.scope x px e = true) : swapsWith e.ex (some (.Name x px)) l env = pure false := by
  cases e with
  | lc elt tg sk src ifs scope own p =>
    have h : (!(decide (env.scope.names.lookup x = some .local) && (px.line == p.line) && !(scope.names.any fun (n, k) => n == x && (k == .local || k == .cell)))) = true := h
    simp only [E.ex]
    have e1 : swapsWith (.ListComp elt.ex [⟨tg.ex, sk.ex (E.exs src), E.exs ifs, 0⟩] scope p) (some (.Name x px)) l env = pure (env.blockKind == .function && env.kindOf x == some .local && px.line == p.line && !(scope.names.any fun (n, k) => n == x && (k == .local || k == .cell))) := rfl
    rw [e1]
    congr 1
    have e2 : (env.kindOf x == some .local) = decide (env.scope.names.lookup x = some .local) := by
      show (env.scope.names.lookup x == some NameKind.local) = _
      by_cases q : env.scope.names.lookup x = some .local
      · rw [q]; rfl
      · rw [decide_eq_false q]
        simpa using q
    rw [e2]
    revert h
    generalize decide (env.scope.names.lookup x = some .local) = a
    generalize (px.line == p.line) = b
    generalize (!(scope.names.any fun (n, k) => n == x && (k == .local || k == .cell))) = c
    generalize (env.blockKind == .function) = d
    cases a <;> cases b <;> cases c <;> cases d <;> simp
  | _ => exact swaps_no env _ _ _ (by simpa [swN] using h)
def locC (N : List Str) (sc : Scope) (i : Nat) (x : Str) : Bool := decide (N[i]? = some x) && (decide (sc.names.lookup x = some .local) || decide (sc.names.lookup x = some .cell))
section
variable (W : Gam) (T : Nat → Option Fn) (N : List Str) (sc : Scope)
mutual
def S.wf : S → Bool
  | .asg tg e _ => tg.wf N sc (fun _ => true) && E.wf W T N sc e && (match tg with
    | .nm _ x px => swN sc x px e || swYes sc x px e
    | .tp ts _ _ => !isLc e && (match e with
      | .tup es _ _ => swNo sc ts (E.exs es)
      | .live _ => false
      | _ => true))
  | .own i x px e _ => locC N sc i x && E.wf W T N sc e && (swN sc x px e || swYes sc x px e)
  | .par i j x y px py _ a b _ _ _ _ => decide (i ≠ j) && decide (N[i]? = some x) && decide (N[j]? = some y) && decide (sc.names.lookup x = some .local) && decide (sc.names.lookup y = some .local) && decide (py.line = px.line) && decide (x ≠ y) &&
    !(foldedForSure 8 a.ex && foldedForSure 8 b.ex) && !(constantsAlone 8 a.ex && constantsAlone 8 b.ex) && E.wf W T N sc a && E.wf W T N sc b
  | .app i x _ pa e p _ => E.wf W T N sc (.var i x pa) && decide (pa.endLine = p.line) && E.wf W T N sc e
  | .exn i x _ pa e p _ => E.wf W T N sc (.var i x pa) && decide (pa.endLine = p.line) && E.wf W T N sc e
  | .sti a i e _ _ => E.wf W T N sc a && E.wf W T N sc i && E.wf W T N sc e && !isLc e
  | .sto j x px i e _ _ => E.wf W T N sc (.var j x px) && E.wf W T N sc i && E.wf W T N sc e && !isLc e
  | .aug i x _ o e _ => locC N sc i x && E.wf W T N sc e && (match o with
    | .Add => true
    | .Sub => true
    | _ => false)
  | .exp e _ => E.wf W T N sc e && !isLc e
  | .ret e _ => E.wf W T N sc e
  | .ifs t a b _ => E.wf W T N sc t && E.wft t && S.wfs a && S.wfs b
  | .fors tg sk src b _ => tg.wf N sc (fun _ => true) && sk.wf sc tg src.length && E.wfs W T N sc src && S.wfs b
  | .whl t b _ => E.wf W T N sc t && E.wft t && S.wfs b
  | .rse c x _ _ _ _ _ _ => globC sc x && decide (W.ct c = some x)
  | .tri tg e _ c x _ i y j z _ _ _ _ _ => tg.wf N sc (fun _ => true) && E.wf W T N sc e && !isLc e && !tg.isTp && globC sc x && decide (W.ct c = some x) && decide (N[i]? = some y) && decide (sc.names.lookup y = some .local) && decide (N[j]? = some z) && decide (sc.names.lookup z = some .local) && decide (i ≠ j) &&
    decide (y ≠ "__debug__") && decide (y ≠ "__classdict__")
  | .frz _ s => S.wf s
def S.wfs : List S → Bool
  | [] => true
  | s :: ss => S.wf s && S.wfs ss
end
end

section
variable {W : Gam} {T : Nat → Option Fn} {C : Cfg}
theorem sound_lcS {X : Cx} {h0 : List Addr} {wx : WXD} {elt : E} {tg : Tg} {sk : SK} {src ifs : List E} {scope : Scope} {own : List (Str × Nat)} {p : Pos} (cx : Ctx W T C X wx) (h : E.wf W T X.N X.env.scope (.lc elt tg sk src ifs scope own p) = true) :
    ∀ (i : Nat) (y : Str) (py sp : Pos), X.N[i]? = some y → X.env.scope.names.lookup y = some .local → X.env.scope.kind = .function → (py.line == p.line) = true → (scope.names.any fun (n, k) => n == y && (k == .local || k == .cell)) = false →
      PS X (.Assign [.Name y py] (E.ex (.lc elt tg sk src ifs scope own p)) sp) (tAsg (rdN W h0 wx (ev C (.lc elt tg sk src ifs scope own p))) (gName i)) := by
  obtain ⟨h, w8⟩ := and2 h
  obtain ⟨h, w7⟩ := and2 h
  obtain ⟨h, w6⟩ := and2 h
  obtain ⟨h, w5⟩ := and2 h
  obtain ⟨h, w4⟩ := and2 h
  obtain ⟨h, w3⟩ := and2 h
  obtain ⟨w1, w2⟩ := and2 h
  have hi := pi_src (Rl := Ext) (C := C) (W := W) (h0 := h0) (wx := wx) (k := fun ss M => retL (srcD sk ss) M) (tg := tg) cx.K cx.blt (fun _ _ x => x.toEx0) Ext.refl (fun ss M => .inr ⟨rfl, fun g vs r => r.prs⟩) w4 (sound_x src (h0 := h0) cx w5) (fun e he => (sound_1 src (h0 := h0) cx w5 e he))
  refine fun i y py sp h1 h2 h3 h4 h5 => (lc_ok (p := p) (C := C) cx.K cx.calm cx.nd hi (blkOk_by w1) ?_ w2 (fun i hi => ?_) (fun s H C' cl fp => ?_) (fun s H C' cl fp => (sound_e elt (h0 := h0) (cx.blk s H scope cl C' fp) w8).1)).2 i y py sp h1 h2 h3 h4 h5
  · cases sk with
    | one =>
      have hl : src.length = 1 := by simpa [SK.wf] using w4
      match src, hl with
      | [e], _ => exact folded_ex X.env e
    | _ => intro x; rfl
  · have := List.all_eq_true.mp w3 i hi
    exact List.contains_iff_mem.mp this
  · exact sound_ts ifs (cx.blk s H scope cl C' fp) w6 w7
theorem blockKind_of {env : PySem.Env} (h : env.scope.kind = .function) : env.blockKind = .function := by
  unfold Env.blockKind; rw [h]; rfl
theorem nofn {X : Cx} {wx : WXD} (sx : SCtx W T C X wx) : ∀ {tg : Tg}, tg.wf X.N X.env.scope (fun _ => true) = true → tg.wf X.N X.env.scope X.fn = true := fun h => by rw [sx.fnT]; exact h
/-- new addresses are no own list's, and none of those that the callers hide -/
theorem fresh_own {g0 g : G} {r : Env} {s : St} {p : Addr} (ok : g.Ok W) (x0 : Ext g0 g) (er : EnvR W g0.hid g r s) (hp : g.H p = none) : p ∉ g0.hid ∧ ∀ (j : Nat) (ys : List D), r[j]? = some (some (.own ys)) → s[j]? ≠ some (some (.ref p)) := by
  have nh : p ∉ g.hid := fun h => by
    obtain ⟨o, e⟩ := (ok.hh p h).1
    rw [hp] at e; cases e
  refine ⟨fun h => nh (x0.hs p h).1, fun j ys e1 e2 => ?_⟩
  obtain ⟨v, e3, rx⟩ := er.get j _ e1
  rw [e2] at e3; cases e3
  rcases rx with rx | ⟨zs, a, vs, d1, d2, d3, _⟩
  · cases rx
  · cases d2; exact nh d3
theorem hw_ext0 {g0 g : G} {a : Addr} {o : HO} (ok : g.Ok W) (x0 : Ext g0 g) (h : a ∈ g.hid) (hn : a ∉ g0.hid) : Ext g0 (g.hw a o) :=
  ⟨x0.toEx0.trans (ok.hw_ext h), fun b hb => ⟨(x0.hs b hb).1, by
    show upd g.H a o b = g0.H b
    rw [upd_ne (show b ≠ a from fun q => hn (by rw [← q]; exact hb))]
    exact (x0.hs b hb).2⟩⟩
theorem lc_is_lst {elt : E} {tg : Tg} {sk : SK} {src ifs : List E} {scope : Scope} {own : List (Str × Nat)} {p : Pos} {r : Env} {M M' : Mem} {d : D} (q : ev C (.lc elt tg sk src ifs scope own p) r M = .ok d M') : ∃ xs, d = .lst xs := by
  simp only [ev] at q
  cases h1 : (evx C src r M).bind fun ss M1 => retL (srcD sk ss) M1 with
  | bad => rw [h1] at q; cases q
  | exc c M1 => rw [h1] at q; cases q
  | ok ds M1 =>
    rw [h1] at q
    simp only [R.bind] at q
    split at q
    · rename_i ys M5 _
      by_cases hl : ys.length ≤ sizeLine
      · rw [if_pos hl] at q; cases q; exact ⟨_, rfl⟩
      · rw [if_neg hl] at q; cases q
    · cases q
    · cases q
theorem notT {b : Bool} (h : (!b) = true) : b = false := by cases b <;> first | rfl | cases h
theorem assign_sub (env : PySem.Env) (o : Expr) (i : E) (pos : Pos) : ∀ v, assign (.Subscript o i.ex pos) env v = (do
      let ov ← holding [v] (eval o env)
      let iv ← holding [v, ov] (eval i.ex env)
      standAt pos
      holding [v, ov, iv] (setItem ov iv v)
      release [v, ov, iv] []) := by
  induction i using E.rec (motive_2 := fun _ => True) (motive_3 := fun _ => True) <;> first | trivial | (intro v; simp only [E.ex]; rfl) | assumption
theorem exs_star : ∀ {es : List E} {e : Expr}, e ∈ E.exs es → notStar e = true
  | a :: es, e, h => by
    rcases List.mem_cons.mp (show e ∈ a.ex :: E.exs es from h) with q | q
    · rw [q]; exact notStar_ex a
    · exact exs_star q
theorem swYes_ok {X : Cx} {wx : WXD} {g0 : G} (sx : SCtx W T C X wx) {i : Nat} {x : Str} {px sp : Pos} {e : E} (h : swYes X.env.scope x px e = true) (hw : E.wf W T X.N X.env.scope e = true) (hi : X.N[i]? = some x) :
    isNew e = true ∧ PS X (.Assign [.Name x px] e.ex sp) (tAsg (rdN W g0.hid wx (ev C e)) (gName i)) := by
  cases e with
  | lc elt tg sk src ifs scope own p =>
    obtain ⟨h, h3⟩ := and2 h
    obtain ⟨h1, h2⟩ := and2 h
    exact ⟨rfl, sound_lcS sx.toCtx hw i x px sp hi (of_decide_eq_true h1) sx.kind h2 (by simpa using h3)⟩
  | _ => cases h
mutual
theorem sound_st : ∀ (st : S) {X : Cx} {g0 : G} {wx : WXD}, SCtx W T C X wx → S.wf W T X.N X.env.scope st = true → PS X st.ex (rdS W g0 wx (ex C st))
  | .asg tg e p, X, g0, wx, sx, h => by
    obtain ⟨h, w3⟩ := and2 h
    obtain ⟨w1, w2⟩ := and2 h
    have cx := sx.toCtx
    have fin : ∀ (D : Ends) (s : St) (g : G) (r : Env) (d : L2.Z.D) (v : V), g.Ok W → Ext g0 g → EnvR W g0.hid g r s → RepX W g d v → PostS W g0 g ((kept d g.M).bind fun x M2 => retE (tg.put x r) M2) D wx → tg.rd X.K v s g.H D.nx := fun D s g r d v ok x0 er rv p => by
      rw [kept_bind] at p
      by_cases hn : nown d = true
      · rw [if_pos hn] at p
        cases hp : tg.put d r with
        | none => rw [hp] at p; exact p.elim
        | some r' =>
          rw [hp] at p
          exact Tg.put_ok X.K cx.K tg er (rv.rep hn) hn hp fun s' er' _ => p g s' ok x0 (Ex0.refl g) rfl er'
      · rw [if_neg hn] at p; exact p.elim
    by_cases hlc : (∃ i x px, tg = .nm i x px ∧ swN X.env.scope x px e = false)
    · obtain ⟨i, x, px, rfl, hlc⟩ := hlc
      · have w3 : (swN X.env.scope x px e || swYes X.env.scope x px e) = true := w3
        rw [hlc, Bool.false_or] at w3
        have hi : X.N[i]? = some x := of_decide_eq_true (and2 w1).1
        obtain ⟨_, hps⟩ := swYes_ok (g0 := g0) (sp := p) sx w3 w2 hi
        refine PS.imp hps fun D s H q => ?_
        refine rdS1N q (fun r M d M' hq => ?_) fun g r xs pp vs ok x0 er hp rv p => ?_
        · by_cases hn : ∃ xs, d = .lst xs
          · exact .inr hn
          · exfalso
            cases e <;> first | (cases w3; done) | skip
            obtain ⟨xs, e1⟩ := lc_is_lst hq
            exact hn ⟨xs, e1⟩
        · rw [kept_bind, if_pos (show nown (.lst xs) = true from rfl)] at p
          exact p (g.put pp (.lst vs)) _ (ok.put_ok hp) (x0.trans (ok.put_ext hp)) (ok.put_ext hp).toEx0 rfl ((er.mono (ok.put_ext hp)).set (ok.put_lst hp rv) rfl)
    · have hlc : swapsWithSole [tg.ex] e.ex p.line X.env = pure false := by
        cases tg with
        | nm i x px =>
          refine swN_ok (e := e) (l := p.line) ?_
          cases q : swN X.env.scope x px e with
          | true => rfl
          | false => exact absurd ⟨i, x, px, rfl, q⟩ hlc
        | tp ts k pt => exact swaps_no X.env e (some (Tg.ex (.tp ts k pt))) p.line (notT (and2 w3).1)
      have hst : swappedStores [tg.ex] e.ex X.env = pure none := by
        cases tg with
        | nm i x px => exact stores_no X.env _ e (.inr rfl)
        | tp ts k pt =>
          obtain ⟨_, w4⟩ := and2 w3
          cases e with
          | tup es k2 p2 => exact stores_none (blockKind_of sx.kind) w4 fun e he => exs_star he
          | live e => cases w4
          | _ => exact stores_no X.env _ _ (.inl rfl)
      refine PS.imp (ps_asg (sound_e e (h0 := g0.hid) cx w2).1 (pg_tg cx.nd cx.calm tg (nofn sx w1)) hlc hst (assignEach_nm X.env tg)) fun D s H q => ?_
      exact rdS1 (T' := RepX) q fun g r d v ok x0 er rv p => fin D s g r d v ok x0 er rv p
  | .own i x px e p, X, g0, wx, sx, h => by
    obtain ⟨h, w3⟩ := and2 h
    obtain ⟨w1, w2⟩ := and2 h
    obtain ⟨w1, w4⟩ := and2 w1
    have cx := sx.toCtx
    have hi : X.N[i]? = some x := of_decide_eq_true w1
    have hx : Loc X.env.scope x := by
      rcases Bool.or_eq_true_iff.mp w4 with z | z
      · exact .inl (of_decide_eq_true z)
      · exact .inr (of_decide_eq_true z)
    by_cases hnew : isNew e = true
    · have hps : PS X (.Assign [.Name x px] e.ex p) (tAsg (rdN W g0.hid wx (ev C e)) (gName i)) := by
        cases hlc : swN X.env.scope x px e with
        | false =>
          rw [hlc, Bool.false_or] at w3
          exact (swYes_ok (g0 := g0) (sp := p) sx w3 w2 hi).2
        | true => exact ps_set cx.nd hi hx ((sound_e e (h0 := g0.hid) cx w2).2.2 hnew) (swN_ok (l := p.line) hlc) (.inl (by rw [sx.fnT]))
      refine PS.imp hps fun D s H q => ?_
      simp only [ex, hnew, if_true] at q
      refine rdS1N (k := fun x r M1 => (match x with
        | .lst xs => .ok (.nx (r.set i (some (.own xs)))) M1
        | _ => .bad)) q (fun r M d M' _ => ?_) fun g r xs pp vs ok x0 er hp rv p => ?_
      · cases d <;> first | exact .inl fun _ _ => rfl | exact .inr ⟨_, rfl⟩
      · obtain ⟨f1, f2⟩ := fresh_own ok x0 er hp
        have xn := ok.new_ext (o := HO.lst vs) hp
        exact p (g.new pp (.lst vs)) _ (ok.new_ok hp) (x0.trans xn) xn.toEx0 rfl ((er.mono xn).setOwn List.mem_cons_self upd_same (rv.mono xn.toEx0) f1 f2)
    · refine ⟨fun pins s σ H D I q => ?_⟩
      obtain ⟨g, r, e0, ok, x0, er, p⟩ := q
      simp only [ex, hnew] at p
      exact p.elim
  | .par i j x y px py pt a b pv p k k', X, g0, wx, sx, h => by
    obtain ⟨h, w11⟩ := and2 h
    obtain ⟨h, w10⟩ := and2 h
    obtain ⟨h, w9⟩ := and2 h
    obtain ⟨h, w8⟩ := and2 h
    obtain ⟨h, w7⟩ := and2 h
    obtain ⟨h, w6⟩ := and2 h
    obtain ⟨h, w5⟩ := and2 h
    obtain ⟨h, w4⟩ := and2 h
    obtain ⟨h, w3⟩ := and2 h
    obtain ⟨w1, w2⟩ := and2 h
    have cx := sx.toCtx
    have w1 : i ≠ j := of_decide_eq_true w1
    have w2 : X.N[i]? = some x := of_decide_eq_true w2
    have w3 : X.N[j]? = some y := of_decide_eq_true w3
    have w4 : X.env.scope.names.lookup x = some .local := of_decide_eq_true w4
    have w5 : X.env.scope.names.lookup y = some .local := of_decide_eq_true w5
    have w6 : py.line = px.line := of_decide_eq_true w6
    have w7 : x ≠ y := of_decide_eq_true w7
    have ha : PA X [a.ex, b.ex] (rdT RepL W g0.hid wx (evs C [a, b])) := sound_s [a, b] (h0 := g0.hid) cx (by show (E.wf W T X.N X.env.scope a && (E.wf W T X.N X.env.scope b && true)) = true; rw [w10, w11]; rfl)
    refine PS.imp (ps_par (px := px) (py := py) (pt := pt) (kt := k) (k2 := k') (pt2 := pv) (pos := p) cx.calm cx.nd w2 w3 w1 w4 w5 ha (stores_par (blockKind_of sx.kind) w4 w5 w6 w7 (notStar_ex a) (notStar_ex b) (notT w8) (notT w9)) rfl) fun D s H q => ?_
    refine rdS1 (T' := RepL) q fun g r ds vs ok x0 er rv p => ?_
    match ds, rv with
    | [d, e], .cons r1 (.cons r2 .nil) => exact ⟨_, _, rfl, p g _ ok x0 (Ex0.refl g) rfl ((er.set r1 r1.nown).set r2 r2.nown)⟩
    | [], rv => exact p.elim
    | [_], rv => exact p.elim
    | _ :: _ :: _ :: _, rv => exact p.elim
  | .app i x px pa e p ps, X, g0, wx, sx, h => by
    obtain ⟨h, w3⟩ := and2 h
    obtain ⟨w1, w2⟩ := and2 h
    have cx := sx.toCtx
    obtain ⟨w1, v4⟩ := and2 w1
    obtain ⟨w1, v3⟩ := and2 w1
    obtain ⟨v1, v2⟩ := and2 w1
    have v3 : x ≠ "__debug__" := of_decide_eq_true v3
    have v4 : x ≠ "__classdict__" := of_decide_eq_true v4
    have hline : (pa.endLine == p.line) = true := by
      have := of_decide_eq_true w2
      simpa using this
    have hfew : ((backTo p (starEach [e.ex] X.env)).all (fun x => !x.1) && (backToKw p (keywordEach [] X.env)).all (fun x => x.1.isSome) && decide (([e.ex] : List Expr).length + ([] : List Keyword).length + (if ([] : List Keyword).isEmpty then 0 else 1) < 30)) = true := by
      rw [show [e.ex] = E.exs [e] from rfl, stars_all X.env p [e]]; rfl
    refine PS.imp (ps_expr (pe_bm PySem.F.plainAttrs_list PySem.F.slot_list_append PySem.F.type_list_append mt_append (pe_var (i := i) (of_decide_eq_true v1) (visC_ok v2) (by simpa using v3) (by simpa using v4)) (pa_cons (sound_e e (h0 := g0.hid) cx w3).1 pa_nil (star_ex X.env e [])) rfl hfew hline (star_ex X.env e []) rfl) rfl) fun D s H q => ?_
    obtain ⟨g, r, e0, ok, x0, er, p⟩ := q
    subst e0
    simp only [ex] at p
    split at p
    · rename_i xs hi
      obtain ⟨v, hs, rx⟩ := er.get i _ hi
      rcases rx with rx | ⟨zs, a, vs, d1, d2, d3, d4, d5⟩
      · cases rx
      · cases d1
        subst d2
        refine ⟨_, hs, .inl ⟨rfl, vs, SqL.of d4⟩, ?_⟩
        have q : rdS W g0 wx (fun r M => (ev C e r M).bind fun x M1 => (kept x M1).bind fun x M2 => if xs.length < sizeLine then .ok (.nx (r.set i (some (.own (xs ++ [x]))))) M2 else .bad) D s g.H := ⟨g, r, rfl, ok, x0, er, p⟩
        have na := er.own i xs a hi hs
        have q2 : rdT RepX W g0.hid wx (ev C e) s g.H (fun y H2 => rAppend (.ref a) [y] H2 (fun _ H1 => D.nx s H1)) := by
          refine ⟨g, r, rfl, ok, er, ?_⟩
          cases hq : ev C e r g.M with
          | bad => rw [hq] at p; exact p
          | exc c M => rw [hq] at p; exact fun g' x e1 e2 ok' => p g' s ok' (x0.trans x) x.toEx0 e2
          | ok d M =>
            rw [hq] at p
            simp only [R.bind] at p
            change PostS W g0 g ((kept d M).bind _) D wx at p
            rw [kept_bind] at p
            intro g' x e1 e2 ok' v rv
            subst e2
            by_cases hn : nown d = true
            · rw [if_pos hn] at p
              by_cases hl : xs.length < sizeLine
              · rw [if_pos hl] at p
                have h1 : g'.H a = some (.lst vs) := (x.hs a d3).2.trans d4
                have h2 : a ∈ g'.hid := (x.hs a d3).1
                have r5 := d5.mono x.toEx0
                refine ⟨a, vs, v, rfl, rfl, h1, by rw [← d5.length]; exact hl, ?_⟩
                exact p (g'.hw a (.lst (vs ++ [v]))) s (ok'.hw_ok h2) (hw_ext0 ok' (x0.trans x) h2 na) (x.toEx0.trans (ok'.hw_ext h2)) rfl ((er.mono x).hw ok' hi hs h2 (r5.snoc (rv.rep hn)))
              · rw [if_neg hl] at p; exact p.elim
            · rw [if_neg hn] at p; exact p.elim
        exact q2
    · exact p.elim
  | .exn i x px pa e p ps, X, g0, wx, sx, h => by
    obtain ⟨h, w3⟩ := and2 h
    obtain ⟨w1, w2⟩ := and2 h
    have cx := sx.toCtx
    obtain ⟨w1, v4⟩ := and2 w1
    obtain ⟨w1, v3⟩ := and2 w1
    obtain ⟨v1, v2⟩ := and2 w1
    have v3 : x ≠ "__debug__" := of_decide_eq_true v3
    have v4 : x ≠ "__classdict__" := of_decide_eq_true v4
    have hline : (pa.endLine == p.line) = true := by
      have := of_decide_eq_true w2
      simpa using this
    have hfew : ((backTo p (starEach [e.ex] X.env)).all (fun x => !x.1) && (backToKw p (keywordEach [] X.env)).all (fun x => x.1.isSome) && decide (([e.ex] : List Expr).length + ([] : List Keyword).length + (if ([] : List Keyword).isEmpty then 0 else 1) < 30)) = true := by
      rw [show [e.ex] = E.exs [e] from rfl, stars_all X.env p [e]]; rfl
    refine PS.imp (ps_expr (pe_bm PySem.F.plainAttrs_list PySem.F.slot_list_extend PySem.F.type_list_extend mt_extend (pe_var (i := i) (of_decide_eq_true v1) (visC_ok v2) (by simpa using v3) (by simpa using v4)) (pa_cons (sound_e e (h0 := g0.hid) cx w3).1 pa_nil (star_ex X.env e [])) rfl hfew hline (star_ex X.env e []) rfl) rfl) fun D s H q => ?_
    obtain ⟨g, r, e0, ok, x0, er, p⟩ := q
    subst e0
    simp only [ex] at p
    split at p
    · rename_i xs hi
      obtain ⟨v, hs, rx⟩ := er.get i _ hi
      rcases rx with rx | ⟨zs, a, vs, d1, d2, d3, d4, d5⟩
      · cases rx
      · cases d1
        subst d2
        refine ⟨_, hs, .inl ⟨rfl, vs, SqL.of d4⟩, ?_⟩
        have na := er.own i xs a hi hs
        have q2 : rdT RepX W g0.hid wx (ev C e) s g.H (fun y H2 => rExtend (.ref a) [y] H2 (fun _ H1 => D.nx s H1)) := by
          refine ⟨g, r, rfl, ok, er, ?_⟩
          cases hq : ev C e r g.M with
          | bad => rw [hq] at p; exact p
          | exc c M => rw [hq] at p; exact fun g' x e1 e2 ok' => p g' s ok' (x0.trans x) x.toEx0 e2
          | ok d M =>
            rw [hq] at p
            simp only [R.bind] at p
            intro g' x e1 e2 ok' v rv
            subst e2
            split at p
            · rename_i ys
              split at p
              · rename_i hl
                have rv := rv.rep rfl
                cases rv with
                | @lst b _ us h3 n3 r3 =>
                  have h1 : g'.H a = some (.lst vs) := (x.hs a d3).2.trans d4
                  have h2 : a ∈ g'.hid := (x.hs a d3).1
                  have r5 := d5.mono x.toEx0
                  refine ⟨a, b, vs, us, rfl, rfl, h1, h3, by rw [← d5.length, ← r3.length]; exact hl, ?_⟩
                  exact p (g'.hw a (.lst (vs ++ us))) s (ok'.hw_ok h2) (hw_ext0 ok' (x0.trans x) h2 na) (x.toEx0.trans (ok'.hw_ext h2)) rfl ((er.mono x).hw ok' hi hs h2 (r5.app r3))
              · exact p.elim
            · exact p.elim
        exact q2
    · exact p.elim
  | .sti a i e pt p, X, g0, wx, sx, h => by
    obtain ⟨h, w4⟩ := and2 h
    obtain ⟨h, w3⟩ := and2 h
    obtain ⟨w1, w2⟩ := and2 h
    have cx := sx.toCtx
    have hsw : swapsWithSole [.Subscript a.ex i.ex pt] e.ex p.line X.env = pure false := swaps_no X.env e (some (.Subscript a.ex i.ex pt)) p.line (notT w4)
    refine PS.imp (ps_asg (sound_e e (h0 := g0.hid) cx w3).1 (pg_sub (sound_e a (h0 := g0.hid) cx w1).1 (sound_e i (h0 := g0.hid) cx w2).1 set_list (assign_sub X.env a.ex i pt)) hsw rfl rfl) fun D s H q => ?_
    refine rdS1 (T' := RepX) q fun g r d v ok x0 er rv p => ?_
    rw [kept_bind] at p
    by_cases hn : nown d = true
    · rw [if_pos hn] at p
      have rv := rv.rep hn
      refine ⟨g, r, rfl, ok, er, ?_⟩
      cases ha : ev C a r g.M with
      | bad => rw [ha] at p; exact p
      | exc c M => rw [ha] at p; exact fun g' x e1 e2 ok' => p g' s ok' (x0.trans x) x.toEx0 e2
      | ok o M =>
        rw [ha] at p
        simp only [R.bind] at p
        intro g2 x2 e1 e2 ok2 vo ro
        subst e2
        refine ⟨g2, r, rfl, ok2, er.mono x2, ?_⟩
        cases hb : ev C i r g2.M with
        | bad => rw [hb] at p; exact p
        | exc c M => rw [hb] at p; exact fun g' x e1 e2 ok' => p g' s ok' ((x0.trans x2).trans x) (x2.trans x).toEx0 e2
        | ok k M =>
          rw [hb] at p
          simp only [R.bind] at p
          intro g3 x3 e3 e4 ok3 vk rk
          subst e4
          split at p
          · rename_i q kk
            split at p
            · rename_i xs hq
              split at p
              · rename_i j hj
                cases rk.int
                have ro3 := (ro.mono x3).rep rfl
                cases ro3 with
                | @ref _ ad had =>
                  obtain ⟨vs, h1, h2⟩ := ok3.cell q ad _ had hq
                  have rv3 := (rv.mono x2.toEx0).mono x3.toEx0
                  have xw := ok3.wr_ext (c := .lst (xs.set j d)) (o := .lst (vs.set j v)) had hq (by intro z; cases z)
                  refine ⟨ad, vs, kk, j, rfl, rfl, h1, by rw [← h2.length]; exact hj, ?_⟩
                  exact p (g3.wr q ad (.lst (xs.set j d)) (.lst (vs.set j v))) s (ok3.wr_ok had hq (by intro z; cases z) ⟨_, upd_same, (h2.set rv3 j).mono xw.toEx0⟩) (((x0.trans x2).trans x3).trans xw) ((x2.trans x3).trans xw).toEx0 rfl (((er.mono x2).mono x3).mono xw)
              · exact p.elim
            · exact p.elim
          · exact p.elim
    · rw [if_neg hn] at p; exact p.elim
  | .sto j x px i e pt p, X, g0, wx, sx, h => by
    obtain ⟨h, w4⟩ := and2 h
    obtain ⟨h, w3⟩ := and2 h
    obtain ⟨w1, w2⟩ := and2 h
    have cx := sx.toCtx
    obtain ⟨w1, v4⟩ := and2 w1
    obtain ⟨w1, v3⟩ := and2 w1
    obtain ⟨v1, v2⟩ := and2 w1
    have v3 : x ≠ "__debug__" := of_decide_eq_true v3
    have v4 : x ≠ "__classdict__" := of_decide_eq_true v4
    have hsw : swapsWithSole [.Subscript (.Name x px) i.ex pt] e.ex p.line X.env = pure false := swaps_no X.env e (some (.Subscript (.Name x px) i.ex pt)) p.line (notT w4)
    have hv : PE X (.Name x px) (tVar j) := pe_var (i := j) (of_decide_eq_true v1) (visC_ok v2) (by simpa using v3) (by simpa using v4)
    refine PS.imp (ps_asg (sound_e e (h0 := g0.hid) cx w3).1 (pg_sub hv (sound_e i (h0 := g0.hid) cx w2).1 set_list (assign_sub X.env _ i pt)) hsw rfl rfl) fun D s H q => ?_
    refine rdS1 (T' := RepX) q fun g r d v ok x0 er rv p => ?_
    rw [kept_bind] at p
    by_cases hn : nown d = true
    · rw [if_pos hn] at p
      have rv := rv.rep hn
      split at p
      · rename_i xs hj
        obtain ⟨w, hs, rx⟩ := er.get j _ hj
        rcases rx with rx | ⟨zs, a, vs, d1, d2, d3, d4, d5⟩
        · cases rx
        · cases d1
          subst d2
          refine ⟨_, hs, g, r, rfl, ok, er, ?_⟩
          cases hb : ev C i r g.M with
          | bad => rw [hb] at p; exact p.elim
          | exc c M => rw [hb] at p; exact fun g' x e1 e2 ok' => p g' s ok' (x0.trans x) x.toEx0 e2
          | ok k M =>
            rw [hb] at p
            simp only [R.bind] at p
            intro g3 x3 e3 e4 ok3 vk rk
            subst e4
            split at p
            · rename_i kk
              split at p
              · rename_i n hn2
                cases rk.int
                have na := er.own j xs a hj hs
                have h1 : g3.H a = some (.lst vs) := (x3.hs a d3).2.trans d4
                have h2 : a ∈ g3.hid := (x3.hs a d3).1
                have rv3 := rv.mono x3.toEx0
                have r5 := d5.mono x3.toEx0
                refine ⟨a, vs, kk, n, rfl, rfl, h1, by rw [← d5.length]; exact hn2, ?_⟩
                exact p (g3.hw a (.lst (vs.set n v))) s (ok3.hw_ok h2) (hw_ext0 ok3 (x0.trans x3) h2 na) (x3.toEx0.trans (ok3.hw_ext h2)) rfl ((er.mono x3).hw ok3 hj hs h2 (r5.set rv3 n))
              · exact p.elim
            · exact p.elim
      · exact p.elim
    · rw [if_neg hn] at p; exact p.elim
  | .aug i x px o e p, X, g0, wx, sx, h => by
    obtain ⟨h, w3⟩ := and2 h
    obtain ⟨w1, w2⟩ := and2 h
    obtain ⟨w1, w4⟩ := and2 w1
    have cx := sx.toCtx
    have hi : X.N[i]? = some x := of_decide_eq_true w1
    have hx : Loc X.env.scope x := by
      rcases Bool.or_eq_true_iff.mp w4 with z | z
      · exact .inl (of_decide_eq_true z)
      · exact .inr (of_decide_eq_true z)
    have key : ∀ (f : Int → Int → Int), (∀ k d, augD o k d = (match d with
        | .int m => some (f k m)
        | _ => none)) → ∀ (D : Ends) (s : St) (H : Hp), rdS W g0 wx (ex C (.aug i x px o e p)) D s H → tAug i (rdE W g0.hid wx (ev C e)) (ipI f) D s H := fun f hf D s H q => by
      obtain ⟨g, r, e0, ok, x0, er, p⟩ := q
      subst e0
      simp only [ex] at p
      split at p
      · rename_i k hk
        obtain ⟨v, hs, rx⟩ := er.get i _ hk
        cases rx.int
        refine ⟨_, hs, ?_⟩
        refine ⟨g, r, rfl, ok, er, ?_⟩
        cases hq : ev C e r g.M with
        | bad => rw [hq] at p; exact p
        | exc c M => rw [hq] at p; exact fun g' x e1 e2 ok' => p g' s ok' (x0.trans x) x.toEx0 e2
        | ok d M =>
          rw [hq] at p
          simp only [R.bind, hf] at p
          intro g' x e1 e2 ok' v rv
          subst e2
          cases d <;> first | exact p.elim | skip
          cases rv.int
          exact ⟨_, _, rfl, rfl, p g' _ ok' (x0.trans x) x.toEx0 rfl ((er.mono x).set (.int _) rfl)⟩
      · exact p.elim
    cases o <;> first | (cases w3; done) | skip
    · exact PS.imp (ps_aug cx.nd hi hx (sound_e e (h0 := g0.hid) cx w2).1 ip_add (.inl (by rw [sx.fnT]))) (key (fun a b => a + b) fun k d => by cases d <;> rfl)
    · exact PS.imp (ps_aug cx.nd hi hx (sound_e e (h0 := g0.hid) cx w2).1 ip_sub (.inl (by rw [sx.fnT]))) (key (fun a b => a - b) fun k d => by cases d <;> rfl)
  | .exp e p, X, g0, wx, sx, h => by
    obtain ⟨w1, w2⟩ := and2 h
    have cx := sx.toCtx
    refine PS.imp (ps_expr (sound_e e (h0 := g0.hid) cx w1).1 (swaps_no X.env e _ _ (by simpa using w2))) fun D s H q => ?_
    exact rdS1 (T' := RepX) q fun g r d v ok x0 er rv p => p g s ok x0 (Ex0.refl g) rfl er
  | .ret e p, X, g0, wx, sx, h => by
    have cx := sx.toCtx
    refine PS.imp (ps_ret (sound_e e (h0 := g0.hid) cx h).1) fun D s H q => ?_
    refine rdS1 (T' := RepX) q fun g r d v ok x0 er rv p => ?_
    rw [kept_bind] at p
    by_cases hn : nown d = true
    · rw [if_pos hn] at p
      exact p g ok x0 (Ex0.refl g) rfl v (rv.rep hn)
    · rw [if_neg hn] at p; exact p.elim
  | .ifs t a b p, X, g0, wx, sx, h => by
    obtain ⟨h, w4⟩ := and2 h
    obtain ⟨h, w3⟩ := and2 h
    obtain ⟨w1, w2⟩ := and2 h
    have cx := sx.toCtx
    refine PS.imp (ps_if ((sound_e t (h0 := g0.hid) cx w1).2.1 w2) (sound_ss a (g0 := g0) sx w3) (sound_ss b (g0 := g0) sx w4)) fun D s H q => ?_
    obtain ⟨g, r, e0, ok, x0, er, p⟩ := q
    refine ⟨g, r, e0, ok, er, ?_⟩
    simp only [ex] at p
    unfold tstE
    cases hq : ev C t r g.M with
    | bad => rw [hq] at p; exact p
    | exc c M => rw [hq] at p; exact fun g' x e1 e2 ok' => p g' s ok' (x0.trans x) x.toEx0 e2
    | ok d M =>
      rw [hq] at p
      simp only [R.bind] at p ⊢
      cases d <;> first | exact p.elim | skip
      rename_i bb
      intro g' x e1 e2 ok' c ec
      subst e2 ec
      cases bb with
      | true => exact ⟨g', r, rfl, ok', x0.trans x, er.mono x, PostS.mono p x.toEx0⟩
      | false => exact ⟨g', r, rfl, ok', x0.trans x, er.mono x, PostS.mono p x.toEx0⟩
  | .fors tg sk src b p, X, g0, wx, sx, h => by
    obtain ⟨h, w4⟩ := and2 h
    obtain ⟨h, w3⟩ := and2 h
    obtain ⟨w1, w2⟩ := and2 h
    have cx := sx.toCtx
    have hi := pi_src (Rl := Ex0) (C := C) (W := W) (h0 := g0.hid) (wx := wx) (k := fun ss M1 => if ss.all nown then retL (srcD sk ss) M1 else .bad) (tg := tg) cx.K cx.blt (fun _ _ x => x) Ex0.refl (fun ss M => by
      by_cases hn : ss.all nown = true
      · exact .inr ⟨by rw [if_pos hn], fun g vs r => r.prs0 hn⟩
      · exact .inl (by rw [if_neg hn])) w2 (sound_x src (h0 := g0.hid) cx w3) (fun e he => (sound_1 src (h0 := g0.hid) cx w3 e he))
    have hfold : ∀ x, foldedSetIterable (sk.ex (E.exs src)) X.env x = pure x := by
      cases sk with
      | one =>
        have hl : src.length = 1 := by simpa [SK.wf] using w2
        match src, hl with
        | [e], _ => exact folded_ex X.env e
      | _ => intro x; rfl
    refine PS.imp (ps_for sx.po cx.calm hi (pg_tg cx.nd cx.calm tg (nofn sx w1)) (sound_ss b (g0 := g0) sx w4) hfold) fun D s H q => ?_
    refine rdS1 (T' := fun W g ds J => ItOk Ex0 W g ds J) q fun g1 r1 ds J ok1 x1 er1 it1 p1 => ?_
    refine ⟨fun i m s H => m = ds.length - i ∧ i ≤ ds.length ∧ ∃ g r, g.H = H ∧ g.Ok W ∧ Ext g0 g ∧ Ex0 g1 g ∧ EnvR W g0.hid g r s ∧ PostS W g0 g (forE (fun d r => fun M => (match tg.put d r with
      | some r' => exs C b r' M
      | none => .bad)) (ds.drop i) r g.M) D wx, ⟨ds.length, by simp, Nat.zero_le _, g1, r1, rfl, ok1, x1, Ex0.refl g1, er1, by rw [List.drop_zero]; exact p1⟩, ?_⟩
    rintro i m s2 H2 ⟨rfl, hi2, g, r, e0, ok, x0, xg, er, p2⟩
    subst e0
    by_cases hlt : i < ds.length
    · refine .inr ⟨it1.go i g xg hlt, fun s' H' => ∃ g r, g.H = H' ∧ g.Ok W ∧ Ext g0 g ∧ Ex0 g1 g ∧ EnvR W g0.hid g r s' ∧ PostS W g0 g (forE (fun d r => fun M => (match tg.put d r with
        | some r' => exs C b r' M
        | none => .bad)) (ds.drop (i + 1)) r g.M) D wx, fun s' H' h => ⟨ds.length - (i + 1), by omega, rfl, hlt, h⟩, fun x H' hy => ?_⟩
      obtain ⟨g2, d, x2, eh2, em2, ok2, eH2, hd, rd, nd⟩ := it1.yld i g x H' xg ok hlt hy
      subst eH2
      have hdrop : ds.drop i = d :: ds.drop (i + 1) := by
        rw [List.drop_eq_getElem_cons hlt]
        rw [List.getElem?_eq_getElem hlt] at hd
        rw [Option.some.inj hd]
      rw [hdrop] at p2
      simp only [forE] at p2
      rw [← em2] at p2
      cases hput : tg.put d r with
      | none => rw [hput] at p2; exact p2.elim
      | some r' =>
        rw [hput] at p2
        refine Tg.put_ok X.K cx.K tg (er.mono x2) rd nd hput fun s' er' _ => ?_
        refine ⟨g2, r', rfl, ok2, x0.trans x2, er', ?_⟩
        dsimp only at p2
        cases hb : exs C b r' g2.M with
        | bad => rw [hb] at p2; exact p2
        | exc c M => rw [hb] at p2; exact fun g3 s3 ok3 x3 y3 => p2 g3 s3 ok3 x3 (x2.toEx0.trans y3)
        | ok o M =>
          rw [hb] at p2
          cases o with
          | rt d => exact fun g3 ok3 x3 y3 => p2 g3 ok3 x3 (x2.toEx0.trans y3)
          | nx r3 => exact fun g3 s3 ok3 x3 y3 e3 er3 => ⟨g3, r3, rfl, ok3, x3, xg.trans (x2.toEx0.trans y3), er3, by rw [e3]; exact PostS.mono p2 (x2.toEx0.trans y3)⟩
    · have ei : i = ds.length := by omega
      subst ei
      refine .inl ⟨it1.stop g xg, ?_⟩
      rw [List.drop_length] at p2
      exact p2 g s2 ok x0 (Ex0.refl g) rfl er
  | .whl t b p, X, g0, wx, sx, h => by
    obtain ⟨h, w3⟩ := and2 h
    obtain ⟨w1, w2⟩ := and2 h
    have cx := sx.toCtx
    refine PS.imp (ps_while sx.po ((sound_e t (h0 := g0.hid) cx w1).2.1 w2) (sound_ss b (g0 := g0) sx w3)) fun D s H q => ?_
    refine ⟨fun m s H => rdS W g0 wx (whlE (fun r => ev C t r) (fun r => exs C b r) m) D s H, ⟨C.fuel, q⟩, fun m s H q => ?_⟩
    obtain ⟨g, r, e0, ok, x0, er, p⟩ := q
    refine ⟨g, r, e0, ok, er, ?_⟩
    cases m with
    | zero => exact p.elim
    | succ n =>
      simp only [whlE] at p
      unfold tstE
      cases hq : ev C t r g.M with
      | bad => rw [hq] at p; exact p
      | exc c M => rw [hq] at p; exact fun g' x e1 e2 ok' => p g' s ok' (x0.trans x) x.toEx0 e2
      | ok d M =>
        rw [hq] at p
        simp only [R.bind] at p ⊢
        cases d <;> first | exact p.elim | skip
        rename_i bb
        intro g' x e1 e2 ok' c ec
        subst e2 ec
        cases bb with
        | false =>
          rw [if_neg (by decide)]
          exact p g' s ok' (x0.trans x) x.toEx0 rfl (er.mono x)
        | true =>
          rw [if_pos rfl]
          refine ⟨fun s' H' => rdS W g0 wx (whlE (fun r => ev C t r) (fun r => exs C b r) n) D s' H', fun s' H' h => ⟨n, Nat.lt_succ_self n, h⟩, g', r, rfl, ok', x0.trans x, er.mono x, ?_⟩
          dsimp only at p
          cases hb : exs C b r g'.M with
          | bad => rw [hb] at p; exact p
          | exc c M => rw [hb] at p; exact fun g3 s3 ok3 x3 y3 => p g3 s3 ok3 x3 (x.toEx0.trans y3)
          | ok o M =>
            rw [hb] at p
            cases o with
            | rt d => exact fun g3 ok3 x3 y3 => p g3 ok3 x3 (x.toEx0.trans y3)
            | nx r3 => exact fun g3 s3 ok3 x3 y3 e3 er3 => ⟨g3, r3, rfl, ok3, x3, er3, by rw [e3]; exact PostS.mono p (x.toEx0.trans y3)⟩
  | .rse c x px m k pm pc p, X, g0, wx, sx, h => by
    obtain ⟨w1, w2⟩ := and2 h
    obtain ⟨g1, g2, g3⟩ := globC_ok w1
    have hc : W.ct c = some x := of_decide_eq_true w2
    obtain ⟨r1, r2, r3, r4⟩ := sx.rse c x hc
    refine PS.imp (ps_raise sx.calm sx.tk (pmk_own (j := k) (p := px) (p2 := pm) (pos := pc) (m := m) PySem.F.excBase_ValueError r1 (sx.cls c x hc) r2 (raises_own r3 r4) g1 g2)) fun D s H q => ?_
    obtain ⟨g, r, e0, ok, x0, er, p⟩ := q
    subst e0
    exact ⟨c, rfl, rfl, p g s ok x0 (Ex0.refl g) rfl⟩
  | .tri tg e pb c x px i y j z pz py pa ph p, X, g0, wx, sx, h => by
    obtain ⟨h, w13⟩ := and2 h
    obtain ⟨h, w12⟩ := and2 h
    obtain ⟨h, w11⟩ := and2 h
    obtain ⟨h, w10⟩ := and2 h
    obtain ⟨h, w9⟩ := and2 h
    obtain ⟨h, w8⟩ := and2 h
    obtain ⟨h, w7⟩ := and2 h
    obtain ⟨h, w6⟩ := and2 h
    obtain ⟨h, w5⟩ := and2 h
    obtain ⟨h, w4⟩ := and2 h
    obtain ⟨h, w3⟩ := and2 h
    obtain ⟨w1, w2⟩ := and2 h
    obtain ⟨g1, g2, g3⟩ := globC_ok w5
    have cx := sx.toCtx
    have hc : W.ct c = some x := of_decide_eq_true w6
    have w7 : X.N[i]? = some y := of_decide_eq_true w7
    have w8 : X.env.scope.names.lookup y = some .local := of_decide_eq_true w8
    have w9 : X.N[j]? = some z := of_decide_eq_true w9
    have w10 : X.env.scope.names.lookup z = some .local := of_decide_eq_true w10
    have w11 : i ≠ j := of_decide_eq_true w11
    have w12 : y ≠ "__debug__" := of_decide_eq_true w12
    have w13 : y ≠ "__classdict__" := of_decide_eq_true w13
    refine PS.imp (ps_try_hold (tb := fun Wt => tAsg (rdE W g0.hid (fun c s H => Wt (.ref (W.ca c)) none s H) (ev C e)) (tg.rd X.K)) sx.stk sx.frm sx.exn cx.nd w7 w8 w9 w10 w11 (by simpa using w12) (by simpa using w13) g1 g2 (cx.cls c x hc) (fun Wt pn xe tk => ?_)) fun D s H q => ?_
    · have cx' : Ctx W T C (X.tr pn xe) (fun c s H => Wt (.ref (W.ca c)) none s H) :=
        ⟨cx.K, cx.calm, cx.nd, cx.un, cx.facts, cx.blt, cx.gi, cx.gs, cx.cls, cx.fn, cx.len, Takes.imp tk fun _ _ _ _ ⟨_, e1, e2, w⟩ => by subst e1 e2; exact w⟩
      exact pss_one (ps_asg (X := X.tr pn xe) (sound_e e (h0 := g0.hid) cx' w2).1 (pg_tg (X := X.tr pn xe) cx.nd cx.calm tg (nofn sx w1)) (swaps_no X.env e (some tg.ex) pb.line (notT w3)) (stores_no X.env tg e (.inr (notT w4))) (assignEach_nm X.env tg))
    · obtain ⟨g, r, e0, ok, x0, er, p⟩ := q
      refine ⟨g, r, e0, ok, er, ?_⟩
      simp only [ex] at p
      cases hq : ev C e r g.M with
      | bad => rw [hq] at p; exact p
      | exc c' M =>
        rw [hq] at p
        simp only [R.bind] at p
        intro g' x1 e1 e2 ok'
        by_cases hsub : C.sub c' c = true
        · rw [if_pos hsub] at p
          have hv := sx.subv c' c hsub
          obtain ⟨y', hy'⟩ := Option.isSome_iff_exists.mp hv
          refine ⟨rfl, by rw [sx.exm c c' x y' hc hy', hsub], fun a na => ?_⟩
          have xp := ok'.put_ext (o := ExD (.ref (W.ca c')) a) na
          exact p (g'.put a (ExD (.ref (W.ca c')) a)) _ (ok'.put_ok na) ((x0.trans x1).trans xp) (x1.trans xp).toEx0 e2 ((((er.mono x1).mono xp).set (.exc upd_same (ok'.put_nl na) hv) rfl).none)
        · rw [if_neg hsub] at p; exact p.elim
      | ok d M =>
        rw [hq] at p
        simp only [R.bind] at p
        intro g' x1 e1 e2 ok' v rv
        subst e2
        by_cases hn : nown d = true
        · have e3 : kept d g'.M = .ok d g'.M := by unfold kept; rw [if_pos hn]
          rw [e3] at p
          simp only at p
          cases hp : tg.put d r with
          | none => rw [hp] at p; exact p.elim
          | some r' =>
            rw [hp] at p
            exact Tg.put_ok X.K cx.K tg (er.mono x1) (rv.rep hn) hn hp fun s' er' _ => p g' s' ok' (x0.trans x1) x1.toEx0 rfl er'
        · have e3 : kept d g'.M = .bad := by unfold kept; rw [if_neg hn]
          rw [e3] at p
          exact p.elim
  | .frz js st, X, g0, wx, sx, h => by
    refine PS.imp (sound_st st (g0 := g0) sx h) fun D s H q => ?_
    obtain ⟨g, r, e0, ok, x0, er, p⟩ := q
    obtain ⟨g1, ok1, x1, m1, h1, l1, er1⟩ := er.fzs js ok fun b hb => (x0.hs b hb).1
    refine ⟨g1, fzs r js, h1.trans e0, ok1, ⟨x0.toEx0.trans x1, fun b hb => ⟨l1 b hb, by rw [h1]; exact (x0.hs b hb).2⟩⟩, er1, ?_⟩
    rw [m1]
    exact PostS.mono p x1
theorem sound_ss : ∀ (sts : List S) {X : Cx} {g0 : G} {wx : WXD}, SCtx W T C X wx → S.wfs W T X.N X.env.scope sts = true → PSs X (S.exs sts) (rdS W g0 wx (exs C sts))
  | [], X, g0, wx, sx, h => PSs.imp pss_nil fun D s H ⟨g, r, e, ok, x0, er, p⟩ => by subst e; exact p g s ok x0 (Ex0.refl g) rfl er
  | st :: sts, X, g0, wx, sx, h => by
    obtain ⟨h1, h2⟩ := and2 h
    refine PSs.imp (pss_cons (sound_st st (g0 := g0) sx h1) (sound_ss sts (g0 := g0) sx h2)) fun D s H q => ?_
    obtain ⟨g, r, e, ok, x0, er, p⟩ := q
    refine ⟨g, r, e, ok, x0, er, ?_⟩
    simp only [exs] at p
    cases hq : ex C st r g.M with
    | bad => rw [hq] at p; exact p
    | exc c M => rw [hq] at p; exact p
    | ok o M =>
      rw [hq] at p
      cases o with
      | rt d => exact p
      | nx r' => exact fun g' s' ok' x y e1 er' => ⟨g', r', rfl, ok', x, er', by rw [e1]; exact PostS.mono p y⟩
end
end
end L2.Z
set_option Elab.async false
set_option linter.all false
set_option maxRecDepth 100000
set_option maxHeartbeats 1000000
/-! ### every def keeps its promise -/
namespace L2.Z
open PySem PySem.Spec PyProof.Rows

theorem _root_.L2.FunD.at {K : PySem.W.Frag} {x qual : Str} {params : Arguments} {body : List Stmt} {scope : Scope} {dvs : List V} {kws : List (Str × V)} {f : Addr} {fd : FuncData} (F : FunD K x qual params body scope dvs kws f fd) : ∃ o, K.lookup f = some o ∧ o.data = .func fd := by
  obtain ⟨oc, od, dV, kV, doc, pm, an, cdv, ct, osl, _, lk, _⟩ := F.ex
  exact ⟨_, lk, rfl⟩
theorem _root_.L2.FunD.bindsP {K : PySem.W.Frag} {x qual : Str} {params : Arguments} {body : List Stmt} {scope : Scope} {kws : List (Str × V)} {f : Addr} {fd : FuncData} {ps : List Str} (F : FunD K x qual params body scope [] kws f fd)
    (h : ∀ (kV doc pm : Value) (an : Option Addr) (cdv ct : Value) (us : List Value), us.length = ps.length → bindArgs (PySem.W.fnOf x qual params body scope .none kV doc pm an cdv ct) ⟨us, []⟩ = pure (ps.zip us)) : ∀ us : List Value, us.length = ps.length → bindArgs fd ⟨us, []⟩ = pure (ps.zip us) := by
  obtain ⟨oc, od, dV, kV, doc, pm, an, cdv, ct, osl, rfl, lk, hcd, hD, hK⟩ := F.ex
  rcases hD with ⟨_, rfl⟩ | ⟨e, _⟩
  · exact h kV doc pm an cdv ct
  · exact absurd rfl e
/-- what the head tells -/
structure Setup (W : Gam) (T : Nat → Option Fn) (sub : Nat → Nat → Bool) (mg : Str → Option Value) : Prop where
  facts : Facts W sub
  blt : ∀ x, x ∈ bltNames → mg x = none
  gi : ∀ x i, W.gi x = some i → ∃ t, mg x = some (.int i t)
  gs : ∀ x z, W.gs x = some z → ∃ t, mg x = some (.str z t)
  cls : ∀ c x, W.ct c = some x → mg x = some (.ref (W.ca c))
  fns : ∀ f F, T f = some F → ∃ (params : Arguments) (scope : Scope) (fd : FuncData), FunD W.K F.name F.qual params (S.exs F.body) scope [] [] (W.fa f) fd ∧ FnScope F.ns F.ps scope ∧ (∀ us : List Value, us.length = F.ps.length → bindArgs fd ⟨us, []⟩ = pure (F.ps.zip us)) ∧ S.wfs W T F.ns scope F.body = true ∧ mg F.name = some (.ref (W.fa f))
  rse : ∀ c x, W.ct c = some x → PySem.W.excIn W.K (W.ca c) [.type "ValueError", .type "Exception", .type "BaseException", .type "object"] "ValueError.__new__" = true ∧ PySem.W.keepIn W.K (.ref (W.ca c)) = true ∧ PySem.W.subIn W.K (.ref (W.ca c)) (.type "BaseException") = some true ∧ PySem.W.typeIn W.K (.ref (W.ca c)) = some (.type "type")
  subv : ∀ e c, sub e c = true → (W.ct e).isSome = true
  exm : ∀ c e x y, W.ct c = some x → W.ct e = some y → PySem.W.exmOne W.K (.ref (W.ca e)) (.ref (W.ca c)) = some (sub e c)

section
variable {W : Gam} {T : Nat → Option Fn} {sub : Nat → Nat → Bool} {mg : Str → Option Value} {P : Program} {w : World} {base : Heap} {fuel : Nat}
theorem RepL.nOwn {g : G} : ∀ {ds : List D} {vs : List V}, RepL W g ds vs → ∀ d ∈ ds, ∀ xs, d ≠ .own xs
  | _, _, .nil, d, h, _ => by cases h
  | _, _, .cons r t, d, h, xs => by
    rcases List.mem_cons.mp h with q | q
    · subst q; intro e; subst e; cases r
    · exact RepL.nOwn t d q xs
theorem start_get {n : Nat} {ds : List D} {i : Nat} {d : D} (h : (startD n ds)[i]? = some (some d)) : ds[i]? = some d := by
  unfold startD at h
  by_cases hi : i < ds.length
  · rw [List.getElem?_append_left (by simpa using hi), List.getElem?_map] at h
    cases e : ds[i]? with
    | none => rw [e] at h; cases h
    | some a => rw [e] at h; cases h; rfl
  · rw [List.getElem?_append_right (by simpa using hi), List.getElem?_replicate] at h
    split at h <;> cases h
theorem envR_start {g : G} {N : List Str} {ds : List D} {vs : List V} (r : RepL W g ds vs) : EnvR W g.hid g (startD N.length ds) (start N vs) := by
  have no : ∀ (i : Nat) (xs : List D), (startD N.length ds)[i]? ≠ some (some (.own xs)) := fun i xs h => RepL.nOwn r _ (List.mem_of_getElem? (start_get h)) xs rfl
  refine ⟨?_, fun i d h => ?_, fun i xs a h => absurd h (no i xs), fun i j xs ys a h => absurd h (no i xs)⟩
  · unfold start startD
    simp [r.length]
  · have h1 := start_get h
    obtain ⟨v, e, rv⟩ := r.get h1
    refine ⟨v, ?_, .inl rv⟩
    unfold start
    have hi : i < vs.length := (List.getElem?_eq_some_iff.mp e).1
    rw [List.getElem?_append_left (by simpa using hi), List.getElem?_map, e]
    rfl
theorem show_ext {g0 g' : G} (x : Ext g0 g') : Ext g0 (g'.show_ g0.hid) :=
  ⟨x.toEx0.trans (G.show_ext0 fun a ha => (x.hs a ha).1), fun a ha => ⟨ha, (x.hs a ha).2⟩⟩
theorem fn_all (S : Setup W T sub mg) : ∀ (n : Nat) (f : Nat) (F : Fn), T f = some F → ∃ fd, FnOk P w W.K mg base (L2.CX P w) (3 * n) (W.fa f) fd F.ps (fun vs H Q E => vs.length = F.ps.length ∧ spD W (callF T sub fuel n f) vs H Q E) ∧ (∀ us : List Value, us.length = F.ps.length → bindArgs fd ⟨us, []⟩ = pure (F.ps.zip us)) ∧ PySem.W.keepIn W.K (.ref (W.fa f)) = true ∧ ∃ o, W.K.lookup (W.fa f) = some o ∧ o.data = .func fd
  | 0, f, F, h => by
    obtain ⟨params, scope, fd, FD, _, B, _, _⟩ := S.fns f F h
    refine ⟨fd, ⟨fun _ _ _ _ q => q.1, ?_⟩, B, FD.kp, FD.at⟩
    intro A outer s H args us vs Q E _ _ _ _ q
    obtain ⟨_, g, ds, _, _, _, p⟩ := q
    exact p.elim
  | n + 1, f, F, h => by
    obtain ⟨params, scope, fd, FD, sc, B, wf, _⟩ := S.fns f F h
    refine ⟨fd, FD.ok sc (fun _ _ _ _ q => q.1) (fun cdv A outer s H vs Q E hr q => ?_), B, FD.kp, FD.at⟩
    obtain ⟨hl, g, ds, e0, ok, rl, p⟩ := q
    subst e0
    have tk : Takes (cxOf (L2.CX P w) P w W.K mg base F.ns F.qual scope (W.fa f) cdv A outer s g.H E) (wxX W fun c _ H => E (.ref (W.ca c)) none H) :=
      Takes.imp (takes_of (X := cxOf (L2.CX P w) P w W.K mg base F.ns F.qual scope (W.fa f) cdv A outer s g.H E) rfl rfl rfl rfl) fun cls d _ H ⟨c, e1, e2, q⟩ => by rw [e1, e2]; exact q
    have sx : SCtx W T ⟨callF T sub fuel n, sub, fuel⟩ (cxOf (L2.CX P w) P w W.K mg base F.ns F.qual scope (W.fa f) cdv A outer s g.H E) (fun c _ H => E (.ref (W.ca c)) none H) := by
      refine ⟨⟨rfl, rfl, sc.nd, ?_, S.facts, S.blt, S.gi, S.gs, S.cls, fun f' F' h' => ?_, fun f' F' ds' M h' hn => ?_, tk⟩, sc.kind, rfl, rfl, rfl, rfl, passes_of rfl, S.rse, S.subv, S.exm⟩
      · have := hr.un
        show (A.deeper _).units + 65 < cLine
        omega
      · obtain ⟨fd', ok', B', kp', _⟩ := fn_all S n f' F' h'
        obtain ⟨_, _, _, _, _, _, _, hm⟩ := S.fns f' F' h'
        exact ⟨3 * n, fd', ok', hr, hm, kp', .all B'⟩
      · show callF T sub fuel n f' ds' M = .bad
        cases n with
        | zero => rfl
        | succ n => simp only [callF, h', if_neg hn]
    refine ⟨_, sound_ss F.body (g0 := g) sx wf, ⟨g, startD F.ns.length ds, rfl, ok, Ext.refl g, envR_start rl, ?_⟩⟩
    simp only [callF, h] at p
    by_cases hd : ds.length = F.ps.length
    · rw [if_pos hd] at p
      cases hq : exs ⟨callF T sub fuel n, sub, fuel⟩ F.body (startD F.ns.length ds) g.M with
      | bad => rw [hq] at p; exact p.elim
      | exc c M =>
        rw [hq] at p
        exact fun g' s' ok' x _ e => p (g'.show_ g.hid) (show_ext x) rfl e (ok'.show_ok fun a ha => (x.hs a ha).1)
      | ok o M =>
        rw [hq] at p
        cases o with
        | nx r' => exact fun g' s' ok' x _ e _ => p (g'.show_ g.hid) (show_ext x) rfl e (ok'.show_ok fun a ha => (x.hs a ha).1) _ .non
        | rt d => exact fun g' ok' x _ e v rv => p (g'.show_ g.hid) (show_ext x) rfl e (ok'.show_ok fun a ha => (x.hs a ha).1) _ (rv.mono (G.show_ext0 fun a ha => (x.hs a ha).1))
    · rw [if_neg hd] at p; exact p.elim
/-- the law's promise -/
theorem sp_law {f : Nat} {n : Nat} {H : Hp} {a : Addr} {ns : List Int} {M : Mem} (hS : SqL W.K H a (ns.map V.int)) (h : callF T sub fuel n f [.ext (ns.map D.int)] [] = .ok (.bl true) M) :
    spD W (callF T sub fuel n f) [.ref a] H (fun v _ => v = .bl true) fun _ _ _ => False := by
  have rl : ∀ (g : G) (l : List Int), RepL W g (l.map D.int) (l.map V.int) := fun g l => by
    induction l with
    | nil => exact .nil
    | cons x l ih => exact .cons (.int x) ih
  have nl : ∀ b, ¬ (G.mk [] [] [] H).live b := fun b z => by
    rcases z with ⟨r, c, e, _⟩ | z
    · simp at e
    · cases z
  refine ⟨⟨[], [], [], H⟩, [.ext (ns.map D.int)], rfl, ⟨rfl, List.nodup_nil, fun a h => (by cases h), fun a h => (by cases h), fun r a c h => (by simp at h)⟩, .cons ?_ .nil, ?_⟩
  · refine .ext ?_ (rl _ ns)
    rcases hS with q | q
    · exact .inl ⟨q, nl a⟩
    · exact .inr q
  · show PostT (Rep W) W _ (callF T sub fuel n f [.ext (ns.map D.int)] []) _ _
    rw [h]
    intro g' _ _ _ _ v rv
    cases rv
    rfl
end
end L2.Z
set_option Elab.async false
set_option linter.all false
set_option maxRecDepth 100000
set_option maxHeartbeats 1000000
/-! ### the row's text, its names resolved -/
namespace L2.Z
open PySem PySem.Spec PyProof.Rows

/-- what is known of the module's names, and what is wanted of lists: own (def, name), live (def) -/
structure Nms where
  fns : List Str
  cls : List Str
  gi : List (Str × Int)
  gs : List (Str × Str)
  own : List (Str × Str)
  live : List Str
def ixS (x : Str) : List Str → Nat → Option Nat
  | [], _ => none
  | y :: r, k => if x = y then some k else ixS x r (k + 1)
structure TC where
  nm : Nms
  fn : Str
  N : List Str
def TC.isOwn (c : TC) (x : Str) : Bool := c.nm.own.any fun p => p.1 = c.fn && p.2 = x
def mapO {α β : Type} (f : α → Option β) : List α → Option (List β)
  | [] => some []
  | a :: r => (match f a with
    | none => none
    | some b => (match mapO f r with
      | none => none
      | some bs => some (b :: bs)))
def isVar (sc : Scope) (x : Str) : Bool := match sc.names.lookup x with
  | some .local => true
  | some .cell => true
  | some .free => true
  | _ => false
def isGlo (sc : Scope) (x : Str) : Bool := match sc.names.lookup x with
  | some .globalImplicit => true
  | _ => false
def trTg (c : TC) : Nat → Expr → Option Tg
  | 0, _ => none
  | n + 1, e => (match e with
    | .Name x p => (ixS x c.N 0).map fun i => .nm i x p
    | .Tuple es k p => (mapO (trTg c n) es).map fun ts => .tp ts k p
    | _ => none)
def trTy (c : TC) (x : Str) : Option Ty :=
  if x = "int" then some .int else if x = "bool" then some .bool else if x = "str" then some .str else if x = "tuple" then some .tuple else if x = "list" then some .list else if x = "dict" then some .dict else
  if x = "ValueError" then some .valueError else (ixS x c.nm.cls 0).map fun k => .own k x
def trBlt (x : Str) (n : Nat) : Option Blt :=
  if x = "len" then some .len else if x = "abs" then some .abs else if x = "all" then some .all else if x = "any" then some .any else if x = "sum" then some .sum else if x = "list" then some .list else if x = "tuple" then some .tuple else
  if x = "max" then (if n = 2 then some .max2 else some .max1) else if x = "min" then (if n = 2 then some .min2 else some .min1) else none
def trMth (x : Str) : Option Mth := if x = "index" then some .index else if x = "count" then some .count else none
def ownOf (c : TC) (scope : Scope) : List (Str × Nat) := scope.names.filterMap fun y => match y.2 with
  | .local => (ixS y.1 c.N 0).map fun i => (y.1, i)
  | .cell => (ixS y.1 c.N 0).map fun i => (y.1, i)
  | _ => none
def trSrc (c : TC) (sc : Scope) (f : Expr → Option E) (e : Expr) : Option (SK × List E) := match e with
  | .Call (.Name x px) es [] p => if isGlo sc x && (x = "range" || x = "zip" || x = "enumerate") then
      (mapO f es).map fun es => (if x = "range" then .rng px p else if x = "zip" then .zip px p else .enm px p, es)
    else (f e).map fun e => (.one, [e])
  | e => (f e).map fun e => (.one, [e])
def trE (c : TC) : Nat → Scope → Expr → Option E
  | 0, _, _ => none
  | n + 1, sc, e => (match e with
    | .Name x p => if isVar sc x then (ixS x c.N 0).map fun i => .var i x p else
      (match ixS x c.nm.fns 0 with
      | some f => some (.gfn x f p)
      | none => (match c.nm.gi.lookup x with
        | some i => some (.gint x i p)
        | none => (c.nm.gs.lookup x).map fun z => .gstr x z p))
    | .Constant k j p => some (.cst k j p)
    | .BinOp a o b p => (match trE c n sc a, trE c n sc b with
      | some a, some b => some (.bin o a b p)
      | _, _ => none)
    | .UnaryOp .USub a p => (trE c n sc a).map fun a => .neg a p
    | .UnaryOp .Not a p => (trE c n sc a).map fun a => .not a p
    | .BoolOp o es p => (mapO (trE c n sc) es).map fun es => .bop o es p
    | .Compare a [o] [b] p => (match trE c n sc a, trE c n sc b with
      | some a, some b => some (.cmp o a b p)
      | _, _ => none)
    | .Compare a [o, o'] [b, d] p => (match trE c n sc a, trE c n sc b, trE c n sc d with
      | some a, some b, some d => some (.chain o o' a b d p)
      | _, _, _ => none)
    | .IfExp t a b p => (match trE c n sc t, trE c n sc a, trE c n sc b with
      | some t, some a, some b => some (.ite t a b p)
      | _, _, _ => none)
    | .Call (.Name x px) es [] p => (match ixS x c.nm.fns 0 with
      | some f => (mapO (trE c n sc) es).map fun es => .call f x px es p
      | none => if x = "isinstance" then (match es with
          | [a, .Name t pt] => (match trE c n sc a, trTy c t with
            | some a, some t => some (.isi a t px pt p)
            | _, _ => none)
          | _ => none)
        else if x = "sorted" then (match es with
          | [a] => (trE c n sc a).map fun a => .srt a px p
          | _ => none)
        else (match trBlt x es.length with
          | some b => (mapO (trE c n sc) es).map fun es => .blt b px es p
          | none => none))
    | .Call (.Name x px) [a] [⟨some k, .Name f pf, pk⟩] p => if x = "sorted" && k = "key" then (match trE c n sc a, ixS f c.nm.fns 0 with
      | some a, some j => some (.srk a j f pf pk px p)
      | _, _ => none) else none
    | .Call (.Attribute o m po) es [] p => (match trE c n sc o, trMth m, mapO (trE c n sc) es with
      | some o, some m, some es => some (.mth m o po es p)
      | _, _, _ => none)
    | .Subscript a (.Slice lo hi none ps) p => (match trE c n sc a, (match lo with
        | none => some none
        | some l => (trE c n sc l).map some), (match hi with
        | none => some none
        | some l => (trE c n sc l).map some) with
      | some a, some lo, some hi => some (.slc a lo hi ps p)
      | _, _, _ => none)
    | .Subscript a i p => (match trE c n sc a, trE c n sc i with
      | some a, some i => some (.sub a i p)
      | _, _ => none)
    | .Tuple es k p => (mapO (trE c n sc) es).map fun es => .tup es k p
    | .List es p => (mapO (trE c n sc) es).map fun es => .lst es p
    | .ListComp elt [⟨tg, src, ifs, _⟩] scope p => (match trE c n scope elt, trTg c n tg, trSrc c sc (trE c n sc) src, mapO (trE c n scope) ifs with
      | some elt, some tg, some (sk, src), some ifs => some (.lc elt tg sk src ifs scope (ownOf c scope) p)
      | _, _, _, _ => none)
    | _ => none)
/-! own lists that are handed on -/
mutual
def kpE (k : Bool) : E → List Nat
  | .var i _ _ => if k then [i] else []
  | .bin _ a b _ => kpE false a ++ kpE false b
  | .neg a _ => kpE false a
  | .not a _ => kpE false a
  | .bop _ es _ => kpEs false es
  | .cmp _ a b _ => kpE false a ++ kpE false b
  | .chain _ _ a b c _ => kpE false a ++ kpE false b ++ kpE false c
  | .ite t a b _ => kpE false t ++ kpE k a ++ kpE k b
  | .call _ _ _ es _ => kpEs true es
  | .isi a _ _ _ _ => kpE false a
  | .blt _ _ es _ => kpEs false es
  | .mth _ o _ es _ => kpE false o ++ kpEs false es
  | .sub a i _ => kpE false a ++ kpE false i
  | .slc a lo hi _ _ => kpE false a ++ kpO lo ++ kpO hi
  | .tup es _ _ => kpEs true es
  | .lst es _ => kpEs true es
  | .lc elt _ _ src ifs _ _ _ => kpE true elt ++ kpEs false src ++ kpEs false ifs
  | .live e => kpE k e
  | .srt a _ _ => kpE false a
  | .srk a _ _ _ _ _ _ => kpE false a
  | _ => []
def kpEs (k : Bool) : List E → List Nat
  | [] => []
  | e :: es => kpE k e ++ kpEs k es
def kpO : Option E → List Nat
  | none => []
  | some e => kpE false e
end
def frzOf (c : TC) (l : List Nat) (s : S) : S := match (l.filter fun i => match c.N[i]? with
  | some x => c.isOwn x
  | none => false).eraseDups with
  | [] => s
  | l => .frz l s
def trS (c : TC) (sc : Scope) : Nat → Stmt → Option S
  | 0, _ => none
  | n + 1, st => (match st with
    | .Assign [.Subscript (.Name x px) i pt] e p => (match trE c n sc i, trE c n sc e, ixS x c.N 0 with
      | some i, some e, some j => some (frzOf c (kpE true e ++ kpE false i) (if c.isOwn x then .sto j x px i e pt p else .sti (.var j x px) i e pt p))
      | _, _, _ => none)
    | .Assign [.Name x px] e p => (match trE c n sc e, ixS x c.N 0 with
      | some e, some i => if c.isOwn x && isNew e then some (frzOf c (kpE true e) (.own i x px e p)) else some (frzOf c (kpE true e) (.asg (.nm i x px) e p))
      | _, _ => none)
    | .Assign [tg] e p => (match trTg c n tg, trE c n sc e with
      | some (.tp ts k pt), some e => (match ts, e with
        | [.nm i x px, .nm j y py], .tup [a, b] k' pv => if swNo sc ts (E.exs [a, b]) then some (frzOf c (kpE true e) (.asg (.tp ts k pt) e p)) else some (frzOf c (kpE true e) (.par i j x y px py pt a b pv p k k'))
        | _, _ => some (frzOf c (kpE true e) (.asg (.tp ts k pt) e p)))
      | _, _ => none)
    | .Expr (.Call (.Attribute (.Name x px) m pa) [e] [] p) ps => (match trE c n sc e, ixS x c.N 0 with
      | some e, some i => if m = "append" then some (frzOf c (kpE true e) (.app i x px pa e p ps)) else if m = "extend" then some (frzOf c (kpE true e) (.exn i x px pa e p ps)) else none
      | _, _ => none)
    | .Expr e p => (trE c n sc e).map fun e => frzOf c (kpE false e) (.exp e p)
    | .AugAssign (.Name x px) o e p => (match trE c n sc e, ixS x c.N 0 with
      | some e, some i => some (frzOf c (kpE false e) (.aug i x px o e p))
      | _, _ => none)
    | .Return (some e) p => (trE c n sc e).map fun e => frzOf c (kpE true e) (.ret (if c.nm.live.contains c.fn then .live e else e) p)
    | .If t a b p => (match trE c n sc t, mapO (trS c sc n) a, mapO (trS c sc n) b with
      | some t, some a, some b => some (frzOf c (kpE false t) (.ifs t a b p))
      | _, _, _ => none)
    | .For tg src b [] p => (match trTg c n tg, trSrc c sc (trE c n sc) src, mapO (trS c sc n) b with
      | some tg, some (sk, src), some b => some (frzOf c (kpEs true src) (.fors tg sk src b p))
      | _, _, _ => none)
    | .While t b [] p => (match trE c n sc t, mapO (trS c sc n) b with
      | some t, some b => some (.whl t b p)
      | _, _ => none)
    | .Raise (some (.Call (.Name x px) [.Constant (.str m) k pm] [] pc)) none p => (ixS x c.nm.cls 0).map fun j => .rse j x px m k pm pc p
    | .Try [.Assign [tg] e pb] [.ExceptHandler (some (.Name x px)) (some y) [.Assign [.Name z pz] (.Name _ py) pa] ph] [] [] p => (match trTg c n tg, trE c n sc e, ixS x c.nm.cls 0, ixS y c.N 0, ixS z c.N 0 with
      | some tg, some e, some k, some i, some j => some (frzOf c (kpE true e) (.tri tg e pb k x px i y j z pz py pa ph p))
      | _, _, _, _, _ => none)
    | _ => none)
/-! names of comprehensions -/
def scE : Nat → Expr → List Scope
  | 0, _ => []
  | n + 1, e => (match e with
    | .BoolOp _ es _ => es.flatMap (scE n)
    | .BinOp a _ b _ => scE n a ++ scE n b
    | .UnaryOp _ a _ => scE n a
    | .IfExp t a b _ => scE n t ++ scE n a ++ scE n b
    | .Compare a _ es _ => scE n a ++ es.flatMap (scE n)
    | .Call f es ks _ => scE n f ++ es.flatMap (scE n)
    | .Attribute a _ _ => scE n a
    | .Subscript a i _ => scE n a ++ scE n i
    | .Slice a b d _ => (match a with
      | some a => scE n a
      | none => []) ++ (match b with
      | some a => scE n a
      | none => []) ++ (match d with
      | some a => scE n a
      | none => [])
    | .Tuple es _ _ => es.flatMap (scE n)
    | .List es _ => es.flatMap (scE n)
    | .Dict _ es _ => es.flatMap (scE n)
    | .ListComp elt gs sc _ => sc :: (scE n elt ++ gs.flatMap fun g => scE n g.iter ++ g.ifs.flatMap (scE n))
    | .DictComp a b gs sc _ => sc :: (scE n a ++ scE n b ++ gs.flatMap fun g => scE n g.iter ++ g.ifs.flatMap (scE n))
    | .Starred a _ => scE n a
    | _ => [])
def scS : Nat → Stmt → List Scope
  | 0, _ => []
  | n + 1, s => (match s with
    | .Assign ts e _ => ts.flatMap (scE n) ++ scE n e
    | .AugAssign _ _ e _ => scE n e
    | .Expr e _ => scE n e
    | .Return (some e) _ => scE n e
    | .If t a b _ => scE n t ++ a.flatMap (scS n) ++ b.flatMap (scS n)
    | .For _ e b _ _ => scE n e ++ b.flatMap (scS n)
    | .While t b _ _ => scE n t ++ b.flatMap (scS n)
    | .Try b hs _ _ _ => b.flatMap (scS n) ++ hs.flatMap fun h => match h with
      | .ExceptHandler _ _ b _ => b.flatMap (scS n)
    | _ => [])
def locs (sc : Scope) : List Str := sc.names.filterMap fun y => match y.2 with
  | .local => some y.1
  | .cell => some y.1
  | _ => none
def addNew (l : List Str) : List Str → List Str
  | [] => l
  | x :: r => if l.contains x then addNew l r else addNew (l ++ [x]) r
def fArgs : Stmt → List Str
  | .FunctionDef _ a _ _ _ _ _ _ _ _ => a.args.map (·.arg)
  | _ => []
def fName : Stmt → Str
  | .FunctionDef n _ _ _ _ _ _ _ _ _ => n
  | _ => ""
def trF (nm : Nms) (st : Stmt) : Option Fn := match st with
  | .FunctionDef name args body _ _ _ scope _ _ _ =>
    let ps := args.args.map (·.arg)
    let N := addNew (addNew ps (locs scope)) ((body.flatMap (scS 40)).flatMap locs)
    (mapO (trS ⟨nm, name, N⟩ scope 40) body).map fun b => ⟨name, name, ps, N, b⟩
  | _ => none
def isDef : Stmt → Bool
  | .FunctionDef _ _ _ _ _ _ _ _ _ _ => true
  | _ => false
def clsOf : List Stmt → List Str
  | [] => []
  | .ClassDef n _ _ _ _ _ _ _ _ _ _ :: r => n :: clsOf r
  | _ :: r => clsOf r
def giOf : List Stmt → List (Str × Int)
  | [] => []
  | .Assign [.Name x _] (.Constant (.int i) _ _) _ :: r => (x, i) :: giOf r
  | _ :: r => giOf r
def gsOf : List Stmt → List (Str × Str)
  | [] => []
  | .Assign [.Name x _] (.Constant (.str i) _ _) _ :: r => if x = "__name__" then gsOf r else (x, i) :: gsOf r
  | _ :: r => gsOf r
def nmsOf (b : List Stmt) (own : List (Str × Str)) (live : List Str) : Nms := ⟨(b.filter isDef).map fName, clsOf b, giOf b, gsOf b, own, live⟩
def defsOf (b : List Stmt) : List Stmt := b.filter isDef
def tblOf (b : List Stmt) (own : List (Str × Str)) (live : List Str) : List (Option Fn) := (defsOf b).map (trF (nmsOf b own live))
def TOf (t : List (Option Fn)) : Nat → Option Fn := fun f => match t[f]? with
  | some o => o
  | none => none
end L2.Z
set_option Elab.async false
set_option linter.all false
set_option maxRecDepth 100000
set_option maxHeartbeats 1000000
/-! ### the head: what is told of the module, by names -/
namespace L2.Z
open PySem PySem.Spec PyProof.Rows

theorem zip_look : ∀ {ns : List Str} {us : List Value} {i : Nat} {n : Str}, ns.Nodup → us.length = ns.length → n ∈ ns → ∃ u, (ns.zip us).lookup n = some u
  | [], _, _, _, _, _, h => by cases h
  | m :: ns, u :: us, _, n, nd, hl, h => by
    rw [List.zip_cons_cons, List.lookup_cons]
    cases q : (n == m) with
    | true => exact ⟨u, rfl⟩
    | false =>
      rcases List.mem_cons.mp h with z | z
      · rw [z] at q; simp at q
      · exact zip_look (i := 0) (List.nodup_cons.mp nd).2 (by simpa using hl) z
theorem zip_fm : ∀ {ns : List Str} {us : List Value} (l : List (Str × Value)), ns.Nodup → us.length = ns.length → (∀ n ∈ ns, l.lookup n = none) → ns.filterMap (fun n => ((l ++ ns.zip us).lookup n).map (n, ·)) = ns.zip us
  | [], _, _, _, _, _ => rfl
  | m :: ns, [], _, _, hl, _ => by simp at hl
  | m :: ns, u :: us, l, nd, hl, h => by
    obtain ⟨n1, n2⟩ := List.nodup_cons.mp nd
    have e1 : (l ++ (m :: ns).zip (u :: us)).lookup m = some u := by
      rw [List.lookup_append, h m (List.mem_cons_self)]
      simp
    rw [List.filterMap_cons, e1]
    show (m, u) :: _ = _
    rw [List.zip_cons_cons]
    congr 1
    have e2 := zip_fm (ns := ns) (us := us) (l ++ [(m, u)]) n2 (by simpa using hl) (fun n hn => by
      rw [List.lookup_append, h n (List.mem_cons_of_mem _ hn)]
      have : n ≠ m := fun z => n1 (by rw [← z]; exact hn)
      have : (n == m) = false := by simpa using this
      simp [List.lookup, this])
    rw [List.append_assoc] at e2
    exact e2
theorem bind_plain {x qual : Str} {body : List Stmt} {scope : Scope} {kV doc pm : Value} {an : Option Addr} {cdv ct : Value} {as : List Arg} {us : List Value} (nd : (as.map (·.arg)).Nodup) (hl : us.length = (as.map (·.arg)).length) :
    bindArgs (PySem.W.fnOf x qual ⟨[], as, none, [], [], none, []⟩ body scope .none kV doc pm an cdv ct) ⟨us, []⟩ = pure ((as.map (·.arg)).zip us) := by
  have hm : ((as.map (·.arg)).filter fun n => (((as.map (·.arg)).zip us).lookup n).isNone) = [] := by
    rw [List.filter_eq_nil_iff]
    intro n hn
    obtain ⟨u, e⟩ := zip_look (i := 0) nd hl hn
    rw [e]; simp
  have hf := zip_fm (ns := as.map (·.arg)) (us := us) [] nd hl (fun _ _ => rfl)
  have hg : ¬ (us.length > as.length) := by simp at hl; omega
  unfold bindArgs PySem.W.fnOf
  simp [hm, hf, hg, seqItems?, notAStandIn, hl]
  have ht : (List.take ((List.map (fun x => x.arg) ([] : List Arg) ++ List.map (fun x => x.arg) as).length - (List.drop ((#[] : Array Value).size - (List.map (fun x => x.arg) ([] : List Arg) ++ List.map (fun x => x.arg) as).length) ([] : List Value)).length) (List.map (fun x => x.arg) ([] : List Arg) ++ List.map (fun x => x.arg) as)) = as.map (·.arg) := by
    simp
    rw [show as.length = (as.map fun x => x.arg).length by simp, List.take_length]
  rw [if_neg (by rw [ht, hm]; simp)]
  have hf' : List.filterMap ((fun n => Option.map (fun x => (n, x)) (List.lookup n ((List.map (fun x => x.arg) as).zip us))) ∘ fun x => x.arg) as = (as.map (·.arg)).zip us := by
    rw [← List.filterMap_map]
    exact hf
  rw [hf']

/-! #### the tables -/
def fnDs (b : List Stmt) (own : List (Str × Str)) (live : List Str) : List He.DefD := (defsOf b).filterMap fun st => match trF (nmsOf b own live) st with
  | some F => some ⟨(F.name, none), F.name, F.qual, defArgs st, S.exs F.body, defScope st, [], []⟩
  | none => none
def faLs (nm : Nms) : List He.Fa := nm.fns.map .glo ++ (bltNames.map .free ++ (nm.gi.map (fun p => .int p.1 p.2) ++ (nm.gs.map (fun p => .str p.1 p.2) ++ (nm.cls.map .glo ++ nm.cls.map .exc))))
def eqV (a b : Option (Option Value)) : Bool := decide (a = b)
def eqB (a b : Option Bool) : Bool := decide (a = b)
def excB (K : PySem.W.Frag) (C : Addr) : Bool := eqV (PySem.W.findIn K (.ref C) "__getattribute__") (some (some (.builtin "BaseException.__getattribute__"))) && (eqV (PySem.W.findIn K (.ref C) "__getattr__") (some none) && (eqB (PySem.W.subIn K (.ref C) (.type "BaseException")) (some true) && (PySem.W.hasDictIn K C &&
  (eqV (PySem.W.findIn K (.ref C) "__class__") (some (some (.builtin "object.__class__"))) && (eqV (PySem.W.specialIn K (.builtin "object.__class__") "__get__") (some (some (.builtin "getset_descriptor.__get__"))) && (eqB (PySem.W.takesIn K (.builtin "object.__class__")) (some true) && eqB (PySem.W.mroIn K C (.type "object")) (some true)))))))
theorem excB_ok {K : PySem.W.Frag} {C : Addr} (h : excB K C = true) : ExcC K C := by
  unfold excB at h
  obtain ⟨h1, h⟩ := and2 h
  obtain ⟨h2, h⟩ := and2 h
  obtain ⟨h3, h⟩ := and2 h
  obtain ⟨h4, h⟩ := and2 h
  obtain ⟨h5, h⟩ := and2 h
  obtain ⟨h6, h⟩ := and2 h
  obtain ⟨h7, h8⟩ := and2 h
  exact ⟨of_decide_eq_true h1, of_decide_eq_true h2, of_decide_eq_true h3, h4, of_decide_eq_true h5, of_decide_eq_true h6, of_decide_eq_true h7, of_decide_eq_true h8⟩
/-- classes: all pairs -/
def pairB (K : PySem.W.Frag) (sub : Nat → Nat → Bool) (cls : List Str) (c e : Nat) : Bool := match cls[c]?, cls[e]? with
  | some x, some y => eqB (PySem.W.kitOne K (.ref (He.ga K y)) (.ref (He.ga K x))) (some (sub e c)) && eqB (PySem.W.exmOne K (.ref (He.ga K y)) (.ref (He.ga K x))) (some (sub e c))
  | _, _ => true
def exL (cls : List Str) (sub : Nat → Nat → Bool) (K : PySem.W.Frag) : Bool := (cls.all fun x => excB K (He.ga K x) && eqB (PySem.W.kitOne K (.ref (He.ga K x)) (.type "ValueError")) (some true)) && ((List.range cls.length).all fun c => (List.range cls.length).all fun e => pairB K sub cls c e)
def WOf (nm : Nms) (K : PySem.W.Frag) : Gam := ⟨K, fun f => He.ga K (nm.fns.getD f ""), fun c => He.ga K (nm.cls.getD c ""), fun c => nm.cls[c]?, fun x => nm.gi.lookup x, fun x => nm.gs.lookup x⟩
/-- what is checked of each def -/
def scB (N ps : List Str) (sc : Scope) : Bool := decide (sc.kind = .function) && (!sc.isCoroutine && (!sc.isGenerator && (decide N.Nodup && (decide (N.take ps.length = ps) && ((ps.all fun x => decide (sc.names.lookup x = some .local) || decide (sc.names.lookup x = some .cell)) && (sc.names.all fun y => decide (y.2 ≠ .free)))))))
theorem scB_ok {N ps : List Str} {sc : Scope} (h : scB N ps sc = true) : FnScope N ps sc := by
  unfold scB at h
  obtain ⟨h1, h⟩ := and2 h
  obtain ⟨h2, h⟩ := and2 h
  obtain ⟨h3, h⟩ := and2 h
  obtain ⟨h4, h⟩ := and2 h
  obtain ⟨h5, h⟩ := and2 h
  obtain ⟨h6, h7⟩ := and2 h
  refine ⟨of_decide_eq_true h1, notT h2, notT h3, of_decide_eq_true h4, of_decide_eq_true h5, fun x hx => ?_, fun y hy => of_decide_eq_true (List.all_eq_true.mp h7 y hy)⟩
  rcases Bool.or_eq_true_iff.mp (List.all_eq_true.mp h6 x hx) with z | z
  · exact .inl (of_decide_eq_true z)
  · exact .inr (of_decide_eq_true z)
def argB (a : Arguments) : Bool := a.posonlyargs.isEmpty && (a.vararg.isNone && (a.kwonlyargs.isEmpty && (a.kw_defaults.isEmpty && (a.kwarg.isNone && a.defaults.isEmpty))))
theorem argB_ok {a : Arguments} (h : argB a = true) : a = ⟨[], a.args, none, [], [], none, []⟩ := by
  obtain ⟨a1, a2, a3, a4, a5, a6, a7⟩ := a
  unfold argB at h
  obtain ⟨h1, h⟩ := and2 h
  obtain ⟨h2, h⟩ := and2 h
  obtain ⟨h3, h⟩ := and2 h
  obtain ⟨h4, h⟩ := and2 h
  obtain ⟨h5, h6⟩ := and2 h
  cases a1 <;> first | (cases h1; done) | skip
  cases a3 <;> first | (cases h2; done) | skip
  cases a4 <;> first | (cases h3; done) | skip
  cases a5 <;> first | (cases h4; done) | skip
  cases a6 <;> first | (cases h5; done) | skip
  cases a7 <;> first | (cases h6; done) | skip
  rfl
def chk1 (nm : Nms) (T : Nat → Option Fn) (K : PySem.W.Frag) (st : Stmt) : Bool := match trF nm st with
  | some F => scB F.ns F.ps (defScope st) && (argB (defArgs st) && S.wfs (WOf nm K) T F.ns (defScope st) F.body)
  | none => true
def chkAll (b : List Stmt) (own : List (Str × Str)) (live : List Str) (K : PySem.W.Frag) : Bool := (defsOf b).all (chk1 (nmsOf b own live) (TOf (tblOf b own live)) K)
def subB (cls : List Str) (sub : Nat → Nat → Bool) : Prop := ∀ e c, sub e c = true → (cls[e]?).isSome = true
theorem trF_name {nm : Nms} {st : Stmt} {F : Fn} (h : trF nm st = some F) : F.name = fName st ∧ F.qual = fName st ∧ F.ps = (defArgs st).args.map (·.arg) := by
  unfold trF at h
  split at h
  · simp only [Option.map_eq_some_iff] at h
    obtain ⟨b, _, e⟩ := h
    subst e
    exact ⟨rfl, rfl, rfl⟩
  · cases h
theorem T_def {b : List Stmt} {own : List (Str × Str)} {live : List Str} {f : Nat} {F : Fn} (h : TOf (tblOf b own live) f = some F) : ∃ st, (defsOf b)[f]? = some st ∧ trF (nmsOf b own live) st = some F := by
  unfold TOf tblOf at h
  rw [List.getElem?_map] at h
  cases q : (defsOf b)[f]? with
  | none => rw [q] at h; cases h
  | some st => rw [q] at h; exact ⟨st, rfl, h⟩
theorem getD_at {l : List Str} {i : Nat} {x : Str} (h : l[i]? = some x) (d : Str) : l.getD i d = x := by
  rw [List.getD_eq_getElem?_getD, h]; rfl
theorem lookup_memL {α : Type} {x : Str} {v : α} : ∀ {l : List (Str × α)}, l.lookup x = some v → (x, v) ∈ l
  | [], h => by cases h
  | (y, u) :: l, h => by
    rw [List.lookup_cons] at h
    cases q : (x == y) with
    | true =>
      rw [q] at h
      have e : u = v := Option.some.inj h
      rw [eq_of_beq q, e]; exact List.mem_cons_self
    | false =>
      rw [q] at h
      exact List.mem_cons_of_mem _ (lookup_memL h)
theorem setup_of {b : List Stmt} {own : List (Str × Str)} {live : List Str} {sub : Nat → Nat → Bool} {K : PySem.W.Frag} {w : World} {h : Heap} {mg : Str → Option Value} (X : K.In h) (G : h.Ns mainGlobals mg)
    (c : He.SaysX (faLs (nmsOf b own live)) (fnDs b own live) [] [] (exL (nmsOf b own live).cls sub) w h K) (hc : chkAll b own live K = true) (hs : subB (nmsOf b own live).cls sub) :
    Setup (WOf (nmsOf b own live) K) (TOf (tblOf b own live)) sub mg := by
  have d := c.t.d
  have fact : ∀ {f : He.Fa}, f ∈ faLs (nmsOf b own live) → f.ok K = true := fun hf => d.facts hf
  obtain ⟨m1, m2⟩ := and2 c.more
  have cat : ∀ {c x}, (nmsOf b own live).cls[c]? = some x → (WOf (nmsOf b own live) K).ca c = He.ga K x := fun e => congrArg (He.ga K) (getD_at e _)
  have pr : ∀ {c e x y}, (nmsOf b own live).cls[c]? = some x → (nmsOf b own live).cls[e]? = some y → pairB K sub (nmsOf b own live).cls c e = true := fun {c e x y} e1 e2 => by
    have l1 := (List.getElem?_eq_some_iff.mp e1).1
    have l2 := (List.getElem?_eq_some_iff.mp e2).1
    exact List.all_eq_true.mp (List.all_eq_true.mp m2 c (List.mem_range.mpr l1)) e (List.mem_range.mpr l2)
  have pr2 : ∀ {c e x y}, (nmsOf b own live).cls[c]? = some x → (nmsOf b own live).cls[e]? = some y → PySem.W.kitOne K (.ref (He.ga K y)) (.ref (He.ga K x)) = some (sub e c) ∧ PySem.W.exmOne K (.ref (He.ga K y)) (.ref (He.ga K x)) = some (sub e c) := fun {c e x y} e1 e2 => by
    have q := pr e1 e2
    unfold pairB at q
    rw [e1, e2] at q
    obtain ⟨q1, q2⟩ := and2 q
    exact ⟨of_decide_eq_true q1, of_decide_eq_true q2⟩
  have clm : ∀ {c x}, (nmsOf b own live).cls[c]? = some x → x ∈ (nmsOf b own live).cls := fun e => List.mem_of_getElem? e
  refine ⟨⟨fun c x e => ?_, fun c e x y e1 e2 => ?_, fun e y e1 => ?_⟩, fun x hx => ?_, fun x i e => ?_, fun x z e => ?_, fun c x e => ?_, fun f F hf => ?_, fun c x e => ?_, fun e c hh => hs e c hh, fun c e x y e1 e2 => ?_⟩
  · rw [cat e]; exact excB_ok (and2 (List.all_eq_true.mp m1 x (clm e))).1
  · rw [cat e1, cat e2]; exact (pr2 e1 e2).1
  · rw [cat e1]; exact of_decide_eq_true (and2 (List.all_eq_true.mp m1 y (clm e1))).2
  · exact He.free_ok X G (fact (f := .free x) (by unfold faLs; simp only [List.mem_append, List.mem_map]; exact .inr (.inl ⟨x, hx, rfl⟩)))
  · exact He.int_ok X G (fact (f := .int x i) (by unfold faLs; simp only [List.mem_append, List.mem_map]; exact .inr (.inr (.inl ⟨(x, i), lookup_memL e, rfl⟩))))
  · exact He.str_ok X G (fact (f := .str x z) (by unfold faLs; simp only [List.mem_append, List.mem_map]; exact .inr (.inr (.inr (.inl ⟨(x, z), lookup_memL e, rfl⟩)))))
  · rw [cat e]; exact He.glo_ok X G (fact (f := .glo x) (by unfold faLs; simp only [List.mem_append, List.mem_map]; exact .inr (.inr (.inr (.inr (.inl ⟨x, clm e, rfl⟩))))))
  · obtain ⟨st, h1, h2⟩ := T_def hf
    obtain ⟨n1, n2, n3⟩ := trF_name h2
    have hm : st ∈ defsOf b := List.mem_of_getElem? h1
    have ck := List.all_eq_true.mp hc st hm
    unfold chk1 at ck
    rw [h2] at ck
    obtain ⟨k1, k2⟩ := and2 ck
    obtain ⟨k2, k3⟩ := and2 k2
    have hfn : (nmsOf b own live).fns[f]? = some F.name := by
      show ((b.filter isDef).map fName)[f]? = _
      rw [List.getElem?_map, show (b.filter isDef)[f]? = some st from h1, n1]; rfl
    have hfa : (WOf (nmsOf b own live) K).fa f = He.ga K F.name := congrArg (He.ga K) (getD_at hfn _)
    obtain ⟨fd, FD⟩ := d.defs (d := ⟨(F.name, none), F.name, F.qual, defArgs st, S.exs F.body, defScope st, [], []⟩) (by
      unfold fnDs
      rw [List.mem_filterMap]
      exact ⟨st, hm, by rw [h2]⟩)
    have FD : FunD K F.name F.qual (defArgs st) (S.exs F.body) (defScope st) [] [] (He.ga K F.name) fd := FD
    have sc := scB_ok k1
    have ea := argB_ok k2
    have nd : ((defArgs st).args.map (·.arg)).Nodup := by
      rw [← n3, ← sc.pre]; exact sc.nd.sublist (List.take_sublist _ _)
    refine ⟨defArgs st, defScope st, fd, by rw [hfa]; exact FD, sc, ?_, k3, ?_⟩
    · refine FD.bindsP fun kV doc pm an cdv ct us hl => ?_
      rw [n3] at hl ⊢
      rw [ea]
      exact bind_plain nd hl
    · rw [hfa]
      exact He.glo_ok X G (fact (f := .glo F.name) (by unfold faLs; simp only [List.mem_append, List.mem_map]; exact .inl ⟨F.name, List.mem_of_getElem? hfn, rfl⟩))
  · rw [cat e]; exact He.exc_ok (fact (f := .exc x) (by unfold faLs; simp only [List.mem_append, List.mem_map]; exact .inr (.inr (.inr (.inr (.inr ⟨x, clm e, rfl⟩))))))
  · rw [cat e1, cat e2]; exact (pr2 e1 e2).2
end L2.Z
namespace L2.Z
open PySem PySem.Spec PyProof.Rows
/-- an exception that leaves it, in whatever world -/
def CXA (P : Program) : CXT := fun outer H s E e s' => ∃ w, L2.CX P w outer H s E e s'
theorem cxa_none {P : Program} {H : Hp} {s : Shared} {e : Value} {s' : Shared} (h : CXA P [] H s (fun _ _ _ => False) e s') : False := by
  obtain ⟨w, a, B, H', cls, d, _, _, _, _, _, _, _, hF⟩ := h
  exact hF
theorem fn_cxa {P : Program} {w : World} {K : PySem.W.Frag} {mg : Str → Option Value} {base : Heap} {k : Nat} {f : Addr} {fd : FuncData} {ps : List Str} {sp : Sp} (F : FnOk P w K mg base (L2.CX P w) k f fd ps sp) : FnOk P w K mg base (CXA P) k f fd ps sp := by
  refine ⟨F.len, fun A outer s H args us vs Q E hr e0 hb hv hs => codeAny_mono (F.run A outer s H args us vs Q E hr e0 hb hv hs) fun r s' h => ?_⟩
  cases r with
  | error e => exact ⟨w, h⟩
  | ok fl => cases fl <;> exact h
/-- the law's own promise -/
theorem law_fn {W : Gam} {T : Nat → Option Fn} {sub : Nat → Nat → Bool} {mg : Str → Option Value} {P : Program} {w : World} {fuel n lf : Nat} {F : Fn} {most : Nat} {fa : Addr} (S : Setup W T sub mg) (hF : T lf = some F) (hps : F.ps = [("script" : Str)]) (hfa : mg F.name = some (.ref fa))
    (hlaw : ∀ ns : List Int, ns.length ≤ most → ∃ M, callF T sub fuel n lf [.ext (ns.map D.int)] [] = .ok (.bl true) M) :
    ∃ (fd : FuncData) (sp : Sp), (∀ (s : Shared) (u : Value), BindsTo s fd ⟨[u], []⟩ [(("script" : Str), u)]) ∧
        (∀ (H : Hp) (a : Addr) (ns : List Int), ns.length ≤ most → Only H → SqL W.K H a (ns.map V.int) → sp [.ref a] H (fun v _ => v = .bl true) fun _ _ _ => False) ∧
        ∀ base : Heap, W.K.In base → base.Ns mainGlobals mg → FnOk P w W.K mg base (CXA P) (3 * n) fa fd [("script" : Str)] sp := by
  obtain ⟨params, scope, fd, FD, sc, B, wf, hm⟩ := S.fns lf F hF
  have e : fa = W.fa lf := by
    rw [hfa] at hm
    cases hm; rfl
  subst e
  obtain ⟨o, lk, od⟩ := FD.at
  refine ⟨fd, fun vs H Q E => vs.length = F.ps.length ∧ spD W (callF T sub fuel n lf) vs H Q E, fun s u => ?_, fun H a ns hl _ hS => ?_, fun base _ _ => ?_⟩
  · have := BindsTo.of_eq (s := s) (B [u] (by rw [hps]; rfl))
    rw [hps] at this
    exact this
  · obtain ⟨M, hM⟩ := hlaw ns hl
    exact ⟨by rw [hps]; rfl, sp_law hS hM⟩
  · obtain ⟨fd', ok', B', kp', o', lk', od'⟩ := fn_all (P := P) (w := w) (base := base) (fuel := fuel) S n lf F hF
    rw [lk] at lk'
    cases lk'
    rw [od] at od'
    cases od'
    have := fn_cxa ok'
    rw [hps] at this ⊢
    exact this
end L2.Z
set_option Elab.async false
set_option linter.all false
set_option maxRecDepth 100000
set_option maxHeartbeats 1000000
/-! ### the text without its places -/
namespace L2.Z
open PySem PySem.Spec PyProof.Rows
def p0 : Pos := ⟨0, 0, 0, 0⟩
def x0 : Str := ⟨#[]⟩
def sc0 : Scope := ⟨.function, [], false, false, []⟩
mutual
def Tg.st : Tg → Tg
  | .nm i _ _ => .nm i x0 p0
  | .tp ts _ _ => .tp (Tg.sts ts) 0 p0
def Tg.sts : List Tg → List Tg
  | [] => []
  | t :: r => t.st :: Tg.sts r
end
def SK.st : SK → SK
  | .one => .one
  | .rng _ _ => .rng p0 p0
  | .zip _ _ => .zip p0 p0
  | .enm _ _ => .enm p0 p0
def Ty.st : Ty → Ty
  | .own c _ => .own c x0
  | t => t
mutual
def E.st : E → E
  | .var i _ _ => .var i x0 p0
  | .cst c _ _ => .cst c 0 p0
  | .gint _ i _ => .gint x0 i p0
  | .gstr _ z _ => .gstr x0 z p0
  | .gfn _ f _ => .gfn x0 f p0
  | .bin o a b _ => .bin o a.st b.st p0
  | .neg a _ => .neg a.st p0
  | .not a _ => .not a.st p0
  | .bop o es _ => .bop o (E.sts es) p0
  | .cmp o a b _ => .cmp o a.st b.st p0
  | .chain o o' a b c _ => .chain o o' a.st b.st c.st p0
  | .ite t a b _ => .ite t.st a.st b.st p0
  | .call f _ _ es _ => .call f x0 p0 (E.sts es) p0
  | .isi a t _ _ _ => .isi a.st t.st p0 p0 p0
  | .blt b _ es _ => .blt b p0 (E.sts es) p0
  | .mth m o _ es _ => .mth m o.st p0 (E.sts es) p0
  | .sub a i _ => .sub a.st i.st p0
  | .slc a lo hi _ _ => .slc a.st (E.sto lo) (E.sto hi) p0 p0
  | .tup es _ _ => .tup (E.sts es) 0 p0
  | .lst es _ => .lst (E.sts es) p0
  | .lc elt tg sk src ifs _ own _ => .lc elt.st tg.st sk.st (E.sts src) (E.sts ifs) sc0 (own.map fun p => (x0, p.2)) p0
  | .live e => .live e.st
  | .srt a _ _ => .srt a.st p0 p0
  | .srk a f _ _ _ _ _ => .srk a.st f x0 p0 p0 p0 p0
def E.sts : List E → List E
  | [] => []
  | e :: r => e.st :: E.sts r
def E.sto : Option E → Option E
  | none => none
  | some e => some e.st
end
mutual
def S.st : S → S
  | .asg tg e _ => .asg tg.st e.st p0
  | .own i _ _ e _ => .own i x0 p0 e.st p0
  | .par i j _ _ _ _ _ a b _ _ _ _ => .par i j x0 x0 p0 p0 p0 a.st b.st p0 p0 0 0
  | .app i _ _ _ e _ _ => .app i x0 p0 p0 e.st p0 p0
  | .exn i _ _ _ e _ _ => .exn i x0 p0 p0 e.st p0 p0
  | .sti a i e _ _ => .sti a.st i.st e.st p0 p0
  | .sto j _ _ i e _ _ => .sto j x0 p0 i.st e.st p0 p0
  | .aug i _ _ o e _ => .aug i x0 p0 o e.st p0
  | .exp e _ => .exp e.st p0
  | .ret e _ => .ret e.st p0
  | .ifs t a b _ => .ifs t.st (S.sts a) (S.sts b) p0
  | .fors tg sk src b _ => .fors tg.st sk.st (E.sts src) (S.sts b) p0
  | .whl t b _ => .whl t.st (S.sts b) p0
  | .rse c _ _ _ _ _ _ _ => .rse c x0 p0 x0 0 p0 p0 p0
  | .tri tg e _ c _ _ i _ j _ _ _ _ _ _ => .tri tg.st e.st p0 c x0 p0 i x0 j x0 p0 p0 p0 p0 p0
  | .frz js s => .frz js s.st
def S.sts : List S → List S
  | [] => []
  | s :: r => s.st :: S.sts r
end
mutual
theorem put_st : ∀ (t : Tg) (d : D) (r : Env), t.st.put d r = t.put d r
  | .nm i x p, d, r => by simp only [Tg.st, Tg.put]
  | .tp ts k p, d, r => by
    have e : (Tg.sts ts).length = ts.length := sts_len ts
    cases d <;> simp only [Tg.st, Tg.put, e, puts_st ts]
theorem puts_st : ∀ (ts : List Tg) (ds : List D) (r : Env), Tg.puts (Tg.sts ts) ds r = Tg.puts ts ds r
  | [], [], r => by simp only [Tg.sts]
  | [], d :: ds, r => by simp only [Tg.sts]
  | t :: ts, [], r => by simp only [Tg.sts, Tg.puts]
  | t :: ts, d :: ds, r => by
    simp only [Tg.sts, Tg.puts, put_st t d r]
    cases Tg.put t d r with
    | none => rfl
    | some r' => exact puts_st ts ds r'
theorem sts_len : ∀ (ts : List Tg), (Tg.sts ts).length = ts.length
  | [] => by simp only [Tg.sts]
  | t :: ts => by simp only [Tg.sts, List.length_cons, sts_len ts]
end
theorem srcD_st (sk : SK) (ds : List D) : srcD sk.st ds = srcD sk ds := by
  cases sk <;> rcases ds with _ | ⟨d, _ | ⟨d', _ | ⟨d'', ds⟩⟩⟩ <;> first | rfl | (cases d <;> first | rfl | (cases d' <;> rfl))
theorem isiD_st (sub : Nat → Nat → Bool) (M : Mem) (t : Ty) (d : D) : isiD sub M t.st d = isiD sub M t d := by
  cases t <;> rfl
section
variable (C : Cfg)
mutual
theorem ev_st : ∀ (e : E) (r : Env), ev C e.st r = ev C e r
  | .var i x p, r => by simp only [E.st, ev]
  | .cst c k p, r => by simp only [E.st, ev]
  | .gint x i p, r => by simp only [E.st, ev]
  | .gstr x z p, r => by simp only [E.st, ev]
  | .gfn x f p, r => by simp only [E.st, ev]
  | .bin o a b p, r => by simp only [E.st, ev, ev_st a, ev_st b]
  | .neg a p, r => by simp only [E.st, ev, ev_st a]
  | .not a p, r => by simp only [E.st, ev, ev_st a]
  | .bop o es p, r => by simp only [E.st, ev, evB_st o es]
  | .cmp o a b p, r => by simp only [E.st, ev, ev_st a, ev_st b]
  | .chain o o' a b c p, r => by simp only [E.st, ev, ev_st a, ev_st b, ev_st c]
  | .ite t a b p, r => by simp only [E.st, ev, ev_st a, ev_st b, ev_st t]
  | .call f x px es p, r => by simp only [E.st, ev, evs_st es]
  | .isi a t px pt p, r => by simp only [E.st, ev, ev_st a, isiD_st]
  | .blt b px es p, r => by simp only [E.st, ev, evx_st es]
  | .mth m o po es p, r => by simp only [E.st, ev, ev_st o, evx_st es]
  | .sub a i p, r => by simp only [E.st, ev, ev_st a, ev_st i]
  | .slc a lo hi ps p, r => by simp only [E.st, ev, ev_st a, evO_st lo, evO_st hi]
  | .tup es k p, r => by simp only [E.st, ev, evs_st es]
  | .lst es p, r => by simp only [E.st, ev, evs_st es]
  | .lc elt tg sk src ifs sc own p, r => by
    have e : (own.map fun q => (x0, q.2)).map (·.2) = own.map (·.2) := by rw [List.map_map]; rfl
    simp only [E.st, ev, evx_st src, srcD_st, e, put_st, evT_st ifs, ev_st elt]
  | .live e, r => by simp only [E.st, ev, ev_st e]
  | .srt a px p, r => by simp only [E.st, ev, ev_st a]
  | .srk a f x pf pk px p, r => by simp only [E.st, ev, ev_st a]
theorem evs_st : ∀ (es : List E) (r : Env), evs C (E.sts es) r = evs C es r
  | [], r => by simp only [E.sts]
  | e :: es, r => by simp only [E.sts, evs, ev_st e, evs_st es]
theorem evx_st : ∀ (es : List E) (r : Env), evx C (E.sts es) r = evx C es r
  | [], r => by simp only [E.sts]
  | e :: es, r => by simp only [E.sts, evx, ev_st e, evx_st es]
theorem evO_st : ∀ (o : Option E) (r : Env), evO C (E.sto o) r = evO C o r
  | none, r => by simp only [E.sto]
  | some e, r => by simp only [E.sto, evO, ev_st e]
theorem evB_st (o : BoolOp) : ∀ (es : List E) (r : Env), evB C o (E.sts es) r = evB C o es r
  | [], r => by simp only [E.sts]
  | [e], r => by simp only [E.sts, evB, ev_st e]
  | e :: e' :: es, r => by
    have h := evB_st o (e' :: es) r
    rw [E.sts]
    conv => lhs; unfold evB
    conv => rhs; unfold evB
    rw [ev_st e, h]
    rfl
theorem evT_st : ∀ (es : List E) (r : Env), evT C (E.sts es) r = evT C es r
  | [], r => by simp only [E.sts]
  | [e], r => by simp only [E.sts, evT, ev_st e]
  | e :: e' :: es, r => by simp only [E.sts, evT]
end
theorem isNew_st : ∀ e : E, isNew e.st = isNew e := by
  intro e
  cases e with
  | bin o a b p => cases o <;> simp only [E.st, isNew]
  | blt b px es p => cases b <;> simp only [E.st, isNew]
  | _ => simp only [E.st, isNew]
mutual
theorem ex_st : ∀ (s : S) (r : Env), ex C s.st r = ex C s r
  | .asg tg e p, r => by simp only [S.st, ex, ev_st C e, put_st]
  | .own i x px e p, r => by simp only [S.st, ex, ev_st C e, isNew_st]
  | .par i j x y px py pt a b pv p k k', r => by
    have h := evs_st C [a, b] r
    simp only [E.sts] at h
    simp only [S.st, ex, h]
  | .app i x px pa e p ps, r => by simp only [S.st, ex, ev_st C e]
  | .exn i x px pa e p ps, r => by simp only [S.st, ex, ev_st C e]
  | .sti a i e pt p, r => by simp only [S.st, ex, ev_st C e, ev_st C a, ev_st C i]
  | .sto j x px i e pt p, r => by simp only [S.st, ex, ev_st C e, ev_st C i]
  | .aug i x px o e p, r => by simp only [S.st, ex, ev_st C e]
  | .exp e p, r => by simp only [S.st, ex, ev_st C e]
  | .ret e p, r => by simp only [S.st, ex, ev_st C e]
  | .ifs t a b p, r => by simp only [S.st, ex, ev_st C t, exs_st a, exs_st b]
  | .fors tg sk src b p, r => by simp only [S.st, ex, evx_st C src, srcD_st, put_st, exs_st b]
  | .whl t b p, r => by simp only [S.st, ex, ev_st C t, exs_st b]
  | .rse c x px m k pm pc p, r => by simp only [S.st, ex]
  | .tri tg e pb c x px i y j z pz py pa ph p, r => by simp only [S.st, ex, ev_st C e, put_st]
  | .frz js s, r => by simp only [S.st, ex, ex_st s]
theorem exs_st : ∀ (ss : List S) (r : Env), exs C (S.sts ss) r = exs C ss r
  | [], r => by simp only [S.sts]
  | s :: ss, r => by simp only [S.sts, exs, ex_st s, exs_st ss]
end
end
/-- a def's run, by its literal text -/
def ends (r : R Fl) : R D := r.bind fun o M1 => match o with
  | .rt d => .ok d M1
  | .nx _ => .ok .non M1
theorem call_lit {T : Nat → Option Fn} {sub : Nat → Nat → Bool} {fuel n f : Nat} {k : Nat} {lit : List S} (hf : (T f).map (fun F => (F.ps.length, F.ns.length, S.sts F.body)) = some (k, m, lit)) (ds : List D) (hd : ds.length = k) (M : Mem) :
    callF T sub fuel (n + 1) f ds M = ends (exs ⟨callF T sub fuel n, sub, fuel⟩ lit (startD m ds) M) := by
  cases q : T f with
  | none => rw [q] at hf; cases hf
  | some F =>
    rw [q] at hf
    have e : (F.ps.length, F.ns.length, S.sts F.body) = (k, m, lit) := Option.some.inj hf
    injection e with e1 e
    injection e with e2 e3
    simp only [callF, q]
    rw [if_pos (by rw [hd, e1]), ← e3, exs_st, e2]
    rfl
end L2.Z
set_option Elab.async false
set_option linter.all false
set_option maxRecDepth 100000
set_option maxHeartbeats 1000000
/-! ### runs of defs, as plain functions: one rule for each form of the text -/
namespace L2.Z
open PySem
def Has (T : Nat → Option Fn) (f k m : Nat) (lit : List S) : Prop := (T f).map (fun F => (F.ps.length, F.ns.length, S.sts F.body)) = some (k, m, lit)
/-- a call that gives a value and changes nothing -/
def Cal (T : Nat → Option Fn) (sub : Nat → Nat → Bool) (fuel k f : Nat) (args : List D) (res : D) : Prop := ∀ n, k ≤ n → ∀ M, callF T sub fuel n f args M = .ok res M
theorem Cal.mono {T : Nat → Option Fn} {sub : Nat → Nat → Bool} {fuel k j f : Nat} {args : List D} {res : D} (h : Cal T sub fuel k f args res) (hk : k ≤ j) : Cal T sub fuel j f args res := fun n hn M => h n (Nat.le_trans hk hn) M
theorem run {T : Nat → Option Fn} {sub : Nat → Nat → Bool} {fuel n f k m : Nat} {lit : List S} (hf : Has T f k m lit) (ds : List D) (hd : ds.length = k) (M : Mem) :
    callF T sub fuel (n + 1) f ds M = ends (exs ⟨callF T sub fuel n, sub, fuel⟩ lit (startD m ds) M) := call_lit hf ds hd M
theorem cal_of {T : Nat → Option Fn} {sub : Nat → Nat → Bool} {fuel k f a m : Nat} {lit : List S} {args : List D} {res : D} (hf : Has T f a m lit) (hd : args.length = a)
    (h : ∀ n, k ≤ n → ∀ M, ends (exs ⟨callF T sub fuel n, sub, fuel⟩ lit (startD m args) M) = .ok res M) : Cal T sub fuel (k + 1) f args res := by
  intro n hn M
  obtain ⟨j, rfl⟩ : ∃ j, n = j + 1 := ⟨n - 1, by omega⟩
  rw [run hf args hd]
  exact h j (by omega) M
theorem bind_ok {α β : Type} (a : α) (M : Mem) (f : α → Ev β) : (R.ok a M).bind f = f a M := rfl
theorem bind_exc {α β : Type} (c : Nat) (M : Mem) (f : α → Ev β) : (R.exc c M : R α).bind f = .exc c M := rfl
theorem bind_bad {α β : Type} (f : α → Ev β) : (R.bad : R α).bind f = .bad := rfl
theorem kept_ok {d : D} (h : nown d = true) (M : Mem) : kept d M = .ok d M := by unfold kept; rw [if_pos h]
theorem ret_some (d : D) (M : Mem) : ret (some d) M = .ok d M := rfl
theorem retB_some (b : Bool) (M : Mem) : retB (some b) M = .ok (.bl b) M := rfl
theorem retL_some (d : List D) (M : Mem) : retL (some d) M = .ok d M := rfl
theorem retE_some (r : Env) (M : Mem) : retE (some r) M = .ok (.nx r) M := rfl
theorem ends_rt (d : D) (M : Mem) : ends (.ok (.rt d) M) = .ok d M := rfl
theorem ends_nx (r : Env) (M : Mem) : ends (.ok (.nx r) M) = .ok .non M := rfl
theorem ends_exc (c : Nat) (M : Mem) : ends (.exc c M) = .exc c M := rfl
section
variable (C : Cfg) (r : Env) (M : Mem)
/-! loops and comprehensions stay folded -/
def whlW (t : E) (b : List S) (n : Nat) : Ev Fl := whlE (fun r => ev C t r) (fun r => exs C b r) n r M |> fun q _ => q
def forW (tg : Tg) (b : List S) (ds : List D) : R Fl := forE (fun d r => fun M => (match tg.put d r with
      | some r' => exs C b r' M
      | none => .bad)) ds r M
def lcW (elt : E) (tg : Tg) (ifs : List E) (own : List Nat) (ds : List D) : R (List D) := mapE (fun d => calm fun M => (match tg.put d (wipeD r own) with
      | some r' => (evT C ifs r' M).bind fun b M2 => (match b with
        | true => (ev C elt r' M2).bind fun y M3 => (kept y M3).bind fun y M4 => .ok (some y) M4
        | false => .ok none M2)
      | none => .bad)) ds M
theorem ev_var (i x p) : ev C (.var i x p) r M = (match r[i]? with
    | some (some d) => .ok d M
    | _ => .bad) := by rw [ev] <;> rfl
theorem ev_cst (c k p) : ev C (.cst c k p) r M = ret (cstD c) M := by rw [ev]
theorem ev_gint (x i p) : ev C (.gint x i p) r M = .ok (.int i) M := by rw [ev]
theorem ev_gstr (x z p) : ev C (.gstr x z p) r M = .ok (.str z) M := by rw [ev]
theorem ev_gfn (x f p) : ev C (.gfn x f p) r M = .ok (.fn f) M := by rw [ev]
theorem ev_bin (o a b p) : ev C (.bin o a b p) r M = (ev C a r M).bind fun x M1 => (ev C b r M1).bind fun y M2 => ret (binD o M2 x y) M2 := by rw [ev]
theorem ev_neg (a p) : ev C (.neg a p) r M = (ev C a r M).bind fun x M1 => (match x with
    | .int i => .ok (.int (-i)) M1
    | _ => .bad) := by rw [ev] <;> rfl
theorem ev_not (a p) : ev C (.not a p) r M = (ev C a r M).bind fun x M1 => (match x with
    | .bl b => .ok (.bl (!b)) M1
    | _ => .bad) := by rw [ev] <;> rfl
theorem ev_bop (o es p) : ev C (.bop o es p) r M = evB C o es r M := by rw [ev]
theorem ev_cmp (o a b p) : ev C (.cmp o a b p) r M = (ev C a r M).bind fun x M1 => (ev C b r M1).bind fun y M2 => retB (cmpD o M2 x y) M2 := by rw [ev]
theorem ev_chain (o o' a b c p) : ev C (.chain o o' a b c p) r M = (ev C a r M).bind fun x M1 => (ev C b r M1).bind fun y M2 => (match cmpD o M2 x y with
    | some true => (ev C c r M2).bind fun z M3 => retB (cmpD o' M3 y z) M3
    | some false => .ok (.bl false) M2
    | none => .bad) := by rw [ev] <;> rfl
theorem ev_ite (t a b p) : ev C (.ite t a b p) r M = (ev C t r M).bind fun x M1 => (match x with
    | .bl true => ev C a r M1
    | .bl false => ev C b r M1
    | _ => .bad) := by rw [ev] <;> rfl
theorem ev_call (f x px es p) : ev C (.call f x px es p) r M = (evs C es r M).bind fun ds M1 => C.call f ds M1 := by rw [ev]
theorem ev_isi (a t px pt p) : ev C (.isi a t px pt p) r M = (ev C a r M).bind fun x M1 => retB (isiD C.sub M1 t x) M1 := by rw [ev]
theorem ev_blt (b px es p) : ev C (.blt b px es p) r M = (evx C es r M).bind fun ds M1 => ret (bltD b M1 ds) M1 := by rw [ev]
theorem ev_mth (m o po es p) : ev C (.mth m o po es p) r M = (ev C o r M).bind fun x M1 => if (litems x).isSome then (evx C es r M1).bind fun ds M2 => ret (mthD m x ds) M2 else .bad := by rw [ev]
theorem ev_sub (a i p) : ev C (.sub a i p) r M = (ev C a r M).bind fun x M1 => (ev C i r M1).bind fun y M2 => ret (subD M2 x y) M2 := by rw [ev]
theorem ev_slc (a lo hi ps p) : ev C (.slc a lo hi ps p) r M = (ev C a r M).bind fun x M1 => (evO C lo r M1).bind fun l M2 => (evO C hi r M2).bind fun h M3 => ret (slcD M3 x l h) M3 := by rw [ev]
theorem ev_tup (es k p) : ev C (.tup es k p) r M = (evs C es r M).bind fun ds M1 => ret (if ds.length ≤ sizeLine then some (.tup ds) else none) M1 := by rw [ev]
theorem ev_lst (es p) : ev C (.lst es p) r M = (evs C es r M).bind fun ds M1 => ret (if ds.length ≤ sizeLine then some (.lst ds) else none) M1 := by rw [ev]
theorem ev_lc (elt tg sk src ifs sc own p) : ev C (.lc elt tg sk src ifs sc own p) r M = ((evx C src r M).bind fun ss M1 => retL (srcD sk ss) M1).bind fun ds M1 => (lcW C r M1 elt tg ifs (own.map (·.2)) ds).bind fun ys M5 => ret (if ys.length ≤ sizeLine then some (.lst ys) else none) M5 := by rw [ev] <;> rfl
theorem ev_live (e) : ev C (.live e) r M = (ev C e r M).bind fun x M1 => (match x with
    | .lst xs => .ok (.ref M1.length) (M1 ++ [.lst xs])
    | _ => .bad) := by rw [ev] <;> rfl
theorem ev_srt (a px p) : ev C (.srt a px p) r M = (ev C a r M).bind fun x M1 => ret (srtD M1 x) M1 := by rw [ev]
theorem ev_srk (a f x pf pk px p) : ev C (.srk a f x pf pk px p) r M = (ev C a r M).bind fun x M1 => srkE (C.call f) x M1 := by rw [ev]
theorem evs_nil : evs C [] r M = .ok [] M := by rw [evs]
theorem evs_cons (e es) : evs C (e :: es) r M = (ev C e r M).bind fun x M1 => (kept x M1).bind fun x M2 => (evs C es r M2).bind fun xs M3 => .ok (x :: xs) M3 := by rw [evs]
theorem evx_nil : evx C [] r M = .ok [] M := by rw [evx]
theorem evx_cons (e es) : evx C (e :: es) r M = (ev C e r M).bind fun x M1 => (evx C es r M1).bind fun xs M3 => .ok (x :: xs) M3 := by rw [evx]
theorem evO_none : evO C none r M = .ok none M := by rw [evO]
theorem evO_some (e) : evO C (some e) r M = (ev C e r M).bind fun x M1 => (match x with
    | .int i => .ok (some i) M1
    | _ => .bad) := by rw [evO] <;> rfl
theorem evB_one (o e) : evB C o [e] r M = ev C e r M := by rw [evB]
theorem evB_and (e e' es) : evB C .And (e :: e' :: es) r M = (ev C e r M).bind fun x M1 => (match x with
      | .bl true => evB C .And (e' :: es) r M1
      | .bl false => .ok (.bl false) M1
      | _ => .bad) := by
  rw [evB]
  dsimp only
  congr 1
  funext x M1
  cases x <;> first | rfl | (rename_i b; cases b <;> rfl)
theorem evB_or (e e' es) : evB C .Or (e :: e' :: es) r M = (ev C e r M).bind fun x M1 => (match x with
      | .bl true => .ok (.bl true) M1
      | .bl false => evB C .Or (e' :: es) r M1
      | _ => .bad) := by
  rw [evB]
  dsimp only
  congr 1
  funext x M1
  cases x <;> first | rfl | (rename_i b; cases b <;> rfl)
theorem evT_nil : evT C [] r M = .ok true M := by rw [evT]
theorem evT_one (e) : evT C [e] r M = (ev C e r M).bind fun x M1 => (match x with
      | .bl b => .ok b M1
      | _ => .bad) := by rw [evT] <;> rfl
theorem exs_nil : exs C [] r M = .ok (.nx r) M := by rw [exs]
/-- behind a statement -/
def nxt (ss : List S) (q : R Fl) : R Fl := q.bind fun o M1 => match o with
    | .nx r' => exs C ss r' M1
    | .rt d => .ok (.rt d) M1
theorem exs_cons (s ss) : exs C (s :: ss) r M = nxt C ss (ex C s r M) := by rw [exs] <;> rfl
theorem nxt_nx (ss) : nxt C ss (.ok (.nx r) M) = exs C ss r M := rfl
theorem nxt_rt (ss d) : nxt C ss (.ok (.rt d) M) = .ok (.rt d) M := rfl
theorem nxt_exc (ss c) : nxt C ss (.exc c M) = .exc c M := rfl
theorem ex_asg (tg e p) : ex C (.asg tg e p) r M = (ev C e r M).bind fun x M1 => (kept x M1).bind fun x M2 => retE (tg.put x r) M2 := by rw [ex]
theorem ex_own (i x px e p) : ex C (.own i x px e p) r M = if isNew e then (ev C e r M).bind fun x M1 => (match x with
    | .lst xs => .ok (.nx (r.set i (some (.own xs)))) M1
    | _ => .bad) else .bad := by rw [ex] <;> rfl
theorem ex_par (i j x y px py pt a b pv p k k') : ex C (.par i j x y px py pt a b pv p k k') r M = (evs C [a, b] r M).bind fun ds M1 => (match ds with
    | [x, y] => .ok (.nx ((r.set i (some x)).set j (some y))) M1
    | _ => .bad) := by rw [ex] <;> rfl
theorem ex_app (i x px pa e p ps) : ex C (.app i x px pa e p ps) r M = (match r[i]? with
    | some (some (.own xs)) => (ev C e r M).bind fun x M1 => (kept x M1).bind fun x M2 => if xs.length < sizeLine then .ok (.nx (r.set i (some (.own (xs ++ [x]))))) M2 else .bad
    | _ => .bad) := by rw [ex] <;> rfl
theorem ex_exn (i x px pa e p ps) : ex C (.exn i x px pa e p ps) r M = (match r[i]? with
    | some (some (.own xs)) => (ev C e r M).bind fun x M1 => (match x with
      | .lst ys => if xs.length + ys.length ≤ sizeLine then .ok (.nx (r.set i (some (.own (xs ++ ys))))) M1 else .bad
      | _ => .bad)
    | _ => .bad) := by rw [ex] <;> rfl
theorem ex_sti (a i e pt p) : ex C (.sti a i e pt p) r M = (ev C e r M).bind fun x M1 => (kept x M1).bind fun x M2 => (ev C a r M2).bind fun o M3 => (ev C i r M3).bind fun k M4 => (match o, k with
    | .ref q, .int k => (match M4[q]? with
      | some (.lst xs) => (match ixN xs.length k with
        | some j => .ok (.nx r) (M4.set q (.lst (xs.set j x)))
        | none => .bad)
      | _ => .bad)
    | _, _ => .bad) := by rw [ex] <;> rfl
theorem ex_sto (j x px i e pt p) : ex C (.sto j x px i e pt p) r M = (ev C e r M).bind fun x M1 => (kept x M1).bind fun x M2 => (match r[j]? with
    | some (some (.own xs)) => (ev C i r M2).bind fun k M3 => (match k with
      | .int k => (match ixN xs.length k with
        | some n => .ok (.nx (r.set j (some (.own (xs.set n x))))) M3
        | none => .bad)
      | _ => .bad)
    | _ => .bad) := by rw [ex] <;> rfl
theorem ex_aug (i x px o e p) : ex C (.aug i x px o e p) r M = (match r[i]? with
    | some (some (.int k)) => (ev C e r M).bind fun x M1 => retE ((augD o k x).map fun d => r.set i (some (.int d))) M1
    | _ => .bad) := by rw [ex] <;> rfl
theorem ex_exp (e p) : ex C (.exp e p) r M = (ev C e r M).bind fun _ M1 => .ok (.nx r) M1 := by rw [ex]
theorem ex_ret (e p) : ex C (.ret e p) r M = (ev C e r M).bind fun x M1 => (kept x M1).bind fun x M2 => .ok (.rt x) M2 := by rw [ex]
theorem ex_ifs (t a b p) : ex C (.ifs t a b p) r M = (ev C t r M).bind fun x M1 => (match x with
    | .bl true => exs C a r M1
    | .bl false => exs C b r M1
    | _ => .bad) := by rw [ex] <;> rfl
theorem ex_fors (tg sk src b p) : ex C (.fors tg sk src b p) r M = ((evx C src r M).bind fun ss M1 => if ss.all nown then retL (srcD sk ss) M1 else .bad).bind fun ds M1 => forW C r M1 tg b ds := by rw [ex] <;> rfl
theorem ex_whl (t b p) : ex C (.whl t b p) r M = whlW C r M t b C.fuel M := by rw [ex] <;> rfl
theorem ex_rse (c x px m k pm pc p) : ex C (.rse c x px m k pm pc p) r M = .exc c M := by rw [ex]
theorem ex_tri (tg e pb c x px i y j z pz py pa ph p) : ex C (.tri tg e pb c x px i y j z pz py pa ph p) r M = (match (ev C e r M).bind fun x M1 => (kept x M1).bind fun x M2 => retE (tg.put x r) M2 with
    | .exc c' M1 => if C.sub c' c then .ok (.nx ((r.set j (some (.exc c'))).set i none)) M1 else .bad
    | q => q) := by rw [ex] <;> rfl
theorem ex_frz (js s) : ex C (.frz js s) r M = ex C s (fzs r js) M := by rw [ex]
/-! loops, turn by turn -/
theorem forW_nil (tg b) : forW C r M tg b [] = .ok (.nx r) M := rfl
theorem forW_cons (tg b d ds) : forW C r M tg b (d :: ds) = ((match tg.put d r with
      | some r' => exs C b r' M
      | none => .bad) : R Fl).bind fun o M1 => (match o with
    | .nx r' => forW C r' M1 tg b ds
    | .rt d => .ok (.rt d) M1) := rfl
theorem whlW_succ (t b n) (M' : Mem) : whlW C r M t b (n + 1) M' = (ev C t r M).bind fun x M1 => (match x with
    | .bl true => (exs C b r M1).bind fun o M2 => (match o with
      | .nx r' => whlW C r' M2 t b n M2
      | .rt d => .ok (.rt d) M2)
    | .bl false => .ok (.nx r) M1
    | _ => .bad) := rfl
theorem lcW_nil (elt tg ifs own) : lcW C r M elt tg ifs own [] = .ok [] M := rfl
end
/-- a comprehension all of whose turns give a value -/
theorem lcW_map {C : Cfg} {r : Env} {M : Mem} {elt : E} {tg : Tg} {ifs : List E} {own : List Nat} (f : D → D) : ∀ (ds : List D), (∀ d ∈ ds, ∃ r', tg.put d (wipeD r own) = some r' ∧ evT C ifs r' M = .ok true M ∧ ev C elt r' M = .ok (f d) M ∧ nown (f d) = true) → lcW C r M elt tg ifs own ds = .ok (ds.map f) M
  | [], _ => rfl
  | d :: ds, h => by
    obtain ⟨r', h1, h2, h3, h4⟩ := h d List.mem_cons_self
    have ih := lcW_map (C := C) (r := r) (M := M) (elt := elt) (tg := tg) (ifs := ifs) (own := own) f ds fun d hd => h d (List.mem_cons_of_mem _ hd)
    unfold lcW at ih ⊢
    rw [mapE]
    simp only [calm, h1, h2, h3, bind_ok, kept_ok h4, ih, List.map_cons]
/-- .. some of which are left out -/
theorem lcW_filter {C : Cfg} {r : Env} {M : Mem} {elt : E} {tg : Tg} {ifs : List E} {own : List Nat} (g : D → Bool) (f : D → D) : ∀ (ds : List D), (∀ d ∈ ds, ∃ r', tg.put d (wipeD r own) = some r' ∧ evT C ifs r' M = .ok (g d) M ∧ (g d = true → ev C elt r' M = .ok (f d) M ∧ nown (f d) = true)) → lcW C r M elt tg ifs own ds = .ok ((ds.filter g).map f) M
  | [], _ => rfl
  | d :: ds, h => by
    obtain ⟨r', h1, h2, h3⟩ := h d List.mem_cons_self
    have ih := lcW_filter (C := C) (r := r) (M := M) (elt := elt) (tg := tg) (ifs := ifs) (own := own) g f ds fun d hd => h d (List.mem_cons_of_mem _ hd)
    unfold lcW at ih ⊢
    rw [mapE]
    cases hg : g d with
    | true =>
      obtain ⟨h4, h5⟩ := h3 hg
      simp only [calm, h1, h2, hg, h4, bind_ok, kept_ok h5, if_true, ih, List.filter_cons, List.map_cons]
    | false =>
      simp only [calm, h1, h2, hg, bind_ok, ih, List.filter_cons, Bool.false_eq_true, if_false]
/-- a walk all of whose turns go on -/
theorem forW_fold {C : Cfg} {M : Mem} {tg : Tg} {b : List S} {σ : Type} (emb : σ → Env) (f : σ → D → σ) : ∀ (ds : List D) (s : σ), (∀ s, ∀ d ∈ ds, ∃ r', tg.put d (emb s) = some r' ∧ exs C b r' M = .ok (.nx (emb (f s d))) M) → forW C (emb s) M tg b ds = .ok (.nx (emb (ds.foldl f s))) M
  | [], s, _ => rfl
  | d :: ds, s, h => by
    obtain ⟨r', h1, h2⟩ := h s d List.mem_cons_self
    rw [forW_cons, h1]
    dsimp only
    rw [h2, bind_ok]
    exact forW_fold emb f ds (f s d) fun s d hd => h s d (List.mem_cons_of_mem _ hd)
end L2.Z
set_option Elab.async false
set_option linter.all false
set_option maxRecDepth 100000
set_option maxHeartbeats 1000000
/-! ### values; portions -/
namespace L2.Z
open PySem
section
variable (M : Mem)
theorem kept_int (i) : kept (.int i) M = .ok (.int i) M := rfl
theorem kept_bl (i) : kept (.bl i) M = .ok (.bl i) M := rfl
theorem kept_str (i) : kept (.str i) M = .ok (.str i) M := rfl
theorem kept_non : kept .non M = .ok .non M := rfl
theorem kept_tup (i) : kept (.tup i) M = .ok (.tup i) M := rfl
theorem kept_lst (i) : kept (.lst i) M = .ok (.lst i) M := rfl
theorem kept_ext (i) : kept (.ext i) M = .ok (.ext i) M := rfl
theorem kept_ref (i) : kept (.ref i) M = .ok (.ref i) M := rfl
theorem kept_fn (i) : kept (.fn i) M = .ok (.fn i) M := rfl
theorem kept_exc (i) : kept (.exc i) M = .ok (.exc i) M := rfl
theorem cmp_eq_int (i j) : cmpD .Eq M (.int i) (.int j) = some (i == j) := by simp [cmpD, nrm, lview, shD, pyOk, dep, eqD]
theorem cmp_ne_int (i j) : cmpD .NotEq M (.int i) (.int j) = some (!(i == j)) := by simp [cmpD, nrm, lview, shD, pyOk, dep, eqD]
theorem cmp_lt_int (i j) : cmpD .Lt M (.int i) (.int j) = some (decide (i < j)) := rfl
theorem cmp_le_int (i j) : cmpD .LtE M (.int i) (.int j) = some (decide (i ≤ j)) := rfl
theorem cmp_gt_int (i j) : cmpD .Gt M (.int i) (.int j) = some (decide (j < i)) := rfl
theorem cmp_ge_int (i j) : cmpD .GtE M (.int i) (.int j) = some (decide (j ≤ i)) := rfl
end
theorem len6 (n : Nat) (h : n ≤ 1000) : (n ≤ sizeLine) = True := by
  have : 1000 ≤ sizeLine := by decide
  exact eq_true (Nat.le_trans h this)
def L_common : List S := [
  .whl (.cmp .NotEq (.var 1 x0 p0) (.cst (.int 0) 0 p0) p0) [.par 0 1 x0 x0 p0 p0 p0 (.var 1 x0 p0) (.bin .Mod (.var 0 x0 p0) (.var 1 x0 p0) p0) p0 p0 0 0] p0,
  .ret (.var 0 x0 p0) p0]
def L_share (common : Nat) : List S := [
  .asg (.nm 2 x0 p0) (.call common x0 p0 [(.blt .abs p0 [(.var 0 x0 p0)] p0), (.var 1 x0 p0)] p0) p0,
  .ret (.tup [(.bin .FloorDiv (.var 0 x0 p0) (.var 2 x0 p0) p0), (.bin .FloorDiv (.var 1 x0 p0) (.var 2 x0 p0) p0)] 0 p0) p0]
section
variable {T : Nat → Option Fn} {sub : Nat → Nat → Bool} {fuel : Nat}
theorem mod_int (M : Mem) (i j : Int) (h : 0 < j) : binD .Mod M (.int i) (.int j) = some (.int (i % j)) := by simp [binD, h]
theorem gcd_loop (C : Cfg) : ∀ (b : Nat) (a : Nat) (n : Nat) (M : Mem), b < n → whlW C [some (.int a), some (.int b)] M (.cmp .NotEq (.var 1 x0 p0) (.cst (.int 0) 0 p0) p0) [.par 0 1 x0 x0 p0 p0 p0 (.var 1 x0 p0) (.bin .Mod (.var 0 x0 p0) (.var 1 x0 p0) p0) p0 p0 0 0] n M = .ok (.nx [some (.int (Nat.gcd a b)), some (.int 0)]) M
  | b, a, 0, M, h => by omega
  | 0, a, n + 1, M, h => by
    rw [whlW_succ]
    simp only [ends_rt, ends_nx, ends_exc, bind_ok, bind_exc, ret_some, retB_some, retL_some, retE_some, ev_var, ev_cst, ev_gint, ev_gstr, ev_gfn, ev_bin, ev_neg, ev_not, ev_bop, ev_cmp, ev_chain, ev_ite, ev_call, ev_isi, ev_blt, ev_mth, ev_sub, ev_slc, ev_tup, ev_lst, ev_lc, ev_live, ev_srt, ev_srk, evs_nil, evs_cons, evx_nil, evx_cons, evO_none, evO_some, evB_one, evB_and, evB_or, evT_nil, evT_one, exs_nil, exs_cons, nxt_nx, nxt_rt, nxt_exc, ex_asg, ex_own, ex_par, ex_app, ex_exn, ex_sti, ex_sto, ex_aug, ex_exp, ex_ret, ex_ifs, ex_fors, ex_whl, ex_rse, ex_tri, ex_frz, cstD, Tg.put, Tg.puts, startD, wipeD, kept_int, kept_bl, kept_str, kept_non, kept_tup, kept_lst, kept_ext, kept_ref, kept_fn, kept_exc, cmp_eq_int, cmp_ne_int, cmp_lt_int, cmp_le_int, cmp_gt_int, cmp_ge_int, List.map_cons, List.map_nil, List.length_cons, List.length_nil, Nat.reduceAdd, Nat.reduceSub, Nat.reduceLeDiff, List.replicate, List.cons_append, List.nil_append, List.append_nil, List.getElem?_cons_zero, List.getElem?_cons_succ, List.getElem?_nil, List.set_cons_zero, List.set_cons_succ, List.all_cons, List.all_nil, nown, Bool.and_true, Bool.true_and, Bool.and_false, Bool.false_and, if_true, if_false, Bool.false_eq_true, Bool.not_true, Bool.not_false, reduceIte, len6, Int.cast_ofNat_Int, beq_self_eq_true, Int.reduceBEq, Int.reduceAdd, Int.reduceNeg, decide_true, decide_false, Int.reduceLT, Int.reduceLE, Int.reduceToNat]
    simp
  | b + 1, a, n + 1, M, h => by
    have h2 : (0 : Int) < ((b + 1 : Nat) : Int) := by omega
    have h1 : (((b + 1 : Nat) : Int) == 0) = false := by simp; omega
    have e : ((a : Int) % ((b + 1 : Nat) : Int)) = ((a % (b + 1) : Nat) : Int) := by simp
    have ih := gcd_loop C (a % (b + 1)) (b + 1) n M (by have : a % (b + 1) < b + 1 := Nat.mod_lt a (Nat.succ_pos b); omega)
    rw [whlW_succ]
    simp only [ends_rt, ends_nx, ends_exc, bind_ok, bind_exc, ret_some, retB_some, retL_some, retE_some, ev_var, ev_cst, ev_gint, ev_gstr, ev_gfn, ev_bin, ev_neg, ev_not, ev_bop, ev_cmp, ev_chain, ev_ite, ev_call, ev_isi, ev_blt, ev_mth, ev_sub, ev_slc, ev_tup, ev_lst, ev_lc, ev_live, ev_srt, ev_srk, evs_nil, evs_cons, evx_nil, evx_cons, evO_none, evO_some, evB_one, evB_and, evB_or, evT_nil, evT_one, exs_nil, exs_cons, nxt_nx, nxt_rt, nxt_exc, ex_asg, ex_own, ex_par, ex_app, ex_exn, ex_sti, ex_sto, ex_aug, ex_exp, ex_ret, ex_ifs, ex_fors, ex_whl, ex_rse, ex_tri, ex_frz, cstD, Tg.put, Tg.puts, startD, wipeD, kept_int, kept_bl, kept_str, kept_non, kept_tup, kept_lst, kept_ext, kept_ref, kept_fn, kept_exc, cmp_eq_int, cmp_ne_int, cmp_lt_int, cmp_le_int, cmp_gt_int, cmp_ge_int, List.map_cons, List.map_nil, List.length_cons, List.length_nil, Nat.reduceAdd, Nat.reduceSub, Nat.reduceLeDiff, List.replicate, List.cons_append, List.nil_append, List.append_nil, List.getElem?_cons_zero, List.getElem?_cons_succ, List.getElem?_nil, List.set_cons_zero, List.set_cons_succ, List.all_cons, List.all_nil, nown, Bool.and_true, Bool.true_and, Bool.and_false, Bool.false_and, if_true, if_false, Bool.false_eq_true, Bool.not_true, Bool.not_false, reduceIte, len6, Int.cast_ofNat_Int, beq_self_eq_true, Int.reduceBEq, Int.reduceAdd, Int.reduceNeg, decide_true, decide_false, Int.reduceLT, Int.reduceLE, Int.reduceToNat, h1, mod_int _ _ _ h2, e, ih]
    rw [Nat.gcd_comm a (b + 1), Nat.gcd_rec (b + 1) a, Nat.gcd_comm]
theorem run_common {f : Nat} (h : Has T f 2 2 L_common) (a b : Nat) (hb : b < fuel) : Cal T sub fuel 1 f [.int a, .int b] (.int (Nat.gcd a b)) := by
  refine cal_of (k := 0) h rfl fun n _ M => ?_
  unfold L_common
  simp only [ends_rt, ends_nx, ends_exc, bind_ok, bind_exc, ret_some, retB_some, retL_some, retE_some, ev_var, ev_cst, ev_gint, ev_gstr, ev_gfn, ev_bin, ev_neg, ev_not, ev_bop, ev_cmp, ev_chain, ev_ite, ev_call, ev_isi, ev_blt, ev_mth, ev_sub, ev_slc, ev_tup, ev_lst, ev_lc, ev_live, ev_srt, ev_srk, evs_nil, evs_cons, evx_nil, evx_cons, evO_none, evO_some, evB_one, evB_and, evB_or, evT_nil, evT_one, exs_nil, exs_cons, nxt_nx, nxt_rt, nxt_exc, ex_asg, ex_own, ex_par, ex_app, ex_exn, ex_sti, ex_sto, ex_aug, ex_exp, ex_ret, ex_ifs, ex_fors, ex_whl, ex_rse, ex_tri, ex_frz, cstD, Tg.put, Tg.puts, startD, wipeD, kept_int, kept_bl, kept_str, kept_non, kept_tup, kept_lst, kept_ext, kept_ref, kept_fn, kept_exc, cmp_eq_int, cmp_ne_int, cmp_lt_int, cmp_le_int, cmp_gt_int, cmp_ge_int, List.map_cons, List.map_nil, List.length_cons, List.length_nil, Nat.reduceAdd, Nat.reduceSub, Nat.reduceLeDiff, List.replicate, List.cons_append, List.nil_append, List.append_nil, List.getElem?_cons_zero, List.getElem?_cons_succ, List.getElem?_nil, List.set_cons_zero, List.set_cons_succ, List.all_cons, List.all_nil, nown, Bool.and_true, Bool.true_and, Bool.and_false, Bool.false_and, if_true, if_false, Bool.false_eq_true, Bool.not_true, Bool.not_false, reduceIte, len6, Int.cast_ofNat_Int, beq_self_eq_true, Int.reduceBEq, Int.reduceAdd, Int.reduceNeg, decide_true, decide_false, Int.reduceLT, Int.reduceLE, Int.reduceToNat, gcd_loop _ _ _ _ _ hb]
/-- a portion -/
def rd (q : Rat) : D := .tup [.int q.num, .int q.den]
/-- not too great for the machine -/
structure Tame (q : Rat) : Prop where
  num : q.num.natAbs < 2 ^ 2000
  den : q.den < 2 ^ 2000
def FUEL : Nat := 2 ^ 5000
theorem log2_lt' {n k : Nat} (h : n < 2 ^ k) (hk : 0 < k) : n.log2 < k := by
  by_cases h0 : n = 0
  · subst h0; simpa using hk
  · exact (Nat.log2_lt h0).mpr h
theorem mul_int (M : Mem) (i j : Int) (hi : i.natAbs < 2 ^ 100000) (hj : j.natAbs < 2 ^ 100000) : binD .Mult M (.int i) (.int j) = some (.int (i * j)) := by
  have h1 := log2_lt' hi (by omega)
  have h2 := log2_lt' hj (by omega)
  have : mulOk i j = true := by
    unfold mulOk
    exact decide_eq_true (by omega)
  simp only [binD, mulD, this, if_true]
theorem div_int (M : Mem) (i j : Int) (hj : 0 < j) (hb : j.natAbs < 2 ^ 8000) : binD .FloorDiv M (.int i) (.int j) = some (.int (i / j)) := by
  have h1 := log2_lt' hb (by omega)
  have : divOk j = true := by
    unfold divOk
    simp only [hj, decide_true, Bool.true_and]
    exact decide_eq_true (by omega)
  simp only [binD, this, if_true]
theorem add_int (M : Mem) (i j : Int) : binD .Add M (.int i) (.int j) = some (.int (i + j)) := rfl
theorem sub_int (M : Mem) (i j : Int) : binD .Sub M (.int i) (.int j) = some (.int (i - j)) := rfl
theorem abs_int (M : Mem) (i : Int) : bltD .abs M [.int i] = some (.int i.natAbs) := by
  simp only [bltD]
  congr 2
  split <;> omega
theorem run_share {f fc : Nat} (hc : Has T fc 2 2 L_common) (h : Has T f 2 3 (L_share fc)) (t : Int) (b : Nat) (hb : 0 < b) (hz : b < 2 ^ 4500) : Cal T sub FUEL 2 f [.int t, .int b] (rd (mkRat t b)) := by
  refine cal_of (k := 1) h rfl fun n hn M => ?_
  have hfu : b < FUEL := Nat.lt_trans hz (Nat.pow_lt_pow_right (by decide) (by decide))
  have hg : 0 < Nat.gcd t.natAbs b := Nat.gcd_pos_of_pos_right _ hb
  have hg2 : ((Nat.gcd t.natAbs b : Nat) : Int).natAbs < 2 ^ 8000 := by
    have h1 : Nat.gcd t.natAbs b ≤ b := Nat.gcd_le_right _ hb
    have h2 : (2 : Nat) ^ 4500 ≤ 2 ^ 8000 := Nat.pow_le_pow_right (by decide) (by decide)
    simp only [Int.natAbs_natCast]
    omega
  unfold L_share
  simp only [ends_rt, ends_nx, ends_exc, bind_ok, bind_exc, ret_some, retB_some, retL_some, retE_some, ev_var, ev_cst, ev_gint, ev_gstr, ev_gfn, ev_bin, ev_neg, ev_not, ev_bop, ev_cmp, ev_chain, ev_ite, ev_call, ev_isi, ev_blt, ev_mth, ev_sub, ev_slc, ev_tup, ev_lst, ev_lc, ev_live, ev_srt, ev_srk, evs_nil, evs_cons, evx_nil, evx_cons, evO_none, evO_some, evB_one, evB_and, evB_or, evT_nil, evT_one, exs_nil, exs_cons, nxt_nx, nxt_rt, nxt_exc, ex_asg, ex_own, ex_par, ex_app, ex_exn, ex_sti, ex_sto, ex_aug, ex_exp, ex_ret, ex_ifs, ex_fors, ex_whl, ex_rse, ex_tri, ex_frz, cstD, Tg.put, Tg.puts, startD, wipeD, kept_int, kept_bl, kept_str, kept_non, kept_tup, kept_lst, kept_ext, kept_ref, kept_fn, kept_exc, cmp_eq_int, cmp_ne_int, cmp_lt_int, cmp_le_int, cmp_gt_int, cmp_ge_int, List.map_cons, List.map_nil, List.length_cons, List.length_nil, Nat.reduceAdd, Nat.reduceSub, Nat.reduceLeDiff, List.replicate, List.cons_append, List.nil_append, List.append_nil, List.getElem?_cons_zero, List.getElem?_cons_succ, List.getElem?_nil, List.set_cons_zero, List.set_cons_succ, List.all_cons, List.all_nil, nown, Bool.and_true, Bool.true_and, Bool.and_false, Bool.false_and, if_true, if_false, Bool.false_eq_true, Bool.not_true, Bool.not_false, reduceIte, len6, Int.cast_ofNat_Int, beq_self_eq_true, Int.reduceBEq, Int.reduceAdd, Int.reduceNeg, decide_true, decide_false, Int.reduceLT, Int.reduceLE, Int.reduceToNat, abs_int, run_common hc _ _ hfu n hn, div_int _ _ _ (show (0 : Int) < (Nat.gcd t.natAbs b : Nat) by omega) hg2]
  rw [rd, ← Rat.normalize_eq_mkRat (show b ≠ 0 by omega), Rat.normalize_eq]
  simp
end
end L2.Z
set_option Elab.async false
set_option linter.all false
set_option maxRecDepth 100000
set_option maxHeartbeats 1000000
set_option exponentiation.threshold 9000
/-! ### portions -/
namespace L2.Z
open PySem
def tp (a b : E) : E := .tup [a, b] 0 p0
def at0 (i : Nat) : E := .sub (.var i x0 p0) (.cst (.int 0) 0 p0) p0
def at1 (i : Nat) : E := .sub (.var i x0 p0) (.cst (.int 1) 0 p0) p0
def L_plus (share : Nat) : List S := [
  .ret (.call share x0 p0 [(.bin .Add (.bin .Mult (.sub (.var 0 x0 p0) (.cst (.int 0) 0 p0) p0) (.sub (.var 1 x0 p0) (.cst (.int 1) 0 p0) p0) p0) (.bin .Mult (.sub (.var 1 x0 p0) (.cst (.int 0) 0 p0) p0) (.sub (.var 0 x0 p0) (.cst (.int 1) 0 p0) p0) p0) p0), (.bin .Mult (.sub (.var 0 x0 p0) (.cst (.int 1) 0 p0) p0) (.sub (.var 1 x0 p0) (.cst (.int 1) 0 p0) p0) p0)] p0) p0]
def L_minus (share : Nat) : List S := [
  .ret (.call share x0 p0 [(.bin .Sub (.bin .Mult (.sub (.var 0 x0 p0) (.cst (.int 0) 0 p0) p0) (.sub (.var 1 x0 p0) (.cst (.int 1) 0 p0) p0) p0) (.bin .Mult (.sub (.var 1 x0 p0) (.cst (.int 0) 0 p0) p0) (.sub (.var 0 x0 p0) (.cst (.int 1) 0 p0) p0) p0) p0), (.bin .Mult (.sub (.var 0 x0 p0) (.cst (.int 1) 0 p0) p0) (.sub (.var 1 x0 p0) (.cst (.int 1) 0 p0) p0) p0)] p0) p0]
def L_times (share : Nat) : List S := [
  .ret (.call share x0 p0 [(.bin .Mult (.sub (.var 0 x0 p0) (.cst (.int 0) 0 p0) p0) (.sub (.var 1 x0 p0) (.cst (.int 0) 0 p0) p0) p0), (.bin .Mult (.sub (.var 0 x0 p0) (.cst (.int 1) 0 p0) p0) (.sub (.var 1 x0 p0) (.cst (.int 1) 0 p0) p0) p0)] p0) p0]
def L_total (plus : Nat) : List S := [
  .asg (.nm 1 x0 p0) (.tup [(.cst (.int 0) 0 p0), (.cst (.int 1) 0 p0)] 0 p0) p0,
  .fors (.nm 2 x0 p0) .one [(.var 0 x0 p0)] [.asg (.nm 1 x0 p0) (.call plus x0 p0 [(.var 1 x0 p0), (.var 2 x0 p0)] p0) p0] p0,
  .ret (.var 1 x0 p0) p0]
def L_rest : List S := [
  .ret (.tup [(.bin .Sub (.sub (.var 0 x0 p0) (.cst (.int 1) 0 p0) p0) (.sub (.var 0 x0 p0) (.cst (.int 0) 0 p0) p0) p0), (.sub (.var 0 x0 p0) (.cst (.int 1) 0 p0) p0)] 0 p0) p0]
def L_counted (times rest plus : Nat) : List S := [
  .asg (.nm 1 x0 p0) (.lst [(.tup [(.cst (.int 1) 0 p0), (.cst (.int 1) 0 p0)] 0 p0)] p0) p0,
  .fors (.nm 2 x0 p0) .one [(.var 0 x0 p0)] [.own 4 x0 p0 (.bin .Add (.lc (.call times x0 p0 [(.var 3 x0 p0), (.call rest x0 p0 [(.var 2 x0 p0)] p0)] p0) (.nm 3 x0 p0) .one [(.var 1 x0 p0)] [] sc0 [(x0, 6), (x0, 3)] p0) (.lst [(.tup [(.cst (.int 0) 0 p0), (.cst (.int 1) 0 p0)] 0 p0)] p0) p0) p0, .fors (.tp [(.nm 5 x0 p0), (.nm 3 x0 p0)] 0 p0) (.enm p0 p0) [(.var 1 x0 p0)] [.sto 4 x0 p0 (.bin .Add (.var 5 x0 p0) (.cst (.int 1) 0 p0) p0) (.call plus x0 p0 [(.sub (.var 4 x0 p0) (.bin .Add (.var 5 x0 p0) (.cst (.int 1) 0 p0) p0) p0), (.call times x0 p0 [(.var 3 x0 p0), (.var 2 x0 p0)] p0)] p0) p0 p0] p0, .frz [4] (.asg (.nm 1 x0 p0) (.var 4 x0 p0) p0)] p0,
  .ret (.var 1 x0 p0) p0]
theorem sub_rd0 (M : Mem) (q : Rat) : subD M (rd q) (.int 0) = some (.int q.num) := rfl
theorem sub_rd1 (M : Mem) (q : Rat) : subD M (rd q) (.int 1) = some (.int q.den) := rfl
theorem kept_rd (M : Mem) (q : Rat) : kept (rd q) M = .ok (rd q) M := rfl
theorem nown_rd (q : Rat) : nown (rd q) = true := rfl
theorem rd_0 : rd 0 = .tup [.int 0, .int 1] := rfl
theorem rd_1 : rd 1 = .tup [.int 1, .int 1] := rfl
section
variable {T : Nat → Option Fn} {sub : Nat → Nat → Bool}
theorem pow_le' {a b : Nat} (h : a ≤ b) : (2 : Nat) ^ a ≤ 2 ^ b := Nat.pow_le_pow_right (by decide) h
theorem Tame.n1 {q : Rat} (h : Tame q) : q.num.natAbs < 2 ^ 100000 := Nat.lt_of_lt_of_le h.num (pow_le' (by decide))
theorem Tame.d1 {q : Rat} (h : Tame q) : ((q.den : Nat) : Int).natAbs < 2 ^ 100000 := by
  rw [Int.natAbs_natCast]
  exact Nat.lt_of_lt_of_le h.den (pow_le' (by decide))
theorem Tame.dd {a b : Rat} (ha : Tame a) (hb : Tame b) : a.den * b.den < 2 ^ 4500 := by
  have h1 : a.den * b.den < 2 ^ 2000 * 2 ^ 2000 := Nat.mul_lt_mul'' ha.den hb.den
  rw [← Nat.pow_add] at h1
  exact Nat.lt_of_lt_of_le h1 (pow_le' (by decide))
/-- the defs of portions that stand -/
structure Port (T : Nat → Option Fn) (fc fs : Nat) : Prop where
  c : Has T fc 2 2 L_common
  s : Has T fs 2 3 (L_share fc)
variable {fc fs : Nat}
theorem run_plus (P : Port T fc fs) {f : Nat} (h : Has T f 2 2 (L_plus fs)) {a b : Rat} (ha : Tame a) (hb : Tame b) : Cal T sub FUEL 3 f [rd a, rd b] (rd (a + b)) := by
  refine cal_of (k := 2) h rfl fun n hn M => ?_
  have e := run_share (sub := sub) P.c P.s (a.num * b.den + b.num * a.den) (a.den * b.den) (Nat.mul_pos a.den_pos b.den_pos) (ha.dd hb) n hn M
  rw [Int.natCast_mul] at e
  rw [Rat.add_def']
  unfold L_plus
  simp only [ends_rt, ends_nx, ends_exc, bind_ok, bind_exc, ret_some, retB_some, retL_some, retE_some, ev_var, ev_cst, ev_gint, ev_gstr, ev_gfn, ev_bin, ev_neg, ev_not, ev_bop, ev_cmp, ev_chain, ev_ite, ev_call, ev_isi, ev_blt, ev_mth, ev_sub, ev_slc, ev_tup, ev_lst, ev_lc, ev_live, ev_srt, ev_srk, evs_nil, evs_cons, evx_nil, evx_cons, evO_none, evO_some, evB_one, evB_and, evB_or, evT_nil, evT_one, exs_nil, exs_cons, nxt_nx, nxt_rt, nxt_exc, ex_asg, ex_own, ex_par, ex_app, ex_exn, ex_sti, ex_sto, ex_aug, ex_exp, ex_ret, ex_ifs, ex_fors, ex_whl, ex_rse, ex_tri, ex_frz, cstD, Tg.put, Tg.puts, startD, wipeD, kept_int, kept_bl, kept_str, kept_non, kept_tup, kept_lst, kept_ext, kept_ref, kept_fn, kept_exc, cmp_eq_int, cmp_ne_int, cmp_lt_int, cmp_le_int, cmp_gt_int, cmp_ge_int, List.map_cons, List.map_nil, List.length_cons, List.length_nil, Nat.reduceAdd, Nat.reduceSub, Nat.reduceLeDiff, List.replicate, List.cons_append, List.nil_append, List.append_nil, List.getElem?_cons_zero, List.getElem?_cons_succ, List.getElem?_nil, List.set_cons_zero, List.set_cons_succ, List.all_cons, List.all_nil, nown, Bool.and_true, Bool.true_and, Bool.and_false, Bool.false_and, if_true, if_false, Bool.false_eq_true, Bool.not_true, Bool.not_false, reduceIte, len6, Int.cast_ofNat_Int, beq_self_eq_true, Int.reduceBEq, Int.reduceAdd, Int.reduceNeg, decide_true, decide_false, Int.reduceLT, Int.reduceLE, Int.reduceToNat, sub_rd0, sub_rd1, mul_int _ _ _ ha.n1 hb.d1, mul_int _ _ _ hb.n1 ha.d1, mul_int _ _ _ ha.d1 hb.d1, add_int, e, kept_rd]
theorem run_minus (P : Port T fc fs) {f : Nat} (h : Has T f 2 2 (L_minus fs)) {a b : Rat} (ha : Tame a) (hb : Tame b) : Cal T sub FUEL 3 f [rd a, rd b] (rd (a - b)) := by
  refine cal_of (k := 2) h rfl fun n hn M => ?_
  have e := run_share (sub := sub) P.c P.s (a.num * b.den - b.num * a.den) (a.den * b.den) (Nat.mul_pos a.den_pos b.den_pos) (ha.dd hb) n hn M
  rw [Int.natCast_mul] at e
  rw [Rat.sub_def']
  unfold L_minus
  simp only [ends_rt, ends_nx, ends_exc, bind_ok, bind_exc, ret_some, retB_some, retL_some, retE_some, ev_var, ev_cst, ev_gint, ev_gstr, ev_gfn, ev_bin, ev_neg, ev_not, ev_bop, ev_cmp, ev_chain, ev_ite, ev_call, ev_isi, ev_blt, ev_mth, ev_sub, ev_slc, ev_tup, ev_lst, ev_lc, ev_live, ev_srt, ev_srk, evs_nil, evs_cons, evx_nil, evx_cons, evO_none, evO_some, evB_one, evB_and, evB_or, evT_nil, evT_one, exs_nil, exs_cons, nxt_nx, nxt_rt, nxt_exc, ex_asg, ex_own, ex_par, ex_app, ex_exn, ex_sti, ex_sto, ex_aug, ex_exp, ex_ret, ex_ifs, ex_fors, ex_whl, ex_rse, ex_tri, ex_frz, cstD, Tg.put, Tg.puts, startD, wipeD, kept_int, kept_bl, kept_str, kept_non, kept_tup, kept_lst, kept_ext, kept_ref, kept_fn, kept_exc, cmp_eq_int, cmp_ne_int, cmp_lt_int, cmp_le_int, cmp_gt_int, cmp_ge_int, List.map_cons, List.map_nil, List.length_cons, List.length_nil, Nat.reduceAdd, Nat.reduceSub, Nat.reduceLeDiff, List.replicate, List.cons_append, List.nil_append, List.append_nil, List.getElem?_cons_zero, List.getElem?_cons_succ, List.getElem?_nil, List.set_cons_zero, List.set_cons_succ, List.all_cons, List.all_nil, nown, Bool.and_true, Bool.true_and, Bool.and_false, Bool.false_and, if_true, if_false, Bool.false_eq_true, Bool.not_true, Bool.not_false, reduceIte, len6, Int.cast_ofNat_Int, beq_self_eq_true, Int.reduceBEq, Int.reduceAdd, Int.reduceNeg, decide_true, decide_false, Int.reduceLT, Int.reduceLE, Int.reduceToNat, sub_rd0, sub_rd1, mul_int _ _ _ ha.n1 hb.d1, mul_int _ _ _ hb.n1 ha.d1, mul_int _ _ _ ha.d1 hb.d1, sub_int, e, kept_rd]
theorem run_times (P : Port T fc fs) {f : Nat} (h : Has T f 2 2 (L_times fs)) {a b : Rat} (ha : Tame a) (hb : Tame b) : Cal T sub FUEL 3 f [rd a, rd b] (rd (a * b)) := by
  refine cal_of (k := 2) h rfl fun n hn M => ?_
  have e := run_share (sub := sub) P.c P.s (a.num * b.num) (a.den * b.den) (Nat.mul_pos a.den_pos b.den_pos) (ha.dd hb) n hn M
  rw [Int.natCast_mul] at e
  rw [Rat.mul_def']
  unfold L_times
  simp only [ends_rt, ends_nx, ends_exc, bind_ok, bind_exc, ret_some, retB_some, retL_some, retE_some, ev_var, ev_cst, ev_gint, ev_gstr, ev_gfn, ev_bin, ev_neg, ev_not, ev_bop, ev_cmp, ev_chain, ev_ite, ev_call, ev_isi, ev_blt, ev_mth, ev_sub, ev_slc, ev_tup, ev_lst, ev_lc, ev_live, ev_srt, ev_srk, evs_nil, evs_cons, evx_nil, evx_cons, evO_none, evO_some, evB_one, evB_and, evB_or, evT_nil, evT_one, exs_nil, exs_cons, nxt_nx, nxt_rt, nxt_exc, ex_asg, ex_own, ex_par, ex_app, ex_exn, ex_sti, ex_sto, ex_aug, ex_exp, ex_ret, ex_ifs, ex_fors, ex_whl, ex_rse, ex_tri, ex_frz, cstD, Tg.put, Tg.puts, startD, wipeD, kept_int, kept_bl, kept_str, kept_non, kept_tup, kept_lst, kept_ext, kept_ref, kept_fn, kept_exc, cmp_eq_int, cmp_ne_int, cmp_lt_int, cmp_le_int, cmp_gt_int, cmp_ge_int, List.map_cons, List.map_nil, List.length_cons, List.length_nil, Nat.reduceAdd, Nat.reduceSub, Nat.reduceLeDiff, List.replicate, List.cons_append, List.nil_append, List.append_nil, List.getElem?_cons_zero, List.getElem?_cons_succ, List.getElem?_nil, List.set_cons_zero, List.set_cons_succ, List.all_cons, List.all_nil, nown, Bool.and_true, Bool.true_and, Bool.and_false, Bool.false_and, if_true, if_false, Bool.false_eq_true, Bool.not_true, Bool.not_false, reduceIte, len6, Int.cast_ofNat_Int, beq_self_eq_true, Int.reduceBEq, Int.reduceAdd, Int.reduceNeg, decide_true, decide_false, Int.reduceLT, Int.reduceLE, Int.reduceToNat, sub_rd0, sub_rd1, mul_int _ _ _ ha.n1 hb.n1, mul_int _ _ _ ha.d1 hb.d1, e, kept_rd]
end
end L2.Z
set_option Elab.async false
set_option linter.all false
set_option maxRecDepth 100000
set_option maxHeartbeats 1000000
set_option exponentiation.threshold 9000
/-! ### portions: how great they may be -/
namespace L2.Z
open PySem
theorem rat_nd (q : Rat) : q = (q.num : Rat) / (q.den : Rat) := by
  have h := Rat.mkRat_self q
  rw [Rat.mkRat_eq_div] at h
  exact h.symm
theorem den_ne (q : Rat) : (q.den : Rat) ≠ 0 := by
  have h := q.den_pos
  intro h2
  have h3 : ((q.den : Nat) : Rat) = ((0 : Nat) : Rat) := h2
  have := Rat.natCast_inj.mp h3
  omega
/-- q is so many D-th parts, at most B -/
structure Sz (D B : Nat) (q : Rat) : Prop where
  pos : 0 < D
  part : ∃ x : Int, q * (D : Rat) = x
  lo : -(B : Rat) ≤ q
  hi : q ≤ (B : Rat)
theorem Sz.dvd {D B : Nat} {q : Rat} (h : Sz D B q) : q.den ∣ D := by
  obtain ⟨x, hx⟩ := h.part
  have e := rat_nd q
  have n0 := den_ne q
  have h1 : (q.num : Rat) * (D : Rat) = (x : Rat) * (q.den : Rat) := by grind
  have h2 : ((q.num * (D : Int) : Int) : Rat) = ((x * (q.den : Int) : Int) : Rat) := by
    rw [Rat.intCast_mul, Rat.intCast_mul, Rat.intCast_natCast, Rat.intCast_natCast]; exact h1
  have h3 := Rat.intCast_inj.mp h2
  have h4 : q.den ∣ q.num.natAbs * D := by
    have : (q.num * (D : Int)).natAbs = (x * (q.den : Int)).natAbs := by rw [h3]
    rw [Int.natAbs_mul, Int.natAbs_mul, Int.natAbs_natCast, Int.natAbs_natCast] at this
    rw [this]
    exact Nat.dvd_mul_left _ _
  exact Nat.Coprime.dvd_of_dvd_mul_left q.reduced.symm h4
theorem Sz.num {D B : Nat} {q : Rat} (h : Sz D B q) : q.num.natAbs ≤ B * D := by
  have h1 := (Rat.le_iff _ _).mp h.hi
  have h2 := (Rat.le_iff _ _).mp h.lo
  rw [Rat.num_natCast, Rat.den_natCast] at h1
  rw [Rat.neg_num, Rat.neg_den, Rat.num_natCast, Rat.den_natCast] at h2
  have h3 : q.den ≤ D := Nat.le_of_dvd h.pos h.dvd
  have h4 : (B : Int) * (q.den : Int) ≤ (B : Int) * (D : Int) := Int.mul_le_mul_of_nonneg_left (by omega) (by omega)
  have h5 : ((B * D : Nat) : Int) = (B : Int) * (D : Int) := by simp
  have h6 : -(B : Int) * (q.den : Int) = -((B : Int) * (q.den : Int)) := Int.neg_mul _ _
  omega
theorem Sz.tame {D B : Nat} {q : Rat} (h : Sz D B q) (hb : (B + 1) * D < 2 ^ 2000) : Tame q := by
  have h1 := h.num
  have h2 : q.den ≤ D := Nat.le_of_dvd h.pos h.dvd
  rw [Nat.add_mul] at hb
  exact ⟨by omega, by omega⟩
theorem Sz.add {D B B' : Nat} {a b : Rat} (ha : Sz D B a) (hb : Sz D B' b) : Sz D (B + B') (a + b) := by
  obtain ⟨x, hx⟩ := ha.part
  obtain ⟨y, hy⟩ := hb.part
  refine ⟨ha.pos, ⟨x + y, by grind⟩, ?_, ?_⟩
  · have := ha.lo; have := hb.lo; rw [Rat.natCast_add]; grind
  · have := ha.hi; have := hb.hi; rw [Rat.natCast_add]; grind
theorem Sz.sub {D B B' : Nat} {a b : Rat} (ha : Sz D B a) (hb : Sz D B' b) : Sz D (B + B') (a - b) := by
  obtain ⟨x, hx⟩ := ha.part
  obtain ⟨y, hy⟩ := hb.part
  refine ⟨ha.pos, ⟨x - y, by grind⟩, ?_, ?_⟩
  · have := ha.lo; have := hb.hi; rw [Rat.natCast_add]; grind
  · have := ha.hi; have := hb.lo; rw [Rat.natCast_add]; grind
theorem abs_mul_le {x y X Y : Rat} (h1 : -X ≤ x) (h2 : x ≤ X) (h3 : -Y ≤ y) (h4 : y ≤ Y) : -(X * Y) ≤ x * y ∧ x * y ≤ X * Y := by
  have p1 : 0 ≤ (X - x) * (Y + y) := Rat.mul_nonneg (by grind) (by grind)
  have p2 : 0 ≤ (X + x) * (Y - y) := Rat.mul_nonneg (by grind) (by grind)
  have p3 : 0 ≤ (X - x) * (Y - y) := Rat.mul_nonneg (by grind) (by grind)
  have p4 : 0 ≤ (X + x) * (Y + y) := Rat.mul_nonneg (by grind) (by grind)
  constructor <;> grind
theorem Sz.mul {D D' B B' : Nat} {a b : Rat} (ha : Sz D B a) (hb : Sz D' B' b) : Sz (D * D') (B * B') (a * b) := by
  obtain ⟨x, hx⟩ := ha.part
  obtain ⟨y, hy⟩ := hb.part
  have q := abs_mul_le ha.lo ha.hi hb.lo hb.hi
  refine ⟨Nat.mul_pos ha.pos hb.pos, ⟨x * y, by rw [Rat.natCast_mul]; grind⟩, ?_, ?_⟩
  · rw [Rat.natCast_mul]; exact q.1
  · rw [Rat.natCast_mul]; exact q.2
theorem Sz.mono {D B B' : Nat} {a : Rat} (h : Sz D B a) (hb : B ≤ B') : Sz D B' a := by
  have e : (B : Rat) ≤ (B' : Rat) := Rat.natCast_le_natCast.mpr hb
  exact ⟨h.pos, h.part, by have := h.lo; grind, by have := h.hi; grind⟩
theorem Sz.up {D D' B : Nat} {a : Rat} (h : Sz D B a) (hd : D ∣ D') (hp : 0 < D') : Sz D' B a := by
  obtain ⟨k, rfl⟩ := hd
  obtain ⟨x, hx⟩ := h.part
  exact ⟨hp, ⟨x * k, by rw [Rat.natCast_mul, Rat.intCast_mul, Rat.intCast_natCast]; grind⟩, h.lo, h.hi⟩
theorem Sz.zero {D : Nat} (B : Nat) (hp : 0 < D) : Sz D B 0 := by
  have : (0 : Rat) ≤ (B : Rat) := by
    have := Rat.natCast_le_natCast.mpr (Nat.zero_le B)
    simpa using this
  exact ⟨hp, ⟨0, by simp⟩, by grind, by grind⟩
theorem Sz.int {D : Nat} {B : Nat} {i : Int} (hp : 0 < D) (h : i.natAbs ≤ B) : Sz D B (i : Rat) := by
  refine ⟨hp, ⟨i * D, by rw [Rat.intCast_mul, Rat.intCast_natCast]⟩, ?_, ?_⟩
  · have : ((-(B : Int) : Int) : Rat) ≤ (i : Rat) := Rat.intCast_le_intCast.mpr (by omega)
    rw [Rat.intCast_neg, Rat.intCast_natCast] at this
    exact this
  · have : (i : Rat) ≤ (((B : Int)) : Rat) := Rat.intCast_le_intCast.mpr (by omega)
    rw [Rat.intCast_natCast] at this
    exact this
end L2.Z
set_option Elab.async false
set_option linter.all false
set_option maxRecDepth 100000
set_option maxHeartbeats 1000000
set_option exponentiation.threshold 9000
/-! ### portions: sums, how many come -/
namespace L2.Z
open PySem
def rds (qs : List Rat) : List D := qs.map rd
def sumQ (qs : List Rat) : Rat := qs.foldl (· + ·) 0
theorem foldl_sz {D B : Nat} : ∀ (qs : List Rat) (B0 : Nat) (s : Rat), Sz D B0 s → (∀ q ∈ qs, Sz D B q) → Sz D (B0 + B * qs.length) (qs.foldl (· + ·) s)
  | [], B0, s, h, _ => by simpa using h
  | q :: qs, B0, s, h, hq => by
    have h1 := foldl_sz qs (B0 + B) (s + q) (h.add (hq q List.mem_cons_self)) fun q hq' => hq q (List.mem_cons_of_mem _ hq')
    rw [List.foldl_cons, List.length_cons, Nat.mul_add, Nat.mul_one, Nat.add_comm (B * qs.length) B, ← Nat.add_assoc]
    exact h1
theorem foldl_from (s : Rat) (qs : List Rat) : qs.foldl (· + ·) s = s + sumQ qs := by
  unfold sumQ
  induction qs generalizing s with
  | nil => simp [Rat.add_zero]
  | cons q qs ih =>
    rw [List.foldl_cons, List.foldl_cons, ih, ih (0 + q)]
    grind
theorem sumQ_cons (q : Rat) (qs : List Rat) : sumQ (q :: qs) = q + sumQ qs := by
  show (qs.foldl (· + ·) (0 + q)) = _
  rw [foldl_from]; grind
theorem sumQ_nil : sumQ [] = 0 := rfl
theorem sumQ_sz {D B : Nat} {qs : List Rat} (hp : 0 < D) (h : ∀ q ∈ qs, Sz D B q) : Sz D (B * qs.length) (sumQ qs) := by
  have := foldl_sz qs 0 0 (Sz.zero 0 hp) h
  rw [Nat.zero_add] at this
  exact this
section
variable {T : Nat → Option Fn} {sub : Nat → Nat → Bool} {fc fs : Nat}
theorem total_loop (P : Port T fc fs) {fp : Nat} (hp : Has T fp 2 2 (L_plus fs)) {D B N : Nat} (hz : (B * N + 1) * D < 2 ^ 2000) (xs : L2.Z.D) (n : Nat) (hn : 3 ≤ n) (M : Mem) : ∀ (qs : List Rat) (k : Nat) (s : Rat) (o : Option L2.Z.D), Sz D (B * k) s → (∀ q ∈ qs, Sz D B q) → k + qs.length ≤ N →
    ∃ o', forW ⟨callF T sub FUEL n, sub, FUEL⟩ [some xs, some (rd s), o] M (.nm 2 x0 p0) [.asg (.nm 1 x0 p0) (.call fp x0 p0 [(.var 1 x0 p0), (.var 2 x0 p0)] p0) p0] (rds qs) = .ok (.nx [some xs, some (rd (qs.foldl (· + ·) s)), o']) M
  | [], k, s, o, _, _, _ => ⟨o, rfl⟩
  | q :: qs, k, s, o, h, hq, hk => by
    have hk : k + (qs.length + 1) ≤ N := hk
    have hqs := hq q List.mem_cons_self
    have t1 : Tame s := h.tame (Nat.lt_of_le_of_lt (Nat.mul_le_mul_right _ (Nat.add_le_add_right (Nat.mul_le_mul_left _ (by omega)) 1)) hz)
    have t2 : Tame q := hqs.tame (Nat.lt_of_le_of_lt (Nat.mul_le_mul_right _ (Nat.add_le_add_right (by
      have : B * 1 ≤ B * N := Nat.mul_le_mul_left _ (by omega)
      omega) 1)) hz)
    obtain ⟨o', e⟩ := total_loop P hp hz xs n hn M qs (k + 1) (s + q) (some (rd q)) (by rw [Nat.mul_add, Nat.mul_one]; exact h.add hqs) (fun q hq' => hq q (List.mem_cons_of_mem _ hq')) (by omega)
    refine ⟨o', ?_⟩
    show forW _ _ _ _ _ (rd q :: rds qs) = _
    rw [forW_cons]
    simp only [ends_rt, ends_nx, ends_exc, bind_ok, bind_exc, ret_some, retB_some, retL_some, retE_some, ev_var, ev_cst, ev_gint, ev_gstr, ev_gfn, ev_bin, ev_neg, ev_not, ev_bop, ev_cmp, ev_chain, ev_ite, ev_call, ev_isi, ev_blt, ev_mth, ev_sub, ev_slc, ev_tup, ev_lst, ev_lc, ev_live, ev_srt, ev_srk, evs_nil, evs_cons, evx_nil, evx_cons, evO_none, evO_some, evB_one, evB_and, evB_or, evT_nil, evT_one, exs_nil, exs_cons, nxt_nx, nxt_rt, nxt_exc, ex_asg, ex_own, ex_par, ex_app, ex_exn, ex_sti, ex_sto, ex_aug, ex_exp, ex_ret, ex_ifs, ex_fors, ex_whl, ex_rse, ex_tri, ex_frz, cstD, Tg.put, Tg.puts, startD, wipeD, kept_int, kept_bl, kept_str, kept_non, kept_tup, kept_lst, kept_ext, kept_ref, kept_fn, kept_exc, cmp_eq_int, cmp_ne_int, cmp_lt_int, cmp_le_int, cmp_gt_int, cmp_ge_int, List.map_cons, List.map_nil, List.length_cons, List.length_nil, Nat.reduceAdd, Nat.reduceSub, Nat.reduceLeDiff, List.replicate, List.cons_append, List.nil_append, List.append_nil, List.getElem?_cons_zero, List.getElem?_cons_succ, List.getElem?_nil, List.set_cons_zero, List.set_cons_succ, List.all_cons, List.all_nil, nown, Bool.and_true, Bool.true_and, Bool.and_false, Bool.false_and, if_true, if_false, Bool.false_eq_true, Bool.not_true, Bool.not_false, reduceIte, len6, Int.cast_ofNat_Int, beq_self_eq_true, Int.reduceBEq, Int.reduceAdd, Int.reduceNeg, decide_true, decide_false, Int.reduceLT, Int.reduceLE, Int.reduceToNat, kept_rd, run_plus P hp t1 t2 n hn, List.foldl_cons]
    exact e
theorem run_total (P : Port T fc fs) {f fp : Nat} (hp : Has T fp 2 2 (L_plus fs)) (h : Has T f 1 3 (L_total fp)) {D B : Nat} {qs : List Rat} (hD : 0 < D) (hq : ∀ q ∈ qs, Sz D B q) (hz : (B * qs.length + 1) * D < 2 ^ 2000) : Cal T sub FUEL 4 f [.lst (rds qs)] (rd (sumQ qs)) := by
  refine cal_of (k := 3) h rfl fun n hn M => ?_
  obtain ⟨o', e⟩ := total_loop (sub := sub) P hp hz (.lst (rds qs)) n hn M qs 0 0 none (Sz.zero _ hD) hq (by omega)
  unfold L_total
  simp only [ends_rt, ends_nx, ends_exc, bind_ok, bind_exc, ret_some, retB_some, retL_some, retE_some, ev_var, ev_cst, ev_gint, ev_gstr, ev_gfn, ev_bin, ev_neg, ev_not, ev_bop, ev_cmp, ev_chain, ev_ite, ev_call, ev_isi, ev_blt, ev_mth, ev_sub, ev_slc, ev_tup, ev_lst, ev_lc, ev_live, ev_srt, ev_srk, evs_nil, evs_cons, evx_nil, evx_cons, evO_none, evO_some, evB_one, evB_and, evB_or, evT_nil, evT_one, exs_nil, exs_cons, nxt_nx, nxt_rt, nxt_exc, ex_asg, ex_own, ex_par, ex_app, ex_exn, ex_sti, ex_sto, ex_aug, ex_exp, ex_ret, ex_ifs, ex_fors, ex_whl, ex_rse, ex_tri, ex_frz, cstD, Tg.put, Tg.puts, startD, wipeD, kept_int, kept_bl, kept_str, kept_non, kept_tup, kept_lst, kept_ext, kept_ref, kept_fn, kept_exc, cmp_eq_int, cmp_ne_int, cmp_lt_int, cmp_le_int, cmp_gt_int, cmp_ge_int, List.map_cons, List.map_nil, List.length_cons, List.length_nil, Nat.reduceAdd, Nat.reduceSub, Nat.reduceLeDiff, List.replicate, List.cons_append, List.nil_append, List.append_nil, List.getElem?_cons_zero, List.getElem?_cons_succ, List.getElem?_nil, List.set_cons_zero, List.set_cons_succ, List.all_cons, List.all_nil, nown, Bool.and_true, Bool.true_and, Bool.and_false, Bool.false_and, if_true, if_false, Bool.false_eq_true, Bool.not_true, Bool.not_false, reduceIte, len6, Int.cast_ofNat_Int, beq_self_eq_true, Int.reduceBEq, Int.reduceAdd, Int.reduceNeg, decide_true, decide_false, Int.reduceLT, Int.reduceLE, Int.reduceToNat, srcD, items, litems, len6]
  rw [← rd_0, e]
  simp only [ends_rt, ends_nx, ends_exc, bind_ok, bind_exc, ret_some, retB_some, retL_some, retE_some, ev_var, ev_cst, ev_gint, ev_gstr, ev_gfn, ev_bin, ev_neg, ev_not, ev_bop, ev_cmp, ev_chain, ev_ite, ev_call, ev_isi, ev_blt, ev_mth, ev_sub, ev_slc, ev_tup, ev_lst, ev_lc, ev_live, ev_srt, ev_srk, evs_nil, evs_cons, evx_nil, evx_cons, evO_none, evO_some, evB_one, evB_and, evB_or, evT_nil, evT_one, exs_nil, exs_cons, nxt_nx, nxt_rt, nxt_exc, ex_asg, ex_own, ex_par, ex_app, ex_exn, ex_sti, ex_sto, ex_aug, ex_exp, ex_ret, ex_ifs, ex_fors, ex_whl, ex_rse, ex_tri, ex_frz, cstD, Tg.put, Tg.puts, startD, wipeD, kept_int, kept_bl, kept_str, kept_non, kept_tup, kept_lst, kept_ext, kept_ref, kept_fn, kept_exc, cmp_eq_int, cmp_ne_int, cmp_lt_int, cmp_le_int, cmp_gt_int, cmp_ge_int, List.map_cons, List.map_nil, List.length_cons, List.length_nil, Nat.reduceAdd, Nat.reduceSub, Nat.reduceLeDiff, List.replicate, List.cons_append, List.nil_append, List.append_nil, List.getElem?_cons_zero, List.getElem?_cons_succ, List.getElem?_nil, List.set_cons_zero, List.set_cons_succ, List.all_cons, List.all_nil, nown, Bool.and_true, Bool.true_and, Bool.and_false, Bool.false_and, if_true, if_false, Bool.false_eq_true, Bool.not_true, Bool.not_false, reduceIte, len6, Int.cast_ofNat_Int, beq_self_eq_true, Int.reduceBEq, Int.reduceAdd, Int.reduceNeg, decide_true, decide_false, Int.reduceLT, Int.reduceLE, Int.reduceToNat, kept_rd]
  rfl
theorem rest_eq (q : Rat) : rd (1 - q) = .tup [.int (q.den - q.num), .int q.den] := by
  have hd := q.den_pos
  have h1 : (1 : Rat) - q = mkRat (q.den - q.num) q.den := by
    rw [Rat.mkRat_eq_div, Rat.intCast_sub, Rat.intCast_natCast]
    have := rat_nd q
    have := den_ne q
    grind
  have hc : q.den.gcd ((q.den : Int) - q.num).natAbs = 1 := by
    have h := q.reduced
    have h2 : Int.gcd (q.den : Int) ((q.den : Int) - q.num) = Int.gcd (q.den : Int) q.num := by
      rw [Int.gcd_self_sub_right]
    have h3 : Int.gcd (q.den : Int) ((q.den : Int) - q.num) = q.den.gcd ((q.den : Int) - q.num).natAbs := rfl
    have h4 : Int.gcd (q.den : Int) q.num = q.den.gcd q.num.natAbs := rfl
    rw [← h3, h2, h4, Nat.gcd_comm]
    exact h
  rw [rd, h1, Rat.num_mkRat, Rat.den_mkRat, if_neg (by omega), if_neg (by omega), hc]
  simp
theorem run_rest {f : Nat} (h : Has T f 1 1 L_rest) (q : Rat) : Cal T sub FUEL 1 f [rd q] (rd (1 - q)) := by
  refine cal_of (k := 0) h rfl fun n hn M => ?_
  unfold L_rest
  simp only [ends_rt, ends_nx, ends_exc, bind_ok, bind_exc, ret_some, retB_some, retL_some, retE_some, ev_var, ev_cst, ev_gint, ev_gstr, ev_gfn, ev_bin, ev_neg, ev_not, ev_bop, ev_cmp, ev_chain, ev_ite, ev_call, ev_isi, ev_blt, ev_mth, ev_sub, ev_slc, ev_tup, ev_lst, ev_lc, ev_live, ev_srt, ev_srk, evs_nil, evs_cons, evx_nil, evx_cons, evO_none, evO_some, evB_one, evB_and, evB_or, evT_nil, evT_one, exs_nil, exs_cons, nxt_nx, nxt_rt, nxt_exc, ex_asg, ex_own, ex_par, ex_app, ex_exn, ex_sti, ex_sto, ex_aug, ex_exp, ex_ret, ex_ifs, ex_fors, ex_whl, ex_rse, ex_tri, ex_frz, cstD, Tg.put, Tg.puts, startD, wipeD, kept_int, kept_bl, kept_str, kept_non, kept_tup, kept_lst, kept_ext, kept_ref, kept_fn, kept_exc, cmp_eq_int, cmp_ne_int, cmp_lt_int, cmp_le_int, cmp_gt_int, cmp_ge_int, List.map_cons, List.map_nil, List.length_cons, List.length_nil, Nat.reduceAdd, Nat.reduceSub, Nat.reduceLeDiff, List.replicate, List.cons_append, List.nil_append, List.append_nil, List.getElem?_cons_zero, List.getElem?_cons_succ, List.getElem?_nil, List.set_cons_zero, List.set_cons_succ, List.all_cons, List.all_nil, nown, Bool.and_true, Bool.true_and, Bool.and_false, Bool.false_and, if_true, if_false, Bool.false_eq_true, Bool.not_true, Bool.not_false, reduceIte, len6, Int.cast_ofNat_Int, beq_self_eq_true, Int.reduceBEq, Int.reduceAdd, Int.reduceNeg, decide_true, decide_false, Int.reduceLT, Int.reduceLE, Int.reduceToNat, sub_rd0, sub_rd1, sub_int, len6, rest_eq]
end
end L2.Z
set_option Elab.async false
set_option linter.all false
set_option maxRecDepth 100000
set_option maxHeartbeats 1000000
set_option exponentiation.threshold 9000
/-! ### portions: how many come -/
namespace L2.Z
open PySem
theorem ixN_nat {n i : Nat} (h : i < n) : ixN n (i : Int) = some i := by
  unfold ixN
  rw [if_pos (by omega), if_pos (by omega)]
  simp
theorem atI_nat {α : Type} (xs : List α) (i : Nat) : atI xs (i : Int) = xs[i]? := by
  unfold atI
  by_cases h : i < xs.length
  · rw [ixN_nat h]; rfl
  · have : ixN xs.length (i : Int) = none := by
      unfold ixN
      rw [if_pos (by omega), if_neg (by omega)]
    rw [this, List.getElem?_eq_none (by omega)]; rfl
def stepQ (f : List Rat) (c : Rat) : List Rat := List.zipWith (· + ·) (f.map (· * (1 - c)) ++ [0]) (0 :: f.map (· * c))
def cntQ (cs : List Rat) : List Rat := cs.foldl stepQ [1]
theorem stepQ_len (f : List Rat) (c : Rat) : (stepQ f c).length = f.length + 1 := by simp [stepQ]
/-- all within [0, 1], D-th parts -/
structure Un1 (D : Nat) (q : Rat) : Prop where
  pos : 0 < D
  part : ∃ x : Int, q * (D : Rat) = x
  lo : 0 ≤ q
  hi : q ≤ 1
theorem Un1.sz {D : Nat} {q : Rat} (h : Un1 D q) : Sz D 1 q := ⟨h.pos, h.part, by have := h.lo; grind, by have := h.hi; simpa using this⟩
theorem Un1.mul {D D' : Nat} {a b : Rat} (ha : Un1 D a) (hb : Un1 D' b) : Un1 (D * D') (a * b) := by
  have h := ha.sz.mul hb.sz
  refine ⟨h.pos, h.part, Rat.mul_nonneg ha.lo hb.lo, ?_⟩
  have := h.hi; simpa using this
theorem Un1.rest {D : Nat} {a : Rat} (h : Un1 D a) : Un1 D (1 - a) := by
  obtain ⟨x, hx⟩ := h.part
  refine ⟨h.pos, ⟨D - x, by rw [Rat.intCast_sub, Rat.intCast_natCast]; grind⟩, by have := h.hi; grind, by have := h.lo; grind⟩
theorem Un1.up {D D' : Nat} {a : Rat} (h : Un1 D a) (hd : D ∣ D') (hp : 0 < D') : Un1 D' a := ⟨hp, (h.sz.up hd hp).part, h.lo, h.hi⟩
/-- a convex mix -/
theorem Un1.mix {D D' : Nat} {a b c : Rat} (ha : Un1 D a) (hb : Un1 D b) (hc : Un1 D' c) : Un1 (D * D') (a * (1 - c) + b * c) := by
  have h1 := ha.mul hc.rest
  have h2 := hb.mul hc
  obtain ⟨x, hx⟩ := h1.part
  obtain ⟨y, hy⟩ := h2.part
  refine ⟨h1.pos, ⟨x + y, by rw [Rat.intCast_add]; grind⟩, by have := h1.lo; have := h2.lo; grind, ?_⟩
  have p1 : 0 ≤ (1 - a) * (1 - c) := Rat.mul_nonneg (by have := ha.hi; grind) hc.rest.lo
  have p2 : 0 ≤ (1 - b) * c := Rat.mul_nonneg (by have := hb.hi; grind) hc.lo
  grind
theorem Un1.zero {D : Nat} (hp : 0 < D) : Un1 D 0 := ⟨hp, ⟨0, by simp⟩, by grind, by grind⟩
theorem Un1.one {D : Nat} (hp : 0 < D) : Un1 D 1 := ⟨hp, ⟨D, by rw [Rat.intCast_natCast]; simp⟩, by grind, by grind⟩
theorem stepQ_eq (f : List Rat) (c : Rat) : stepQ f c = List.zipWith (fun a b => a * (1 - c) + b * c) (f ++ [0]) (0 :: f) := by
  have e1 : f.map (· * (1 - c)) ++ [0] = (f ++ [0]).map (· * (1 - c)) := by simp [Rat.zero_mul]
  have e2 : 0 :: f.map (· * c) = (0 :: f).map (· * c) := by simp [Rat.zero_mul]
  unfold stepQ
  rw [e1, e2, List.zipWith_map]
theorem stepQ_un {D D' : Nat} {f : List Rat} {c : Rat} (hp : 0 < D) (hf : ∀ q ∈ f, Un1 D q) (hc : Un1 D' c) : ∀ q ∈ stepQ f c, Un1 (D * D') q := by
  intro q hq
  rw [stepQ_eq] at hq
  obtain ⟨i, hi, rfl⟩ := List.mem_iff_getElem.mp hq
  rw [List.getElem_zipWith]
  refine Un1.mix ?_ ?_ hc
  · have := List.getElem_mem (l := f ++ [0]) (n := i) (by rw [List.length_zipWith] at hi; omega)
    rcases List.mem_append.mp this with h | h
    · exact hf _ h
    · have e : (f ++ [0])[i]'(by rw [List.length_zipWith] at hi; omega) = 0 := by simpa using h
      rw [e]; exact Un1.zero hp
  · have := List.getElem_mem (l := 0 :: f) (n := i) (by rw [List.length_zipWith] at hi; omega)
    rcases List.mem_cons.mp this with h | h
    · rw [h]; exact Un1.zero hp
    · exact hf _ h
section
variable {T : Nat → Option Fn} {sub : Nat → Nat → Bool} {fc fs : Nat}
theorem cnt_inner (P : Port T fc fs) {ft fp : Nat} (ht : Has T ft 2 2 (L_times fs)) (hp : Has T fp 2 2 (L_plus fs)) {D D' : Nat} (hz : 2 * (D * D') < 2 ^ 1900) {c : Rat} (hc : Un1 D' c) (n : Nat) (hn : 3 ≤ n) (M : Mem) (xs fo : L2.Z.D) (o6 : Option L2.Z.D) : ∀ (g pre rest : List Rat) (i : Nat) (o3 o5 : Option L2.Z.D), (∀ q ∈ g, Un1 D q) → (∀ q ∈ rest, Un1 (D * D') q) → rest.length = g.length → pre.length = i + 1 →
    ∃ o3' o5', forW ⟨callF T sub FUEL n, sub, FUEL⟩ [some xs, some fo, some (rd c), o3, some (.own (rds (pre ++ rest))), o5, o6] M (.tp [(.nm 5 x0 p0), (.nm 3 x0 p0)] 0 p0) [.sto 4 x0 p0 (.bin .Add (.var 5 x0 p0) (.cst (.int 1) 0 p0) p0) (.call fp x0 p0 [(.sub (.var 4 x0 p0) (.bin .Add (.var 5 x0 p0) (.cst (.int 1) 0 p0) p0) p0), (.call ft x0 p0 [(.var 3 x0 p0), (.var 2 x0 p0)] p0)] p0) p0 p0]
      ((g.zipIdx i).map fun p => .tup [.int (p.2 : Nat), rd p.1]) = .ok (.nx [some xs, some fo, some (rd c), o3', some (.own (rds (pre ++ List.zipWith (· + ·) rest (g.map (· * c))))), o5', o6]) M
  | [], pre, rest, i, o3, o5, _, _, hl, _ => by
    have : rest = [] := List.eq_nil_of_length_eq_zero hl
    subst this
    exact ⟨o3, o5, rfl⟩
  | q :: g, pre, [], i, o3, o5, _, _, hl, _ => by simp at hl
  | q :: g, pre, r :: rest, i, o3, o5, hg, hr, hl, hpre => by
    have uq := hg q List.mem_cons_self
    have ur := hr r List.mem_cons_self
    have hD := uq.pos
    have hD' := hc.pos
    have bd : 2 * (D * D') < 2 ^ 2000 := Nat.lt_of_lt_of_le hz (pow_le' (by decide))
    have d1 : D ≤ D * D' := Nat.le_mul_of_pos_right _ hD'
    have d2 : D' ≤ D * D' := Nat.le_mul_of_pos_left _ hD
    have tq : Tame q := uq.sz.tame (by omega)
    have tc : Tame c := hc.sz.tame (by omega)
    have tr : Tame r := ur.sz.tame (by omega)
    have tqc : Tame (q * c) := (uq.mul hc).sz.tame (by omega)
    obtain ⟨o3', o5', ih⟩ := cnt_inner P ht hp hz hc n hn M xs fo o6 g (pre ++ [r + q * c]) rest (i + 1) (some (rd q)) (some (.int (i : Nat))) (fun q hq => hg q (List.mem_cons_of_mem _ hq)) (fun q hq => hr q (List.mem_cons_of_mem _ hq)) (by simpa using hl) (by simp [hpre])
    refine ⟨o3', o5', ?_⟩
    have hlen : i + 1 < (rds (pre ++ r :: rest)).length := by simp [rds, hpre]
    have e1 : ((i : Nat) : Int) + 1 = ((i + 1 : Nat) : Int) := by omega
    have e2 : (rds (pre ++ r :: rest))[i + 1]? = some (rd r) := by
      unfold rds
      rw [List.getElem?_map, List.getElem?_append_right (by omega), hpre]
      simp
    have e3 : (rds (pre ++ r :: rest)).set (i + 1) (rd (r + q * c)) = rds ((pre ++ [r + q * c]) ++ rest) := by
      unfold rds
      rw [← List.map_set, List.set_append_right _ _ (by omega), hpre]
      simp
    have es : ∀ M, subD M (.own (rds (pre ++ r :: rest))) (.int ((i + 1 : Nat) : Int)) = some (rd r) := fun M => by
      show (some (rds (pre ++ r :: rest))).bind (fun xs => atI xs ((i + 1 : Nat) : Int)) = _
      show atI (rds (pre ++ r :: rest)) ((i + 1 : Nat) : Int) = _
      rw [atI_nat, e2]
    rw [List.zipIdx_cons, List.map_cons, forW_cons]
    simp only [ends_rt, ends_nx, ends_exc, bind_ok, bind_exc, ret_some, retB_some, retL_some, retE_some, ev_var, ev_cst, ev_gint, ev_gstr, ev_gfn, ev_bin, ev_neg, ev_not, ev_bop, ev_cmp, ev_chain, ev_ite, ev_call, ev_isi, ev_blt, ev_mth, ev_sub, ev_slc, ev_tup, ev_lst, ev_lc, ev_live, ev_srt, ev_srk, evs_nil, evs_cons, evx_nil, evx_cons, evO_none, evO_some, evB_one, evB_and, evB_or, evT_nil, evT_one, exs_nil, exs_cons, nxt_nx, nxt_rt, nxt_exc, ex_asg, ex_own, ex_par, ex_app, ex_exn, ex_sti, ex_sto, ex_aug, ex_exp, ex_ret, ex_ifs, ex_fors, ex_whl, ex_rse, ex_tri, ex_frz, cstD, Tg.put, Tg.puts, startD, wipeD, kept_int, kept_bl, kept_str, kept_non, kept_tup, kept_lst, kept_ext, kept_ref, kept_fn, kept_exc, cmp_eq_int, cmp_ne_int, cmp_lt_int, cmp_le_int, cmp_gt_int, cmp_ge_int, List.map_cons, List.map_nil, List.length_cons, List.length_nil, Nat.reduceAdd, Nat.reduceSub, Nat.reduceLeDiff, List.replicate, List.cons_append, List.nil_append, List.append_nil, List.getElem?_cons_zero, List.getElem?_cons_succ, List.getElem?_nil, List.set_cons_zero, List.set_cons_succ, List.all_cons, List.all_nil, nown, Bool.and_true, Bool.true_and, Bool.and_false, Bool.false_and, if_true, if_false, Bool.false_eq_true, Bool.not_true, Bool.not_false, reduceIte, len6, Int.cast_ofNat_Int, beq_self_eq_true, Int.reduceBEq, Int.reduceAdd, Int.reduceNeg, decide_true, decide_false, Int.reduceLT, Int.reduceLE, Int.reduceToNat, add_int, e1, es, kept_rd, run_times P ht tq tc n hn, run_plus P hp tr tqc n hn, ixN_nat hlen, e3]
    rw [ih]
    simp
end
end L2.Z
set_option Elab.async false
set_option linter.all false
set_option maxRecDepth 100000
set_option maxHeartbeats 1000000
set_option exponentiation.threshold 9000
/-! ### portions: how many come, of all chances -/
namespace L2.Z
open PySem
theorem lcW_mapE {α : Type} {C : Cfg} {r : Env} {M : Mem} {elt : E} {tg : Tg} {ifs : List E} {own : List Nat} (emb res : α → D) : ∀ (l : List α), (∀ a ∈ l, ∃ r', tg.put (emb a) (wipeD r own) = some r' ∧ evT C ifs r' M = .ok true M ∧ ev C elt r' M = .ok (res a) M ∧ nown (res a) = true) → lcW C r M elt tg ifs own (l.map emb) = .ok (l.map res) M
  | [], _ => rfl
  | a :: l, h => by
    obtain ⟨r', h1, h2, h3, h4⟩ := h a List.mem_cons_self
    have ih := lcW_mapE (C := C) (r := r) (M := M) (elt := elt) (tg := tg) (ifs := ifs) (own := own) emb res l fun d hd => h d (List.mem_cons_of_mem _ hd)
    rw [List.map_cons, List.map_cons]
    unfold lcW at ih ⊢
    rw [mapE]
    simp only [calm, h1, h2, h3, bind_ok, kept_ok h4, ih]
theorem lcW_filtE {α : Type} {C : Cfg} {r : Env} {M : Mem} {elt : E} {tg : Tg} {ifs : List E} {own : List Nat} (emb res : α → D) (g : α → Bool) : ∀ (l : List α), (∀ a ∈ l, ∃ r', tg.put (emb a) (wipeD r own) = some r' ∧ evT C ifs r' M = .ok (g a) M ∧ (g a = true → ev C elt r' M = .ok (res a) M ∧ nown (res a) = true)) → lcW C r M elt tg ifs own (l.map emb) = .ok ((l.filter g).map res) M
  | [], _ => rfl
  | a :: l, h => by
    obtain ⟨r', h1, h2, h3⟩ := h a List.mem_cons_self
    have ih := lcW_filtE (C := C) (r := r) (M := M) (elt := elt) (tg := tg) (ifs := ifs) (own := own) emb res g l fun d hd => h d (List.mem_cons_of_mem _ hd)
    rw [List.map_cons]
    unfold lcW at ih ⊢
    rw [mapE]
    cases hg : g a with
    | true =>
      obtain ⟨h4, h5⟩ := h3 hg
      simp only [calm, h1, h2, hg, h4, bind_ok, kept_ok h5, if_true, ih, List.filter_cons, List.map_cons]
    | false =>
      simp only [calm, h1, h2, hg, bind_ok, ih, List.filter_cons, Bool.false_eq_true, if_false]
theorem add_lst (M : Mem) (xs ys : List D) (h : xs.length + ys.length ≤ sizeLine) : binD .Add M (.lst xs) (.lst ys) = some (.lst (xs ++ ys)) := by
  simp only [binD, addD, pview, lview, h, if_true]
theorem enm_rds (f : List Rat) : enmD (rds f) = (f.zipIdx 0).map fun p => .tup [.int (p.2 : Nat), rd p.1] := by
  unfold enmD rds
  apply List.ext_getElem
  · simp
  · intro i h1 h2
    simp
theorem rds_len (f : List Rat) : (rds f).length = f.length := by simp [rds]
theorem big_le {n : Nat} (h : n ≤ 1000) : n ≤ sizeLine := Nat.le_trans h (by decide)
def dProd (ds : List Nat) : Nat := ds.foldl (· * ·) 1
section
variable {T : Nat → Option Fn} {sub : Nat → Nat → Bool} {fc fs : Nat}
theorem cnt_outer (P : Port T fc fs) {ft fr fp : Nat} (ht : Has T ft 2 2 (L_times fs)) (hr : Has T fr 1 1 L_rest) (hp : Has T fp 2 2 (L_plus fs)) (n : Nat) (hn : 3 ≤ n) (M : Mem) (xs : L2.Z.D) {D' : Nat} (hD' : 0 < D') : ∀ (cs f : List Rat) (D : Nat) (o2 o3 o4 o5 o6 : Option L2.Z.D), (∀ c ∈ cs, Un1 D' c) → (∀ q ∈ f, Un1 D q) → 0 < D → 2 * (D * D' ^ cs.length) < 2 ^ 1900 → f.length + cs.length ≤ 900 →
    ∃ o2' o3' o4' o5' o6', forW ⟨callF T sub FUEL n, sub, FUEL⟩ [some xs, some (.lst (rds f)), o2, o3, o4, o5, o6] M (.nm 2 x0 p0) [.own 4 x0 p0 (.bin .Add (.lc (.call ft x0 p0 [(.var 3 x0 p0), (.call fr x0 p0 [(.var 2 x0 p0)] p0)] p0) (.nm 3 x0 p0) .one [(.var 1 x0 p0)] [] sc0 [(x0, 6), (x0, 3)] p0) (.lst [(.tup [(.cst (.int 0) 0 p0), (.cst (.int 1) 0 p0)] 0 p0)] p0) p0) p0, .fors (.tp [(.nm 5 x0 p0), (.nm 3 x0 p0)] 0 p0) (.enm p0 p0) [(.var 1 x0 p0)] [.sto 4 x0 p0 (.bin .Add (.var 5 x0 p0) (.cst (.int 1) 0 p0) p0) (.call fp x0 p0 [(.sub (.var 4 x0 p0) (.bin .Add (.var 5 x0 p0) (.cst (.int 1) 0 p0) p0) p0), (.call ft x0 p0 [(.var 3 x0 p0), (.var 2 x0 p0)] p0)] p0) p0 p0] p0, .frz [4] (.asg (.nm 1 x0 p0) (.var 4 x0 p0) p0)] (rds cs)
      = .ok (.nx [some xs, some (.lst (rds (cs.foldl stepQ f))), o2', o3', o4', o5', o6']) M ∧ (∀ q ∈ cs.foldl stepQ f, Un1 (D * D' ^ cs.length) q)
  | [], f, D, o2, o3, o4, o5, o6, _, hf, _, _, _ => ⟨o2, o3, o4, o5, o6, rfl, by simpa using hf⟩
  | c :: cs, f, D, o2, o3, o4, o5, o6, hc, hf, hD, hz, hlen => by
    have uc := hc c List.mem_cons_self
    have hlen : f.length + (cs.length + 1) ≤ 900 := hlen
    have hpow : D * D' ^ (cs.length + 1) = D * D' * D' ^ cs.length := by rw [Nat.pow_succ]; rw [Nat.mul_comm (D' ^ cs.length) D', Nat.mul_assoc]
    have hz' : 2 * (D * D' * D' ^ cs.length) < 2 ^ 1900 := by rw [← hpow]; exact hz
    have hz1 : 2 * (D * D') < 2 ^ 1900 := by
      have : D * D' ≤ D * D' * D' ^ cs.length := Nat.le_mul_of_pos_right _ (Nat.pow_pos hD')
      omega
    have d1 : D ≤ D * D' := Nat.le_mul_of_pos_right _ hD'
    have d2 : D' ≤ D * D' := Nat.le_mul_of_pos_left _ hD
    have bd : 2 * (D * D') < 2 ^ 2000 := Nat.lt_of_lt_of_le hz1 (pow_le' (by decide))
    have tr : Tame (1 - c) := uc.rest.sz.tame (by omega)
    have lc : ∀ M, lcW ⟨callF T sub FUEL n, sub, FUEL⟩ [some xs, some (.lst (rds f)), some (rd c), o3, o4, o5, o6] M (.call ft x0 p0 [(.var 3 x0 p0), (.call fr x0 p0 [(.var 2 x0 p0)] p0)] p0) (.nm 3 x0 p0) [] [6, 3] (rds f) = .ok (rds (f.map (· * (1 - c)))) M := fun M => by
      have := lcW_mapE (C := ⟨callF T sub FUEL n, sub, FUEL⟩) (r := [some xs, some (.lst (rds f)), some (rd c), o3, o4, o5, o6]) (M := M) (elt := .call ft x0 p0 [(.var 3 x0 p0), (.call fr x0 p0 [(.var 2 x0 p0)] p0)] p0) (tg := .nm 3 x0 p0) (ifs := []) (own := [6, 3]) rd (fun q => rd (q * (1 - c))) f fun q hq => by
        have tq : Tame q := (hf q hq).sz.tame (by omega)
        refine ⟨_, rfl, by rw [evT_nil], ?_, rfl⟩
        simp only [ends_rt, ends_nx, ends_exc, bind_ok, bind_exc, ret_some, retB_some, retL_some, retE_some, ev_var, ev_cst, ev_gint, ev_gstr, ev_gfn, ev_bin, ev_neg, ev_not, ev_bop, ev_cmp, ev_chain, ev_ite, ev_call, ev_isi, ev_blt, ev_mth, ev_sub, ev_slc, ev_tup, ev_lst, ev_lc, ev_live, ev_srt, ev_srk, evs_nil, evs_cons, evx_nil, evx_cons, evO_none, evO_some, evB_one, evB_and, evB_or, evT_nil, evT_one, exs_nil, exs_cons, nxt_nx, nxt_rt, nxt_exc, ex_asg, ex_own, ex_par, ex_app, ex_exn, ex_sti, ex_sto, ex_aug, ex_exp, ex_ret, ex_ifs, ex_fors, ex_whl, ex_rse, ex_tri, ex_frz, cstD, Tg.put, Tg.puts, startD, wipeD, kept_int, kept_bl, kept_str, kept_non, kept_tup, kept_lst, kept_ext, kept_ref, kept_fn, kept_exc, cmp_eq_int, cmp_ne_int, cmp_lt_int, cmp_le_int, cmp_gt_int, cmp_ge_int, List.map_cons, List.map_nil, List.length_cons, List.length_nil, Nat.reduceAdd, Nat.reduceSub, Nat.reduceLeDiff, List.replicate, List.cons_append, List.nil_append, List.append_nil, List.getElem?_cons_zero, List.getElem?_cons_succ, List.getElem?_nil, List.set_cons_zero, List.set_cons_succ, List.all_cons, List.all_nil, nown, Bool.and_true, Bool.true_and, Bool.and_false, Bool.false_and, if_true, if_false, Bool.false_eq_true, Bool.not_true, Bool.not_false, reduceIte, len6, Int.cast_ofNat_Int, beq_self_eq_true, Int.reduceBEq, Int.reduceAdd, Int.reduceNeg, decide_true, decide_false, Int.reduceLT, Int.reduceLE, Int.reduceToNat, kept_rd, run_rest hr c n (Nat.le_trans (by decide) hn), run_times P ht tq tr n hn]
      rw [show rds (f.map (· * (1 - c))) = f.map (fun q => rd (q * (1 - c))) by simp [rds]]
      exact this
    obtain ⟨a, restL, ha⟩ : ∃ a l, f.map (· * (1 - c)) ++ [0] = a :: l := by
      cases f with
      | nil => exact ⟨0, [], rfl⟩
      | cons q f => exact ⟨_, _, rfl⟩
    have hl2 : restL.length = f.length := by
      have := congrArg List.length ha
      simpa using this.symm
    have un0 : ∀ q ∈ a :: restL, Un1 (D * D') q := by
      intro q hq
      rw [← ha] at hq
      rcases List.mem_append.mp hq with h | h
      · obtain ⟨p, hp', rfl⟩ := List.mem_map.mp h
        exact (hf p hp').mul uc.rest
      · have : q = 0 := by simpa using h
        rw [this]; exact Un1.zero (Nat.mul_pos hD hD')
    obtain ⟨o3', o5', hin⟩ := cnt_inner (sub := sub) P ht hp hz1 uc n hn M xs (.lst (rds f)) o6 f [a] restL 0 o3 o5 hf (fun q hq => un0 q (List.mem_cons_of_mem _ hq)) hl2 rfl
    have estep : [a] ++ List.zipWith (· + ·) restL (f.map (· * c)) = stepQ f c := by
      unfold stepQ
      rw [ha]
      simp [Rat.add_zero]
    rw [estep] at hin
    rw [show [a] ++ restL = a :: restL from rfl] at hin
    obtain ⟨o2', o3'', o4', o5'', o6', ih, hun⟩ := cnt_outer P ht hr hp n hn M xs hD' cs (stepQ f c) (D * D') (some (rd c)) o3' (some (.lst (rds (stepQ f c)))) o5' o6 (fun c hc' => hc c (List.mem_cons_of_mem _ hc')) (stepQ_un hD hf uc) (Nat.mul_pos hD hD') hz' (by rw [stepQ_len]; omega)
    refine ⟨o2', o3'', o4', o5'', o6', ?_, ?_⟩
    · show forW _ _ _ _ _ (rd c :: rds cs) = _
      rw [forW_cons]
      have hb1 : ((rds (f.map (· * (1 - c)))).length + 1 ≤ sizeLine) := big_le (by rw [rds_len, List.length_map]; omega)
      have hb2 : (rds (f.map (· * (1 - c)))).length ≤ sizeLine := by omega
      have e0 : rds (f.map (· * (1 - c))) ++ [.tup [.int 0, .int 1]] = rds (a :: restL) := by
        rw [show (a :: restL) = f.map (· * (1 - c)) ++ [0] from ha.symm]
        simp [rds, rd_0]
      simp only [ends_rt, ends_nx, ends_exc, bind_ok, bind_exc, ret_some, retB_some, retL_some, retE_some, ev_var, ev_cst, ev_gint, ev_gstr, ev_gfn, ev_bin, ev_neg, ev_not, ev_bop, ev_cmp, ev_chain, ev_ite, ev_call, ev_isi, ev_blt, ev_mth, ev_sub, ev_slc, ev_tup, ev_lst, ev_lc, ev_live, ev_srt, ev_srk, evs_nil, evs_cons, evx_nil, evx_cons, evO_none, evO_some, evB_one, evB_and, evB_or, evT_nil, evT_one, exs_nil, exs_cons, nxt_nx, nxt_rt, nxt_exc, ex_asg, ex_own, ex_par, ex_app, ex_exn, ex_sti, ex_sto, ex_aug, ex_exp, ex_ret, ex_ifs, ex_fors, ex_whl, ex_rse, ex_tri, ex_frz, cstD, Tg.put, Tg.puts, startD, wipeD, kept_int, kept_bl, kept_str, kept_non, kept_tup, kept_lst, kept_ext, kept_ref, kept_fn, kept_exc, cmp_eq_int, cmp_ne_int, cmp_lt_int, cmp_le_int, cmp_gt_int, cmp_ge_int, List.map_cons, List.map_nil, List.length_cons, List.length_nil, Nat.reduceAdd, Nat.reduceSub, Nat.reduceLeDiff, List.replicate, List.cons_append, List.nil_append, List.append_nil, List.getElem?_cons_zero, List.getElem?_cons_succ, List.getElem?_nil, List.set_cons_zero, List.set_cons_succ, List.all_cons, List.all_nil, nown, Bool.and_true, Bool.true_and, Bool.and_false, Bool.false_and, if_true, if_false, Bool.false_eq_true, Bool.not_true, Bool.not_false, reduceIte, len6, Int.cast_ofNat_Int, beq_self_eq_true, Int.reduceBEq, Int.reduceAdd, Int.reduceNeg, decide_true, decide_false, Int.reduceLT, Int.reduceLE, Int.reduceToNat, isNew, srcD, items, litems, lc, hb2, add_lst _ (rds (f.map (· * (1 - c)))) [.tup [.int 0, .int 1]] hb1, e0, Option.map_some, enm_rds, hin, fzs, kept_lst]
      exact ih
    · rw [List.foldl_cons, List.length_cons, hpow]
      exact hun
theorem run_counted (P : Port T fc fs) {f ft fr fp : Nat} (ht : Has T ft 2 2 (L_times fs)) (hr : Has T fr 1 1 L_rest) (hp : Has T fp 2 2 (L_plus fs)) (h : Has T f 1 7 (L_counted ft fr fp)) {D' : Nat} (hD' : 0 < D') {cs : List Rat} (hc : ∀ c ∈ cs, Un1 D' c) (hz : 2 * D' ^ cs.length < 2 ^ 1900) (hl : cs.length ≤ 800) :
    Cal T sub FUEL 4 f [.lst (rds cs)] (.lst (rds (cntQ cs))) ∧ (∀ q ∈ cntQ cs, Un1 (D' ^ cs.length) q) := by
  have key := fun n hn M => cnt_outer (sub := sub) P ht hr hp n hn M (.lst (rds cs)) hD' cs [1] 1 none none none none none hc (fun q hq => by
    have : q = 1 := by simpa using hq
    rw [this]; exact Un1.one (by decide)) (by decide) (by rw [Nat.one_mul]; exact hz) (by show 1 + cs.length ≤ 900; omega)
  refine ⟨cal_of (k := 3) h rfl fun n hn M => ?_, ?_⟩
  · obtain ⟨o2, o3, o4, o5, o6, e, _⟩ := key n hn M
    unfold L_counted
    simp only [ends_rt, ends_nx, ends_exc, bind_ok, bind_exc, ret_some, retB_some, retL_some, retE_some, ev_var, ev_cst, ev_gint, ev_gstr, ev_gfn, ev_bin, ev_neg, ev_not, ev_bop, ev_cmp, ev_chain, ev_ite, ev_call, ev_isi, ev_blt, ev_mth, ev_sub, ev_slc, ev_tup, ev_lst, ev_lc, ev_live, ev_srt, ev_srk, evs_nil, evs_cons, evx_nil, evx_cons, evO_none, evO_some, evB_one, evB_and, evB_or, evT_nil, evT_one, exs_nil, exs_cons, nxt_nx, nxt_rt, nxt_exc, ex_asg, ex_own, ex_par, ex_app, ex_exn, ex_sti, ex_sto, ex_aug, ex_exp, ex_ret, ex_ifs, ex_fors, ex_whl, ex_rse, ex_tri, ex_frz, cstD, Tg.put, Tg.puts, startD, wipeD, kept_int, kept_bl, kept_str, kept_non, kept_tup, kept_lst, kept_ext, kept_ref, kept_fn, kept_exc, cmp_eq_int, cmp_ne_int, cmp_lt_int, cmp_le_int, cmp_gt_int, cmp_ge_int, List.map_cons, List.map_nil, List.length_cons, List.length_nil, Nat.reduceAdd, Nat.reduceSub, Nat.reduceLeDiff, List.replicate, List.cons_append, List.nil_append, List.append_nil, List.getElem?_cons_zero, List.getElem?_cons_succ, List.getElem?_nil, List.set_cons_zero, List.set_cons_succ, List.all_cons, List.all_nil, nown, Bool.and_true, Bool.true_and, Bool.and_false, Bool.false_and, if_true, if_false, Bool.false_eq_true, Bool.not_true, Bool.not_false, reduceIte, len6, Int.cast_ofNat_Int, beq_self_eq_true, Int.reduceBEq, Int.reduceAdd, Int.reduceNeg, decide_true, decide_false, Int.reduceLT, Int.reduceLE, Int.reduceToNat, srcD, items, litems, len6]
    rw [show (.lst [.tup [.int 1, .int 1]] : L2.Z.D) = .lst (rds [1]) from rfl, e]
    simp only [ends_rt, ends_nx, ends_exc, bind_ok, bind_exc, ret_some, retB_some, retL_some, retE_some, ev_var, ev_cst, ev_gint, ev_gstr, ev_gfn, ev_bin, ev_neg, ev_not, ev_bop, ev_cmp, ev_chain, ev_ite, ev_call, ev_isi, ev_blt, ev_mth, ev_sub, ev_slc, ev_tup, ev_lst, ev_lc, ev_live, ev_srt, ev_srk, evs_nil, evs_cons, evx_nil, evx_cons, evO_none, evO_some, evB_one, evB_and, evB_or, evT_nil, evT_one, exs_nil, exs_cons, nxt_nx, nxt_rt, nxt_exc, ex_asg, ex_own, ex_par, ex_app, ex_exn, ex_sti, ex_sto, ex_aug, ex_exp, ex_ret, ex_ifs, ex_fors, ex_whl, ex_rse, ex_tri, ex_frz, cstD, Tg.put, Tg.puts, startD, wipeD, kept_int, kept_bl, kept_str, kept_non, kept_tup, kept_lst, kept_ext, kept_ref, kept_fn, kept_exc, cmp_eq_int, cmp_ne_int, cmp_lt_int, cmp_le_int, cmp_gt_int, cmp_ge_int, List.map_cons, List.map_nil, List.length_cons, List.length_nil, Nat.reduceAdd, Nat.reduceSub, Nat.reduceLeDiff, List.replicate, List.cons_append, List.nil_append, List.append_nil, List.getElem?_cons_zero, List.getElem?_cons_succ, List.getElem?_nil, List.set_cons_zero, List.set_cons_succ, List.all_cons, List.all_nil, nown, Bool.and_true, Bool.true_and, Bool.and_false, Bool.false_and, if_true, if_false, Bool.false_eq_true, Bool.not_true, Bool.not_false, reduceIte, len6, Int.cast_ofNat_Int, beq_self_eq_true, Int.reduceBEq, Int.reduceAdd, Int.reduceNeg, decide_true, decide_false, Int.reduceLT, Int.reduceLE, Int.reduceToNat]
    rfl
  · obtain ⟨o2, o3, o4, o5, o6, _, hu⟩ := key 3 (Nat.le_refl _) []
    rw [Nat.one_mul] at hu
    exact hu
end
end L2.Z
set_option Elab.async false
set_option linter.all false
set_option maxRecDepth 100000
set_option maxHeartbeats 1000000
set_option exponentiation.threshold 9000
/-! ### what is a house: parts -/
namespace L2.Z
open PySem
mutual
/-- plain data of fair size -/
def plB : D → Bool
  | .non => true
  | .bl _ => true
  | .int i => decide (i.natAbs < 2 ^ 4000)
  | .str z => PyData.strOk z && decide (z.length ≤ 1000)
  | .tup xs => plBs xs && decide (xs.length ≤ 1000)
  | .lst xs => plBs xs && decide (xs.length ≤ 1000)
  | _ => false
def plBs : List D → Bool
  | [] => true
  | x :: xs => plB x && plBs xs
end
theorem plBs_mem : ∀ {xs : List D} {x : D}, plBs xs = true → x ∈ xs → plB x = true
  | _ :: _, _, h, hx => by
    simp only [plBs, Bool.and_eq_true] at h
    rcases List.mem_cons.mp hx with q | q
    · subst q; exact h.1
    · exact plBs_mem h.2 q
mutual
theorem pl_py : ∀ d : D, plB d = true → pyOk d = true
  | .non, _ => rfl
  | .bl _, _ => rfl
  | .int _, _ => rfl
  | .str z, h => by simp only [plB, Bool.and_eq_true] at h; simpa only [pyOk] using h.1
  | .tup xs, h => by simp only [plB, Bool.and_eq_true] at h; simpa only [pyOk] using pls_py xs h.1
  | .lst xs, h => by simp only [plB, Bool.and_eq_true] at h; simpa only [pyOk] using pls_py xs h.1
theorem pls_py : ∀ ds : List D, plBs ds = true → pyOks ds = true
  | [], _ => rfl
  | d :: ds, h => by
    simp only [plBs, Bool.and_eq_true] at h
    simp only [pyOks, Bool.and_eq_true]
    exact ⟨pl_py d h.1, pls_py ds h.2⟩
end
theorem all_bl {α : Type} (M : Mem) (l : List α) (g : α → Bool) : bltD .all M [.lst (l.map fun a => .bl (g a))] = some (.bl (l.all g)) := by
  have e : ∀ l : List α, bls (l.map fun a => D.bl (g a)) = some (l.map g) := by
    intro l
    induction l with
    | nil => rfl
    | cons a l ih => simp only [List.map_cons, bls, asB, ih]
  simp only [bltD, lview, Option.bind_some, e, Option.map_some]
  congr 2
  induction l with
  | nil => rfl
  | cons a l ih => simp only [List.map_cons, List.all_cons, id, ih]
def isWholeD (d : D) (lo hi : Int) : Bool := match d with
  | .int i => decide (lo ≤ i) && decide (i ≤ hi)
  | _ => false
def letters : List Nat := ("abcdefghijklmnopqrstuvwxyz" : Str).cps.toList
def isWord (z : Str) : Bool := decide (1 ≤ z.length) && (decide (z.length ≤ 8) && z.cps.toList.all fun c => decide (c ∈ letters))
def isWordD : D → Bool
  | .str z => isWord z
  | _ => false
def L_is_whole : List S := [
  .ret (.bop .And [(.isi (.var 0 x0 p0) .int p0 p0 p0), (.not (.isi (.var 0 x0 p0) .bool p0 p0 p0) p0), (.chain .LtE .LtE (.var 1 x0 p0) (.var 0 x0 p0) (.var 2 x0 p0) p0)] p0) p0]
def L_is_word : List S := [
  .ret (.bop .And [(.isi (.var 0 x0 p0) .str p0 p0 p0), (.chain .LtE .LtE (.cst (.int 1) 0 p0) (.blt .len p0 [(.var 0 x0 p0)] p0) (.cst (.int 8) 0 p0) p0), (.blt .all p0 [(.lc (.cmp .In (.var 2 x0 p0) (.gstr x0 "abcdefghijklmnopqrstuvwxyz" p0) p0) (.nm 2 x0 p0) .one [(.var 0 x0 p0)] [] sc0 [(x0, 1), (x0, 2)] p0)] p0)] p0) p0]
section
variable {T : Nat → Option Fn} {sub : Nat → Nat → Bool} {fuel : Nat}
theorem run_is_whole {f : Nat} (h : Has T f 3 3 L_is_whole) (d : D) (lo hi : Int) (hd : plB d = true) : Cal T sub fuel 1 f [d, .int lo, .int hi] (.bl (isWholeD d lo hi)) := by
  refine cal_of (k := 0) h rfl fun n hn M => ?_
  unfold L_is_whole isWholeD
  cases d with
  | int i =>
    by_cases h1 : lo ≤ i
    · simp only [ends_rt, ends_nx, ends_exc, bind_ok, bind_exc, ret_some, retB_some, retL_some, retE_some, ev_var, ev_cst, ev_gint, ev_gstr, ev_gfn, ev_bin, ev_neg, ev_not, ev_bop, ev_cmp, ev_chain, ev_ite, ev_call, ev_isi, ev_blt, ev_mth, ev_sub, ev_slc, ev_tup, ev_lst, ev_lc, ev_live, ev_srt, ev_srk, evs_nil, evs_cons, evx_nil, evx_cons, evO_none, evO_some, evB_one, evB_and, evB_or, evT_nil, evT_one, exs_nil, exs_cons, nxt_nx, nxt_rt, nxt_exc, ex_asg, ex_own, ex_par, ex_app, ex_exn, ex_sti, ex_sto, ex_aug, ex_exp, ex_ret, ex_ifs, ex_fors, ex_whl, ex_rse, ex_tri, ex_frz, cstD, Tg.put, Tg.puts, startD, wipeD, kept_int, kept_bl, kept_str, kept_non, kept_tup, kept_lst, kept_ext, kept_ref, kept_fn, kept_exc, cmp_eq_int, cmp_ne_int, cmp_lt_int, cmp_le_int, cmp_gt_int, cmp_ge_int, List.map_cons, List.map_nil, List.length_cons, List.length_nil, Nat.reduceAdd, Nat.reduceSub, Nat.reduceLeDiff, List.replicate, List.cons_append, List.nil_append, List.append_nil, List.getElem?_cons_zero, List.getElem?_cons_succ, List.getElem?_nil, List.set_cons_zero, List.set_cons_succ, List.all_cons, List.all_nil, nown, Bool.and_true, Bool.true_and, Bool.and_false, Bool.false_and, if_true, if_false, Bool.false_eq_true, Bool.not_true, Bool.not_false, reduceIte, len6, Int.cast_ofNat_Int, beq_self_eq_true, Int.reduceBEq, Int.reduceAdd, Int.reduceNeg, decide_true, decide_false, Int.reduceLT, Int.reduceLE, Int.reduceToNat, isiD, h1, decide_true]
    · simp only [ends_rt, ends_nx, ends_exc, bind_ok, bind_exc, ret_some, retB_some, retL_some, retE_some, ev_var, ev_cst, ev_gint, ev_gstr, ev_gfn, ev_bin, ev_neg, ev_not, ev_bop, ev_cmp, ev_chain, ev_ite, ev_call, ev_isi, ev_blt, ev_mth, ev_sub, ev_slc, ev_tup, ev_lst, ev_lc, ev_live, ev_srt, ev_srk, evs_nil, evs_cons, evx_nil, evx_cons, evO_none, evO_some, evB_one, evB_and, evB_or, evT_nil, evT_one, exs_nil, exs_cons, nxt_nx, nxt_rt, nxt_exc, ex_asg, ex_own, ex_par, ex_app, ex_exn, ex_sti, ex_sto, ex_aug, ex_exp, ex_ret, ex_ifs, ex_fors, ex_whl, ex_rse, ex_tri, ex_frz, cstD, Tg.put, Tg.puts, startD, wipeD, kept_int, kept_bl, kept_str, kept_non, kept_tup, kept_lst, kept_ext, kept_ref, kept_fn, kept_exc, cmp_eq_int, cmp_ne_int, cmp_lt_int, cmp_le_int, cmp_gt_int, cmp_ge_int, List.map_cons, List.map_nil, List.length_cons, List.length_nil, Nat.reduceAdd, Nat.reduceSub, Nat.reduceLeDiff, List.replicate, List.cons_append, List.nil_append, List.append_nil, List.getElem?_cons_zero, List.getElem?_cons_succ, List.getElem?_nil, List.set_cons_zero, List.set_cons_succ, List.all_cons, List.all_nil, nown, Bool.and_true, Bool.true_and, Bool.and_false, Bool.false_and, if_true, if_false, Bool.false_eq_true, Bool.not_true, Bool.not_false, reduceIte, len6, Int.cast_ofNat_Int, beq_self_eq_true, Int.reduceBEq, Int.reduceAdd, Int.reduceNeg, decide_true, decide_false, Int.reduceLT, Int.reduceLE, Int.reduceToNat, isiD, h1, decide_false]
  | exc c => cases hd
  | ref c => cases hd
  | fn c => cases hd
  | ext c => cases hd
  | own c => cases hd
  | dct c => cases hd
  | _ => simp only [ends_rt, ends_nx, ends_exc, bind_ok, bind_exc, ret_some, retB_some, retL_some, retE_some, ev_var, ev_cst, ev_gint, ev_gstr, ev_gfn, ev_bin, ev_neg, ev_not, ev_bop, ev_cmp, ev_chain, ev_ite, ev_call, ev_isi, ev_blt, ev_mth, ev_sub, ev_slc, ev_tup, ev_lst, ev_lc, ev_live, ev_srt, ev_srk, evs_nil, evs_cons, evx_nil, evx_cons, evO_none, evO_some, evB_one, evB_and, evB_or, evT_nil, evT_one, exs_nil, exs_cons, nxt_nx, nxt_rt, nxt_exc, ex_asg, ex_own, ex_par, ex_app, ex_exn, ex_sti, ex_sto, ex_aug, ex_exp, ex_ret, ex_ifs, ex_fors, ex_whl, ex_rse, ex_tri, ex_frz, cstD, Tg.put, Tg.puts, startD, wipeD, kept_int, kept_bl, kept_str, kept_non, kept_tup, kept_lst, kept_ext, kept_ref, kept_fn, kept_exc, cmp_eq_int, cmp_ne_int, cmp_lt_int, cmp_le_int, cmp_gt_int, cmp_ge_int, List.map_cons, List.map_nil, List.length_cons, List.length_nil, Nat.reduceAdd, Nat.reduceSub, Nat.reduceLeDiff, List.replicate, List.cons_append, List.nil_append, List.append_nil, List.getElem?_cons_zero, List.getElem?_cons_succ, List.getElem?_nil, List.set_cons_zero, List.set_cons_succ, List.all_cons, List.all_nil, nown, Bool.and_true, Bool.true_and, Bool.and_false, Bool.false_and, if_true, if_false, Bool.false_eq_true, Bool.not_true, Bool.not_false, reduceIte, len6, Int.cast_ofNat_Int, beq_self_eq_true, Int.reduceBEq, Int.reduceAdd, Int.reduceNeg, decide_true, decide_false, Int.reduceLT, Int.reduceLE, Int.reduceToNat, isiD]
theorem len_str (M : Mem) (z : Str) (h : z.length ≤ 1000) : bltD .len M [.str z] = some (.int z.length) := by
  simp only [bltD, big_le h, if_true]
theorem in_letters (M : Mem) (c : Nat) : cmpD .In M (.str ⟨#[c]⟩) (.str "abcdefghijklmnopqrstuvwxyz") = some (decide (c ∈ letters)) := rfl
theorem run_is_word {f : Nat} (h : Has T f 1 3 L_is_word) (d : D) (hd : plB d = true) : Cal T sub fuel 1 f [d] (.bl (isWordD d)) := by
  refine cal_of (k := 0) h rfl fun n hn M => ?_
  unfold L_is_word
  cases d with
  | str z =>
    simp only [plB, Bool.and_eq_true, decide_eq_true_eq] at hd
    have hl : z.length ≤ 1000 := hd.2
    show _ = R.ok (D.bl (isWord z)) M
    unfold isWord
    by_cases h1 : (1 : Int) ≤ (z.length : Int)
    · have h1' : 1 ≤ z.length := by omega
      by_cases h2 : (z.length : Int) ≤ 8
      · have h2' : z.length ≤ 8 := by omega
        have lc : ∀ M, lcW ⟨callF T sub fuel n, sub, fuel⟩ [some (.str z), none, none] M (.cmp .In (.var 2 x0 p0) (.gstr x0 "abcdefghijklmnopqrstuvwxyz" p0) p0) (.nm 2 x0 p0) [] [1, 2] (z.cps.toList.map fun c => .str ⟨#[c]⟩) = .ok (z.cps.toList.map fun c => .bl (decide (c ∈ letters))) M := fun M =>
          lcW_mapE (fun c : Nat => D.str ⟨#[c]⟩) (fun c => .bl (decide (c ∈ letters))) z.cps.toList fun c _ => ⟨_, rfl, by rw [evT_nil], by simp only [ends_rt, ends_nx, ends_exc, bind_ok, bind_exc, ret_some, retB_some, retL_some, retE_some, ev_var, ev_cst, ev_gint, ev_gstr, ev_gfn, ev_bin, ev_neg, ev_not, ev_bop, ev_cmp, ev_chain, ev_ite, ev_call, ev_isi, ev_blt, ev_mth, ev_sub, ev_slc, ev_tup, ev_lst, ev_lc, ev_live, ev_srt, ev_srk, evs_nil, evs_cons, evx_nil, evx_cons, evO_none, evO_some, evB_one, evB_and, evB_or, evT_nil, evT_one, exs_nil, exs_cons, nxt_nx, nxt_rt, nxt_exc, ex_asg, ex_own, ex_par, ex_app, ex_exn, ex_sti, ex_sto, ex_aug, ex_exp, ex_ret, ex_ifs, ex_fors, ex_whl, ex_rse, ex_tri, ex_frz, cstD, Tg.put, Tg.puts, startD, wipeD, kept_int, kept_bl, kept_str, kept_non, kept_tup, kept_lst, kept_ext, kept_ref, kept_fn, kept_exc, cmp_eq_int, cmp_ne_int, cmp_lt_int, cmp_le_int, cmp_gt_int, cmp_ge_int, List.map_cons, List.map_nil, List.length_cons, List.length_nil, Nat.reduceAdd, Nat.reduceSub, Nat.reduceLeDiff, List.replicate, List.cons_append, List.nil_append, List.append_nil, List.getElem?_cons_zero, List.getElem?_cons_succ, List.getElem?_nil, List.set_cons_zero, List.set_cons_succ, List.all_cons, List.all_nil, nown, Bool.and_true, Bool.true_and, Bool.and_false, Bool.false_and, if_true, if_false, Bool.false_eq_true, Bool.not_true, Bool.not_false, reduceIte, len6, Int.cast_ofNat_Int, beq_self_eq_true, Int.reduceBEq, Int.reduceAdd, Int.reduceNeg, decide_true, decide_false, Int.reduceLT, Int.reduceLE, Int.reduceToNat, in_letters], rfl⟩
        have hb : (z.cps.toList.map fun c => D.bl (decide (c ∈ letters))).length ≤ sizeLine := big_le (by rw [List.length_map]; exact hl)
        simp only [ends_rt, ends_nx, ends_exc, bind_ok, bind_exc, ret_some, retB_some, retL_some, retE_some, ev_var, ev_cst, ev_gint, ev_gstr, ev_gfn, ev_bin, ev_neg, ev_not, ev_bop, ev_cmp, ev_chain, ev_ite, ev_call, ev_isi, ev_blt, ev_mth, ev_sub, ev_slc, ev_tup, ev_lst, ev_lc, ev_live, ev_srt, ev_srk, evs_nil, evs_cons, evx_nil, evx_cons, evO_none, evO_some, evB_one, evB_and, evB_or, evT_nil, evT_one, exs_nil, exs_cons, nxt_nx, nxt_rt, nxt_exc, ex_asg, ex_own, ex_par, ex_app, ex_exn, ex_sti, ex_sto, ex_aug, ex_exp, ex_ret, ex_ifs, ex_fors, ex_whl, ex_rse, ex_tri, ex_frz, cstD, Tg.put, Tg.puts, startD, wipeD, kept_int, kept_bl, kept_str, kept_non, kept_tup, kept_lst, kept_ext, kept_ref, kept_fn, kept_exc, cmp_eq_int, cmp_ne_int, cmp_lt_int, cmp_le_int, cmp_gt_int, cmp_ge_int, List.map_cons, List.map_nil, List.length_cons, List.length_nil, Nat.reduceAdd, Nat.reduceSub, Nat.reduceLeDiff, List.replicate, List.cons_append, List.nil_append, List.append_nil, List.getElem?_cons_zero, List.getElem?_cons_succ, List.getElem?_nil, List.set_cons_zero, List.set_cons_succ, List.all_cons, List.all_nil, nown, Bool.and_true, Bool.true_and, Bool.and_false, Bool.false_and, if_true, if_false, Bool.false_eq_true, Bool.not_true, Bool.not_false, reduceIte, len6, Int.cast_ofNat_Int, beq_self_eq_true, Int.reduceBEq, Int.reduceAdd, Int.reduceNeg, decide_true, decide_false, Int.reduceLT, Int.reduceLE, Int.reduceToNat, isiD, len_str _ _ hl, h1, h2, h1', h2', decide_true, srcD, items, lc, hb, all_bl]
      · have h2' : ¬ z.length ≤ 8 := by omega
        simp only [ends_rt, ends_nx, ends_exc, bind_ok, bind_exc, ret_some, retB_some, retL_some, retE_some, ev_var, ev_cst, ev_gint, ev_gstr, ev_gfn, ev_bin, ev_neg, ev_not, ev_bop, ev_cmp, ev_chain, ev_ite, ev_call, ev_isi, ev_blt, ev_mth, ev_sub, ev_slc, ev_tup, ev_lst, ev_lc, ev_live, ev_srt, ev_srk, evs_nil, evs_cons, evx_nil, evx_cons, evO_none, evO_some, evB_one, evB_and, evB_or, evT_nil, evT_one, exs_nil, exs_cons, nxt_nx, nxt_rt, nxt_exc, ex_asg, ex_own, ex_par, ex_app, ex_exn, ex_sti, ex_sto, ex_aug, ex_exp, ex_ret, ex_ifs, ex_fors, ex_whl, ex_rse, ex_tri, ex_frz, cstD, Tg.put, Tg.puts, startD, wipeD, kept_int, kept_bl, kept_str, kept_non, kept_tup, kept_lst, kept_ext, kept_ref, kept_fn, kept_exc, cmp_eq_int, cmp_ne_int, cmp_lt_int, cmp_le_int, cmp_gt_int, cmp_ge_int, List.map_cons, List.map_nil, List.length_cons, List.length_nil, Nat.reduceAdd, Nat.reduceSub, Nat.reduceLeDiff, List.replicate, List.cons_append, List.nil_append, List.append_nil, List.getElem?_cons_zero, List.getElem?_cons_succ, List.getElem?_nil, List.set_cons_zero, List.set_cons_succ, List.all_cons, List.all_nil, nown, Bool.and_true, Bool.true_and, Bool.and_false, Bool.false_and, if_true, if_false, Bool.false_eq_true, Bool.not_true, Bool.not_false, reduceIte, len6, Int.cast_ofNat_Int, beq_self_eq_true, Int.reduceBEq, Int.reduceAdd, Int.reduceNeg, decide_true, decide_false, Int.reduceLT, Int.reduceLE, Int.reduceToNat, isiD, len_str _ _ hl, h1, h2, h1', h2', decide_true, decide_false]
    · have h1' : ¬ 1 ≤ z.length := by omega
      simp only [ends_rt, ends_nx, ends_exc, bind_ok, bind_exc, ret_some, retB_some, retL_some, retE_some, ev_var, ev_cst, ev_gint, ev_gstr, ev_gfn, ev_bin, ev_neg, ev_not, ev_bop, ev_cmp, ev_chain, ev_ite, ev_call, ev_isi, ev_blt, ev_mth, ev_sub, ev_slc, ev_tup, ev_lst, ev_lc, ev_live, ev_srt, ev_srk, evs_nil, evs_cons, evx_nil, evx_cons, evO_none, evO_some, evB_one, evB_and, evB_or, evT_nil, evT_one, exs_nil, exs_cons, nxt_nx, nxt_rt, nxt_exc, ex_asg, ex_own, ex_par, ex_app, ex_exn, ex_sti, ex_sto, ex_aug, ex_exp, ex_ret, ex_ifs, ex_fors, ex_whl, ex_rse, ex_tri, ex_frz, cstD, Tg.put, Tg.puts, startD, wipeD, kept_int, kept_bl, kept_str, kept_non, kept_tup, kept_lst, kept_ext, kept_ref, kept_fn, kept_exc, cmp_eq_int, cmp_ne_int, cmp_lt_int, cmp_le_int, cmp_gt_int, cmp_ge_int, List.map_cons, List.map_nil, List.length_cons, List.length_nil, Nat.reduceAdd, Nat.reduceSub, Nat.reduceLeDiff, List.replicate, List.cons_append, List.nil_append, List.append_nil, List.getElem?_cons_zero, List.getElem?_cons_succ, List.getElem?_nil, List.set_cons_zero, List.set_cons_succ, List.all_cons, List.all_nil, nown, Bool.and_true, Bool.true_and, Bool.and_false, Bool.false_and, if_true, if_false, Bool.false_eq_true, Bool.not_true, Bool.not_false, reduceIte, len6, Int.cast_ofNat_Int, beq_self_eq_true, Int.reduceBEq, Int.reduceAdd, Int.reduceNeg, decide_true, decide_false, Int.reduceLT, Int.reduceLE, Int.reduceToNat, isiD, len_str _ _ hl, h1, h1', decide_false]
  | exc c => cases hd
  | ref c => cases hd
  | fn c => cases hd
  | ext c => cases hd
  | own c => cases hd
  | dct c => cases hd
  | _ => simp only [ends_rt, ends_nx, ends_exc, bind_ok, bind_exc, ret_some, retB_some, retL_some, retE_some, ev_var, ev_cst, ev_gint, ev_gstr, ev_gfn, ev_bin, ev_neg, ev_not, ev_bop, ev_cmp, ev_chain, ev_ite, ev_call, ev_isi, ev_blt, ev_mth, ev_sub, ev_slc, ev_tup, ev_lst, ev_lc, ev_live, ev_srt, ev_srk, evs_nil, evs_cons, evx_nil, evx_cons, evO_none, evO_some, evB_one, evB_and, evB_or, evT_nil, evT_one, exs_nil, exs_cons, nxt_nx, nxt_rt, nxt_exc, ex_asg, ex_own, ex_par, ex_app, ex_exn, ex_sti, ex_sto, ex_aug, ex_exp, ex_ret, ex_ifs, ex_fors, ex_whl, ex_rse, ex_tri, ex_frz, cstD, Tg.put, Tg.puts, startD, wipeD, kept_int, kept_bl, kept_str, kept_non, kept_tup, kept_lst, kept_ext, kept_ref, kept_fn, kept_exc, cmp_eq_int, cmp_ne_int, cmp_lt_int, cmp_le_int, cmp_gt_int, cmp_ge_int, List.map_cons, List.map_nil, List.length_cons, List.length_nil, Nat.reduceAdd, Nat.reduceSub, Nat.reduceLeDiff, List.replicate, List.cons_append, List.nil_append, List.append_nil, List.getElem?_cons_zero, List.getElem?_cons_succ, List.getElem?_nil, List.set_cons_zero, List.set_cons_succ, List.all_cons, List.all_nil, nown, Bool.and_true, Bool.true_and, Bool.and_false, Bool.false_and, if_true, if_false, Bool.false_eq_true, Bool.not_true, Bool.not_false, reduceIte, len6, Int.cast_ofNat_Int, beq_self_eq_true, Int.reduceBEq, Int.reduceAdd, Int.reduceNeg, decide_true, decide_false, Int.reduceLT, Int.reduceLE, Int.reduceToNat, isiD]; rfl
end
end L2.Z
set_option Elab.async false
set_option linter.all false
set_option maxRecDepth 100000
set_option maxHeartbeats 1000000
set_option exponentiation.threshold 9000
/-! ### what is a house: goings, kinds, rules -/
namespace L2.Z
open PySem
theorem cut_from (xs : List D) (k : Nat) : cutD xs (some (k : Int)) none = xs.drop k := by
  unfold cutD
  rw [HT.sIx_nat, HT.sIx_none]
  by_cases h : k ≤ xs.length
  · rw [Nat.min_eq_left h, List.take_of_length_le (by rw [List.length_drop]; omega)]
  · rw [Nat.min_eq_right (by omega), List.drop_of_length_le (by omega : xs.length ≤ k)]
    simp
theorem cut_to (xs : List D) (k : Nat) : cutD xs none (some (k : Int)) = xs.take k := by
  unfold cutD
  rw [HT.sIx_nat, HT.sIx_none, List.drop_zero, Nat.sub_zero]
  by_cases h : k ≤ xs.length
  · rw [Nat.min_eq_left h]
  · rw [Nat.min_eq_right (by omega), List.take_of_length_le (by omega), List.take_of_length_le (by omega)]
theorem cut1 (xs : List D) : cutD xs (some 1) none = xs.drop 1 := cut_from xs 1
theorem cut2 (xs : List D) : cutD xs (some 2) none = xs.drop 2 := cut_from xs 2
theorem cutT2 (xs : List D) : cutD xs none (some 2) = xs.take 2 := cut_to xs 2
theorem cutT3 (xs : List D) : cutD xs none (some 3) = xs.take 3 := cut_to xs 3
theorem slc_tup (M : Mem) (xs : List D) (lo hi) : slcD M (.tup xs) lo hi = some (.tup (cutD xs lo hi)) := rfl
theorem slc_lst (M : Mem) (xs : List D) (lo hi) : slcD M (.lst xs) lo hi = some (.lst (cutD xs lo hi)) := rfl
theorem len_tup (M : Mem) (xs : List D) : bltD .len M [.tup xs] = some (.int xs.length) := rfl
theorem len_lst (M : Mem) (xs : List D) : bltD .len M [.lst xs] = some (.int xs.length) := rfl
theorem sub_tup (M : Mem) (xs : List D) (k : Nat) : subD M (.tup xs) (.int (k : Int)) = xs[k]? := atI_nat xs k
theorem lt_str (M : Mem) (a b : Str) : cmpD .Lt M (.str a) (.str b) = some (decide (a.cps.toList < b.cps.toList)) := rfl
theorem src_one_tup (xs : List D) : srcD .one [.tup xs] = some xs := rfl
theorem src_one_lst (xs : List D) : srcD .one [.lst xs] = some xs := rfl
theorem src_one_own (xs : List D) : srcD .one [.own xs] = some xs := rfl
def riseS (l : List Str) : Bool := (l.zip (l.drop 1)).all fun p => decide (p.1.cps.toList < p.2.cps.toList)
def riseI (l : List Int) : Bool := (l.zip (l.drop 1)).all fun p => decide (p.1 < p.2)
def L_do_rise : List S := [
  .ret (.blt .all p0 [(.lc (.cmp .Lt (.var 2 x0 p0) (.var 3 x0 p0) p0) (.tp [(.nm 2 x0 p0), (.nm 3 x0 p0)] 0 p0) (.zip p0 p0) [(.var 0 x0 p0), (.slc (.var 0 x0 p0) (some (.cst (.int 1) 0 p0)) none p0 p0)] [] sc0 [(x0, 1), (x0, 2), (x0, 3)] p0)] p0) p0]
section
variable {T : Nat → Option Fn} {sub : Nat → Nat → Bool} {fuel : Nat}
theorem zip_emb {α : Type} (e : α → D) (l : List α) : zipD (l.map e) ((l.map e).drop 1) = (l.zip (l.drop 1)).map fun p => .tup [e p.1, e p.2] := by
  unfold zipD
  rw [← List.map_drop, List.zip_map, List.map_map]
  rfl
theorem run_do_riseS {f : Nat} (h : Has T f 1 4 L_do_rise) (l : List Str) (hl : l.length ≤ 1000) : Cal T sub fuel 1 f [.lst (l.map .str)] (.bl (riseS l)) := by
  refine cal_of (k := 0) h rfl fun n hn M => ?_
  unfold L_do_rise riseS
  have lc : ∀ M, lcW ⟨callF T sub fuel n, sub, fuel⟩ [some (.lst (l.map .str)), none, none, none] M (.cmp .Lt (.var 2 x0 p0) (.var 3 x0 p0) p0) (.tp [(.nm 2 x0 p0), (.nm 3 x0 p0)] 0 p0) [] [1, 2, 3] ((l.zip (l.drop 1)).map fun p => .tup [.str p.1, .str p.2]) = .ok ((l.zip (l.drop 1)).map fun p => .bl (decide (p.1.cps.toList < p.2.cps.toList))) M := fun M =>
    lcW_mapE (fun p : Str × Str => D.tup [.str p.1, .str p.2]) (fun p => .bl (decide (p.1.cps.toList < p.2.cps.toList))) (l.zip (l.drop 1)) fun p _ => ⟨_, rfl, by rw [evT_nil], by simp only [ends_rt, ends_nx, ends_exc, bind_ok, bind_exc, ret_some, retB_some, retL_some, retE_some, ev_var, ev_cst, ev_gint, ev_gstr, ev_gfn, ev_bin, ev_neg, ev_not, ev_bop, ev_cmp, ev_chain, ev_ite, ev_call, ev_isi, ev_blt, ev_mth, ev_sub, ev_slc, ev_tup, ev_lst, ev_lc, ev_live, ev_srt, ev_srk, evs_nil, evs_cons, evx_nil, evx_cons, evO_none, evO_some, evB_one, evB_and, evB_or, evT_nil, evT_one, exs_nil, exs_cons, nxt_nx, nxt_rt, nxt_exc, ex_asg, ex_own, ex_par, ex_app, ex_exn, ex_sti, ex_sto, ex_aug, ex_exp, ex_ret, ex_ifs, ex_fors, ex_whl, ex_rse, ex_tri, ex_frz, cstD, Tg.put, Tg.puts, startD, wipeD, kept_int, kept_bl, kept_str, kept_non, kept_tup, kept_lst, kept_ext, kept_ref, kept_fn, kept_exc, cmp_eq_int, cmp_ne_int, cmp_lt_int, cmp_le_int, cmp_gt_int, cmp_ge_int, List.map_cons, List.map_nil, List.length_cons, List.length_nil, Nat.reduceAdd, Nat.reduceSub, Nat.reduceLeDiff, List.replicate, List.cons_append, List.nil_append, List.append_nil, List.getElem?_cons_zero, List.getElem?_cons_succ, List.getElem?_nil, List.set_cons_zero, List.set_cons_succ, List.all_cons, List.all_nil, nown, Bool.and_true, Bool.true_and, Bool.and_false, Bool.false_and, if_true, if_false, Bool.false_eq_true, Bool.not_true, Bool.not_false, reduceIte, len6, Int.cast_ofNat_Int, beq_self_eq_true, Int.reduceBEq, Int.reduceAdd, Int.reduceNeg, decide_true, decide_false, Int.reduceLT, Int.reduceLE, Int.reduceToNat, lt_str], rfl⟩
  have hb : ((l.zip (l.drop 1)).map fun p => D.bl (decide (p.1.cps.toList < p.2.cps.toList))).length ≤ sizeLine := big_le (by rw [List.length_map, List.length_zip]; omega)
  simp only [ends_rt, ends_nx, ends_exc, bind_ok, bind_exc, ret_some, retB_some, retL_some, retE_some, ev_var, ev_cst, ev_gint, ev_gstr, ev_gfn, ev_bin, ev_neg, ev_not, ev_bop, ev_cmp, ev_chain, ev_ite, ev_call, ev_isi, ev_blt, ev_mth, ev_sub, ev_slc, ev_tup, ev_lst, ev_lc, ev_live, ev_srt, ev_srk, evs_nil, evs_cons, evx_nil, evx_cons, evO_none, evO_some, evB_one, evB_and, evB_or, evT_nil, evT_one, exs_nil, exs_cons, nxt_nx, nxt_rt, nxt_exc, ex_asg, ex_own, ex_par, ex_app, ex_exn, ex_sti, ex_sto, ex_aug, ex_exp, ex_ret, ex_ifs, ex_fors, ex_whl, ex_rse, ex_tri, ex_frz, cstD, Tg.put, Tg.puts, startD, wipeD, kept_int, kept_bl, kept_str, kept_non, kept_tup, kept_lst, kept_ext, kept_ref, kept_fn, kept_exc, cmp_eq_int, cmp_ne_int, cmp_lt_int, cmp_le_int, cmp_gt_int, cmp_ge_int, List.map_cons, List.map_nil, List.length_cons, List.length_nil, Nat.reduceAdd, Nat.reduceSub, Nat.reduceLeDiff, List.replicate, List.cons_append, List.nil_append, List.append_nil, List.getElem?_cons_zero, List.getElem?_cons_succ, List.getElem?_nil, List.set_cons_zero, List.set_cons_succ, List.all_cons, List.all_nil, nown, Bool.and_true, Bool.true_and, Bool.and_false, Bool.false_and, if_true, if_false, Bool.false_eq_true, Bool.not_true, Bool.not_false, reduceIte, len6, Int.cast_ofNat_Int, beq_self_eq_true, Int.reduceBEq, Int.reduceAdd, Int.reduceNeg, decide_true, decide_false, Int.reduceLT, Int.reduceLE, Int.reduceToNat, slc_lst, cut1, srcD, litems, zip_emb, lc, hb, all_bl]
theorem run_do_riseI {f : Nat} (h : Has T f 1 4 L_do_rise) (l : List Int) (hl : l.length ≤ 1000) : Cal T sub fuel 1 f [.lst (l.map .int)] (.bl (riseI l)) := by
  refine cal_of (k := 0) h rfl fun n hn M => ?_
  unfold L_do_rise riseI
  have lc : ∀ M, lcW ⟨callF T sub fuel n, sub, fuel⟩ [some (.lst (l.map .int)), none, none, none] M (.cmp .Lt (.var 2 x0 p0) (.var 3 x0 p0) p0) (.tp [(.nm 2 x0 p0), (.nm 3 x0 p0)] 0 p0) [] [1, 2, 3] ((l.zip (l.drop 1)).map fun p => .tup [.int p.1, .int p.2]) = .ok ((l.zip (l.drop 1)).map fun p => .bl (decide (p.1 < p.2))) M := fun M =>
    lcW_mapE (fun p : Int × Int => D.tup [.int p.1, .int p.2]) (fun p => .bl (decide (p.1 < p.2))) (l.zip (l.drop 1)) fun p _ => ⟨_, rfl, by rw [evT_nil], by simp only [ends_rt, ends_nx, ends_exc, bind_ok, bind_exc, ret_some, retB_some, retL_some, retE_some, ev_var, ev_cst, ev_gint, ev_gstr, ev_gfn, ev_bin, ev_neg, ev_not, ev_bop, ev_cmp, ev_chain, ev_ite, ev_call, ev_isi, ev_blt, ev_mth, ev_sub, ev_slc, ev_tup, ev_lst, ev_lc, ev_live, ev_srt, ev_srk, evs_nil, evs_cons, evx_nil, evx_cons, evO_none, evO_some, evB_one, evB_and, evB_or, evT_nil, evT_one, exs_nil, exs_cons, nxt_nx, nxt_rt, nxt_exc, ex_asg, ex_own, ex_par, ex_app, ex_exn, ex_sti, ex_sto, ex_aug, ex_exp, ex_ret, ex_ifs, ex_fors, ex_whl, ex_rse, ex_tri, ex_frz, cstD, Tg.put, Tg.puts, startD, wipeD, kept_int, kept_bl, kept_str, kept_non, kept_tup, kept_lst, kept_ext, kept_ref, kept_fn, kept_exc, cmp_eq_int, cmp_ne_int, cmp_lt_int, cmp_le_int, cmp_gt_int, cmp_ge_int, List.map_cons, List.map_nil, List.length_cons, List.length_nil, Nat.reduceAdd, Nat.reduceSub, Nat.reduceLeDiff, List.replicate, List.cons_append, List.nil_append, List.append_nil, List.getElem?_cons_zero, List.getElem?_cons_succ, List.getElem?_nil, List.set_cons_zero, List.set_cons_succ, List.all_cons, List.all_nil, nown, Bool.and_true, Bool.true_and, Bool.and_false, Bool.false_and, if_true, if_false, Bool.false_eq_true, Bool.not_true, Bool.not_false, reduceIte, len6, Int.cast_ofNat_Int, beq_self_eq_true, Int.reduceBEq, Int.reduceAdd, Int.reduceNeg, decide_true, decide_false, Int.reduceLT, Int.reduceLE, Int.reduceToNat], rfl⟩
  have hb : ((l.zip (l.drop 1)).map fun p => D.bl (decide (p.1 < p.2))).length ≤ sizeLine := big_le (by rw [List.length_map, List.length_zip]; omega)
  simp only [ends_rt, ends_nx, ends_exc, bind_ok, bind_exc, ret_some, retB_some, retL_some, retE_some, ev_var, ev_cst, ev_gint, ev_gstr, ev_gfn, ev_bin, ev_neg, ev_not, ev_bop, ev_cmp, ev_chain, ev_ite, ev_call, ev_isi, ev_blt, ev_mth, ev_sub, ev_slc, ev_tup, ev_lst, ev_lc, ev_live, ev_srt, ev_srk, evs_nil, evs_cons, evx_nil, evx_cons, evO_none, evO_some, evB_one, evB_and, evB_or, evT_nil, evT_one, exs_nil, exs_cons, nxt_nx, nxt_rt, nxt_exc, ex_asg, ex_own, ex_par, ex_app, ex_exn, ex_sti, ex_sto, ex_aug, ex_exp, ex_ret, ex_ifs, ex_fors, ex_whl, ex_rse, ex_tri, ex_frz, cstD, Tg.put, Tg.puts, startD, wipeD, kept_int, kept_bl, kept_str, kept_non, kept_tup, kept_lst, kept_ext, kept_ref, kept_fn, kept_exc, cmp_eq_int, cmp_ne_int, cmp_lt_int, cmp_le_int, cmp_gt_int, cmp_ge_int, List.map_cons, List.map_nil, List.length_cons, List.length_nil, Nat.reduceAdd, Nat.reduceSub, Nat.reduceLeDiff, List.replicate, List.cons_append, List.nil_append, List.append_nil, List.getElem?_cons_zero, List.getElem?_cons_succ, List.getElem?_nil, List.set_cons_zero, List.set_cons_succ, List.all_cons, List.all_nil, nown, Bool.and_true, Bool.true_and, Bool.and_false, Bool.false_and, if_true, if_false, Bool.false_eq_true, Bool.not_true, Bool.not_false, reduceIte, len6, Int.cast_ofNat_Int, beq_self_eq_true, Int.reduceBEq, Int.reduceAdd, Int.reduceNeg, decide_true, decide_false, Int.reduceLT, Int.reduceLE, Int.reduceToNat, slc_lst, cut1, srcD, litems, zip_emb, lc, hb, all_bl]
def ltD : D → D → Bool
  | .int i, .int j => decide (i < j)
  | _, _ => false
/-- a going -/
def isGoingD : D → Bool
  | .tup [a, b, c, d, e, g] => isWordD a && isWordD b && isWordD c && (!eqD b c && isWholeD d 0 999 && isWholeD e 0 999) && (ltD d e && isWholeD g 1 9)
  | _ => false
def L_is_going (word whole : Nat) : List S := [
  .ifs (.bop .Or [(.not (.isi (.var 0 x0 p0) .tuple p0 p0 p0) p0), (.cmp .NotEq (.blt .len p0 [(.var 0 x0 p0)] p0) (.cst (.int 6) 0 p0) p0), (.not (.blt .all p0 [(.lc (.call word x0 p0 [(.var 2 x0 p0)] p0) (.nm 2 x0 p0) .one [(.slc (.var 0 x0 p0) none (some (.cst (.int 3) 0 p0)) p0 p0)] [] sc0 [(x0, 1), (x0, 2)] p0)] p0) p0)] p0) [.ret (.cst (.bool false) 0 p0) p0] [] p0,
  .ifs (.bop .Or [(.cmp .Eq (.sub (.var 0 x0 p0) (.cst (.int 1) 0 p0) p0) (.sub (.var 0 x0 p0) (.cst (.int 2) 0 p0) p0) p0), (.not (.call whole x0 p0 [(.sub (.var 0 x0 p0) (.cst (.int 3) 0 p0) p0), (.cst (.int 0) 0 p0), (.cst (.int 999) 0 p0)] p0) p0), (.not (.call whole x0 p0 [(.sub (.var 0 x0 p0) (.cst (.int 4) 0 p0) p0), (.cst (.int 0) 0 p0), (.cst (.int 999) 0 p0)] p0) p0)] p0) [.ret (.cst (.bool false) 0 p0) p0] [] p0,
  .ret (.bop .And [(.cmp .Lt (.sub (.var 0 x0 p0) (.cst (.int 3) 0 p0) p0) (.sub (.var 0 x0 p0) (.cst (.int 4) 0 p0) p0) p0), (.call whole x0 p0 [(.sub (.var 0 x0 p0) (.cst (.int 5) 0 p0) p0), (.cst (.int 1) 0 p0), (.cst (.int 9) 0 p0)] p0)] p0) p0]
theorem sub_t0 (M : Mem) (a : D) (xs) : subD M (.tup (a :: xs)) (.int 0) = some a := by show atI _ _ = _; rw [show (0 : Int) = ((0 : Nat) : Int) from rfl, atI_nat]; rfl
theorem sub_t1 (M : Mem) (a b : D) (xs) : subD M (.tup (a :: b :: xs)) (.int 1) = some b := by show atI _ _ = _; rw [show (1 : Int) = ((1 : Nat) : Int) from rfl, atI_nat]; rfl
theorem sub_t2 (M : Mem) (a b c : D) (xs) : subD M (.tup (a :: b :: c :: xs)) (.int 2) = some c := by show atI _ _ = _; rw [show (2 : Int) = ((2 : Nat) : Int) from rfl, atI_nat]; rfl
theorem sub_t3 (M : Mem) (a b c d : D) (xs) : subD M (.tup (a :: b :: c :: d :: xs)) (.int 3) = some d := by show atI _ _ = _; rw [show (3 : Int) = ((3 : Nat) : Int) from rfl, atI_nat]; rfl
theorem sub_t4 (M : Mem) (a b c d e : D) (xs) : subD M (.tup (a :: b :: c :: d :: e :: xs)) (.int 4) = some e := by show atI _ _ = _; rw [show (4 : Int) = ((4 : Nat) : Int) from rfl, atI_nat]; rfl
theorem sub_t5 (M : Mem) (a b c d e g : D) (xs) : subD M (.tup (a :: b :: c :: d :: e :: g :: xs)) (.int 5) = some g := by show atI _ _ = _; rw [show (5 : Int) = ((5 : Nat) : Int) from rfl, atI_nat]; rfl
theorem eq_str (M : Mem) (a b : Str) (ha : PyData.strOk a = true) (hb : PyData.strOk b = true) : cmpD .Eq M (.str a) (.str b) = some (a == b) := by
  simp [cmpD, nrm, lview, shD, pyOk, dep, eqD, ha, hb]
theorem isWordD_str {d : D} (h : isWordD d = true) : ∃ z, d = .str z ∧ isWord z = true := by
  cases d <;> first | (cases h; done) | exact ⟨_, rfl, h⟩
theorem isWholeD_int {d : D} {lo hi : Int} (h : isWholeD d lo hi = true) : ∃ i, d = .int i ∧ lo ≤ i ∧ i ≤ hi := by
  cases d <;> first | (cases h; done) | skip
  rename_i i
  simp only [isWholeD, Bool.and_eq_true, decide_eq_true_eq] at h
  exact ⟨i, rfl, h.1, h.2⟩
theorem run_is_going {f fw fh : Nat} (hw : Has T fw 1 3 L_is_word) (hh : Has T fh 3 3 L_is_whole) (h : Has T f 1 3 (L_is_going fw fh)) (d : D) (hd : plB d = true) : Cal T sub fuel 2 f [d] (.bl (isGoingD d)) := by
  refine cal_of (k := 1) h rfl fun n hn M => ?_
  unfold L_is_going
  cases d with
  | tup xs =>
    simp only [plB, Bool.and_eq_true, decide_eq_true_eq] at hd
    by_cases hl : xs.length = 6
    · obtain ⟨a, b, c, d, e, g, rfl⟩ : ∃ a b c d e g, xs = [a, b, c, d, e, g] := by
        match xs, hl with
        | [a, b, c, d, e, g], _ => exact ⟨a, b, c, d, e, g, rfl⟩
      have pa := plBs_mem hd.1 (x := a) (by simp)
      have pb := plBs_mem hd.1 (x := b) (by simp)
      have pc := plBs_mem hd.1 (x := c) (by simp)
      have pd := plBs_mem hd.1 (x := d) (by simp)
      have pe := plBs_mem hd.1 (x := e) (by simp)
      have pg := plBs_mem hd.1 (x := g) (by simp)
      have lc : ∀ M, lcW ⟨callF T sub fuel n, sub, fuel⟩ [some (.tup [a, b, c, d, e, g]), none, none] M (.call fw x0 p0 [(.var 2 x0 p0)] p0) (.nm 2 x0 p0) [] [1, 2] [a, b, c] = .ok ([a, b, c].map fun x => .bl (isWordD x)) M := fun M => by
        have := lcW_mapE (C := ⟨callF T sub fuel n, sub, fuel⟩) (r := [some (.tup [a, b, c, d, e, g]), none, none]) (M := M) (elt := .call fw x0 p0 [(.var 2 x0 p0)] p0) (tg := .nm 2 x0 p0) (ifs := []) (own := [1, 2]) (fun x : D => x) (fun x => .bl (isWordD x)) [a, b, c] fun x hx => by
          have px : plB x = true := by
            rcases List.mem_cons.mp hx with q | q
            · rw [q]; exact pa
            · rcases List.mem_cons.mp q with q | q
              · rw [q]; exact pb
              · have : x = c := by simpa using q
                rw [this]; exact pc
          have nx : nown x = true := by cases x <;> first | rfl | (cases px; done)
          exact ⟨_, rfl, by rw [evT_nil], by simp only [ends_rt, ends_nx, ends_exc, bind_ok, bind_exc, ret_some, retB_some, retL_some, retE_some, ev_var, ev_cst, ev_gint, ev_gstr, ev_gfn, ev_bin, ev_neg, ev_not, ev_bop, ev_cmp, ev_chain, ev_ite, ev_call, ev_isi, ev_blt, ev_mth, ev_sub, ev_slc, ev_tup, ev_lst, ev_lc, ev_live, ev_srt, ev_srk, evs_nil, evs_cons, evx_nil, evx_cons, evO_none, evO_some, evB_one, evB_and, evB_or, evT_nil, evT_one, exs_nil, exs_cons, nxt_nx, nxt_rt, nxt_exc, ex_asg, ex_own, ex_par, ex_app, ex_exn, ex_sti, ex_sto, ex_aug, ex_exp, ex_ret, ex_ifs, ex_fors, ex_whl, ex_rse, ex_tri, ex_frz, cstD, Tg.put, Tg.puts, startD, wipeD, kept_int, kept_bl, kept_str, kept_non, kept_tup, kept_lst, kept_ext, kept_ref, kept_fn, kept_exc, cmp_eq_int, cmp_ne_int, cmp_lt_int, cmp_le_int, cmp_gt_int, cmp_ge_int, List.map_cons, List.map_nil, List.length_cons, List.length_nil, Nat.reduceAdd, Nat.reduceSub, Nat.reduceLeDiff, List.replicate, List.cons_append, List.nil_append, List.append_nil, List.getElem?_cons_zero, List.getElem?_cons_succ, List.getElem?_nil, List.set_cons_zero, List.set_cons_succ, List.all_cons, List.all_nil, nown, Bool.and_true, Bool.true_and, Bool.and_false, Bool.false_and, if_true, if_false, Bool.false_eq_true, Bool.not_true, Bool.not_false, reduceIte, len6, Int.cast_ofNat_Int, beq_self_eq_true, Int.reduceBEq, Int.reduceAdd, Int.reduceNeg, decide_true, decide_false, Int.reduceLT, Int.reduceLE, Int.reduceToNat, kept_ok nx, run_is_word hw x px n hn], rfl⟩
        simpa using this
      have ecut : cutD [a, b, c, d, e, g] none (some 3) = [a, b, c] := by rw [cutT3]; rfl
      have eall : ∀ M, bltD .all M [.lst ([a, b, c].map fun x => .bl (isWordD x))] = some (.bl (isWordD a && (isWordD b && isWordD c))) := fun M => by rw [all_bl]; simp
      simp only [List.map_cons, List.map_nil] at eall
      cases hA : (isWordD a && (isWordD b && isWordD c)) with
      | false =>
        have h3 : isGoingD (.tup [a, b, c, d, e, g]) = false := by
          simp only [isGoingD, Bool.and_assoc] at *
          revert hA
          cases isWordD a <;> cases isWordD b <;> cases isWordD c <;> simp
        simp only [ends_rt, ends_nx, ends_exc, bind_ok, bind_exc, ret_some, retB_some, retL_some, retE_some, ev_var, ev_cst, ev_gint, ev_gstr, ev_gfn, ev_bin, ev_neg, ev_not, ev_bop, ev_cmp, ev_chain, ev_ite, ev_call, ev_isi, ev_blt, ev_mth, ev_sub, ev_slc, ev_tup, ev_lst, ev_lc, ev_live, ev_srt, ev_srk, evs_nil, evs_cons, evx_nil, evx_cons, evO_none, evO_some, evB_one, evB_and, evB_or, evT_nil, evT_one, exs_nil, exs_cons, nxt_nx, nxt_rt, nxt_exc, ex_asg, ex_own, ex_par, ex_app, ex_exn, ex_sti, ex_sto, ex_aug, ex_exp, ex_ret, ex_ifs, ex_fors, ex_whl, ex_rse, ex_tri, ex_frz, cstD, Tg.put, Tg.puts, startD, wipeD, kept_int, kept_bl, kept_str, kept_non, kept_tup, kept_lst, kept_ext, kept_ref, kept_fn, kept_exc, cmp_eq_int, cmp_ne_int, cmp_lt_int, cmp_le_int, cmp_gt_int, cmp_ge_int, List.map_cons, List.map_nil, List.length_cons, List.length_nil, Nat.reduceAdd, Nat.reduceSub, Nat.reduceLeDiff, List.replicate, List.cons_append, List.nil_append, List.append_nil, List.getElem?_cons_zero, List.getElem?_cons_succ, List.getElem?_nil, List.set_cons_zero, List.set_cons_succ, List.all_cons, List.all_nil, nown, Bool.and_true, Bool.true_and, Bool.and_false, Bool.false_and, if_true, if_false, Bool.false_eq_true, Bool.not_true, Bool.not_false, reduceIte, len6, Int.cast_ofNat_Int, beq_self_eq_true, Int.reduceBEq, Int.reduceAdd, Int.reduceNeg, decide_true, decide_false, Int.reduceLT, Int.reduceLE, Int.reduceToNat, isiD, len_tup, slc_tup, ecut, src_one_tup, lc, len6, eall, hA, h3]
      | true =>
        simp only [Bool.and_eq_true] at hA
        obtain ⟨za, rfl, ha⟩ := isWordD_str hA.1
        obtain ⟨zb, rfl, hb⟩ := isWordD_str hA.2.1
        obtain ⟨zc, rfl, hc⟩ := isWordD_str hA.2.2
        have hA' : (isWordD (.str za) && (isWordD (.str zb) && isWordD (.str zc))) = true := by simp [isWordD, ha, hb, hc]
        simp only [plB, Bool.and_eq_true] at pb pc
        have nd : ∀ {x : D}, plB x = true → nown x = true := fun {x} px => by cases x <;> first | rfl | (cases px; done)
        have e3 : isGoingD (.tup [.str za, .str zb, .str zc, d, e, g]) = ((!(zb == zc) && isWholeD d 0 999 && isWholeD e 0 999) && (ltD d e && isWholeD g 1 9)) := by
          simp only [isGoingD, isWordD, ha, hb, hc, eqD, Bool.true_and]
        rw [e3]
        cases hq : (zb == zc) with
        | true => simp only [ends_rt, ends_nx, ends_exc, bind_ok, bind_exc, ret_some, retB_some, retL_some, retE_some, ev_var, ev_cst, ev_gint, ev_gstr, ev_gfn, ev_bin, ev_neg, ev_not, ev_bop, ev_cmp, ev_chain, ev_ite, ev_call, ev_isi, ev_blt, ev_mth, ev_sub, ev_slc, ev_tup, ev_lst, ev_lc, ev_live, ev_srt, ev_srk, evs_nil, evs_cons, evx_nil, evx_cons, evO_none, evO_some, evB_one, evB_and, evB_or, evT_nil, evT_one, exs_nil, exs_cons, nxt_nx, nxt_rt, nxt_exc, ex_asg, ex_own, ex_par, ex_app, ex_exn, ex_sti, ex_sto, ex_aug, ex_exp, ex_ret, ex_ifs, ex_fors, ex_whl, ex_rse, ex_tri, ex_frz, cstD, Tg.put, Tg.puts, startD, wipeD, kept_int, kept_bl, kept_str, kept_non, kept_tup, kept_lst, kept_ext, kept_ref, kept_fn, kept_exc, cmp_eq_int, cmp_ne_int, cmp_lt_int, cmp_le_int, cmp_gt_int, cmp_ge_int, List.map_cons, List.map_nil, List.length_cons, List.length_nil, Nat.reduceAdd, Nat.reduceSub, Nat.reduceLeDiff, List.replicate, List.cons_append, List.nil_append, List.append_nil, List.getElem?_cons_zero, List.getElem?_cons_succ, List.getElem?_nil, List.set_cons_zero, List.set_cons_succ, List.all_cons, List.all_nil, nown, Bool.and_true, Bool.true_and, Bool.and_false, Bool.false_and, if_true, if_false, Bool.false_eq_true, Bool.not_true, Bool.not_false, reduceIte, len6, Int.cast_ofNat_Int, beq_self_eq_true, Int.reduceBEq, Int.reduceAdd, Int.reduceNeg, decide_true, decide_false, Int.reduceLT, Int.reduceLE, Int.reduceToNat, isiD, len_tup, slc_tup, ecut, src_one_tup, lc, len6, eall, hA', sub_t1, sub_t2, eq_str _ _ _ pb.1 pc.1, hq]
        | false =>
          cases hD : isWholeD d 0 999 with
          | false => simp only [ends_rt, ends_nx, ends_exc, bind_ok, bind_exc, ret_some, retB_some, retL_some, retE_some, ev_var, ev_cst, ev_gint, ev_gstr, ev_gfn, ev_bin, ev_neg, ev_not, ev_bop, ev_cmp, ev_chain, ev_ite, ev_call, ev_isi, ev_blt, ev_mth, ev_sub, ev_slc, ev_tup, ev_lst, ev_lc, ev_live, ev_srt, ev_srk, evs_nil, evs_cons, evx_nil, evx_cons, evO_none, evO_some, evB_one, evB_and, evB_or, evT_nil, evT_one, exs_nil, exs_cons, nxt_nx, nxt_rt, nxt_exc, ex_asg, ex_own, ex_par, ex_app, ex_exn, ex_sti, ex_sto, ex_aug, ex_exp, ex_ret, ex_ifs, ex_fors, ex_whl, ex_rse, ex_tri, ex_frz, cstD, Tg.put, Tg.puts, startD, wipeD, kept_int, kept_bl, kept_str, kept_non, kept_tup, kept_lst, kept_ext, kept_ref, kept_fn, kept_exc, cmp_eq_int, cmp_ne_int, cmp_lt_int, cmp_le_int, cmp_gt_int, cmp_ge_int, List.map_cons, List.map_nil, List.length_cons, List.length_nil, Nat.reduceAdd, Nat.reduceSub, Nat.reduceLeDiff, List.replicate, List.cons_append, List.nil_append, List.append_nil, List.getElem?_cons_zero, List.getElem?_cons_succ, List.getElem?_nil, List.set_cons_zero, List.set_cons_succ, List.all_cons, List.all_nil, nown, Bool.and_true, Bool.true_and, Bool.and_false, Bool.false_and, if_true, if_false, Bool.false_eq_true, Bool.not_true, Bool.not_false, reduceIte, len6, Int.cast_ofNat_Int, beq_self_eq_true, Int.reduceBEq, Int.reduceAdd, Int.reduceNeg, decide_true, decide_false, Int.reduceLT, Int.reduceLE, Int.reduceToNat, isiD, len_tup, slc_tup, ecut, src_one_tup, lc, len6, eall, hA', sub_t1, sub_t2, sub_t3, eq_str _ _ _ pb.1 pc.1, hq, kept_ok (nd pd), run_is_whole hh d 0 999 pd n hn, hD]
          | true =>
            cases hE : isWholeD e 0 999 with
            | false => simp only [ends_rt, ends_nx, ends_exc, bind_ok, bind_exc, ret_some, retB_some, retL_some, retE_some, ev_var, ev_cst, ev_gint, ev_gstr, ev_gfn, ev_bin, ev_neg, ev_not, ev_bop, ev_cmp, ev_chain, ev_ite, ev_call, ev_isi, ev_blt, ev_mth, ev_sub, ev_slc, ev_tup, ev_lst, ev_lc, ev_live, ev_srt, ev_srk, evs_nil, evs_cons, evx_nil, evx_cons, evO_none, evO_some, evB_one, evB_and, evB_or, evT_nil, evT_one, exs_nil, exs_cons, nxt_nx, nxt_rt, nxt_exc, ex_asg, ex_own, ex_par, ex_app, ex_exn, ex_sti, ex_sto, ex_aug, ex_exp, ex_ret, ex_ifs, ex_fors, ex_whl, ex_rse, ex_tri, ex_frz, cstD, Tg.put, Tg.puts, startD, wipeD, kept_int, kept_bl, kept_str, kept_non, kept_tup, kept_lst, kept_ext, kept_ref, kept_fn, kept_exc, cmp_eq_int, cmp_ne_int, cmp_lt_int, cmp_le_int, cmp_gt_int, cmp_ge_int, List.map_cons, List.map_nil, List.length_cons, List.length_nil, Nat.reduceAdd, Nat.reduceSub, Nat.reduceLeDiff, List.replicate, List.cons_append, List.nil_append, List.append_nil, List.getElem?_cons_zero, List.getElem?_cons_succ, List.getElem?_nil, List.set_cons_zero, List.set_cons_succ, List.all_cons, List.all_nil, nown, Bool.and_true, Bool.true_and, Bool.and_false, Bool.false_and, if_true, if_false, Bool.false_eq_true, Bool.not_true, Bool.not_false, reduceIte, len6, Int.cast_ofNat_Int, beq_self_eq_true, Int.reduceBEq, Int.reduceAdd, Int.reduceNeg, decide_true, decide_false, Int.reduceLT, Int.reduceLE, Int.reduceToNat, isiD, len_tup, slc_tup, ecut, src_one_tup, lc, len6, eall, hA', sub_t1, sub_t2, sub_t3, sub_t4, eq_str _ _ _ pb.1 pc.1, hq, kept_ok (nd pd), kept_ok (nd pe), run_is_whole hh d 0 999 pd n hn, run_is_whole hh e 0 999 pe n hn, hD, hE]
            | true =>
              obtain ⟨i, rfl, _, _⟩ := isWholeD_int hD
              obtain ⟨j, rfl, _, _⟩ := isWholeD_int hE
              by_cases hij : i < j
              · simp only [ends_rt, ends_nx, ends_exc, bind_ok, bind_exc, ret_some, retB_some, retL_some, retE_some, ev_var, ev_cst, ev_gint, ev_gstr, ev_gfn, ev_bin, ev_neg, ev_not, ev_bop, ev_cmp, ev_chain, ev_ite, ev_call, ev_isi, ev_blt, ev_mth, ev_sub, ev_slc, ev_tup, ev_lst, ev_lc, ev_live, ev_srt, ev_srk, evs_nil, evs_cons, evx_nil, evx_cons, evO_none, evO_some, evB_one, evB_and, evB_or, evT_nil, evT_one, exs_nil, exs_cons, nxt_nx, nxt_rt, nxt_exc, ex_asg, ex_own, ex_par, ex_app, ex_exn, ex_sti, ex_sto, ex_aug, ex_exp, ex_ret, ex_ifs, ex_fors, ex_whl, ex_rse, ex_tri, ex_frz, cstD, Tg.put, Tg.puts, startD, wipeD, kept_int, kept_bl, kept_str, kept_non, kept_tup, kept_lst, kept_ext, kept_ref, kept_fn, kept_exc, cmp_eq_int, cmp_ne_int, cmp_lt_int, cmp_le_int, cmp_gt_int, cmp_ge_int, List.map_cons, List.map_nil, List.length_cons, List.length_nil, Nat.reduceAdd, Nat.reduceSub, Nat.reduceLeDiff, List.replicate, List.cons_append, List.nil_append, List.append_nil, List.getElem?_cons_zero, List.getElem?_cons_succ, List.getElem?_nil, List.set_cons_zero, List.set_cons_succ, List.all_cons, List.all_nil, nown, Bool.and_true, Bool.true_and, Bool.and_false, Bool.false_and, if_true, if_false, Bool.false_eq_true, Bool.not_true, Bool.not_false, reduceIte, len6, Int.cast_ofNat_Int, beq_self_eq_true, Int.reduceBEq, Int.reduceAdd, Int.reduceNeg, decide_true, decide_false, Int.reduceLT, Int.reduceLE, Int.reduceToNat, isiD, len_tup, slc_tup, ecut, src_one_tup, lc, len6, eall, hA', sub_t1, sub_t2, sub_t3, sub_t4, sub_t5, eq_str _ _ _ pb.1 pc.1, hq, kept_ok (nd pg), run_is_whole hh _ 0 999 pd n hn, run_is_whole hh _ 0 999 pe n hn, run_is_whole hh g 1 9 pg n hn, hD, hE, ltD, hij]
              · simp only [ends_rt, ends_nx, ends_exc, bind_ok, bind_exc, ret_some, retB_some, retL_some, retE_some, ev_var, ev_cst, ev_gint, ev_gstr, ev_gfn, ev_bin, ev_neg, ev_not, ev_bop, ev_cmp, ev_chain, ev_ite, ev_call, ev_isi, ev_blt, ev_mth, ev_sub, ev_slc, ev_tup, ev_lst, ev_lc, ev_live, ev_srt, ev_srk, evs_nil, evs_cons, evx_nil, evx_cons, evO_none, evO_some, evB_one, evB_and, evB_or, evT_nil, evT_one, exs_nil, exs_cons, nxt_nx, nxt_rt, nxt_exc, ex_asg, ex_own, ex_par, ex_app, ex_exn, ex_sti, ex_sto, ex_aug, ex_exp, ex_ret, ex_ifs, ex_fors, ex_whl, ex_rse, ex_tri, ex_frz, cstD, Tg.put, Tg.puts, startD, wipeD, kept_int, kept_bl, kept_str, kept_non, kept_tup, kept_lst, kept_ext, kept_ref, kept_fn, kept_exc, cmp_eq_int, cmp_ne_int, cmp_lt_int, cmp_le_int, cmp_gt_int, cmp_ge_int, List.map_cons, List.map_nil, List.length_cons, List.length_nil, Nat.reduceAdd, Nat.reduceSub, Nat.reduceLeDiff, List.replicate, List.cons_append, List.nil_append, List.append_nil, List.getElem?_cons_zero, List.getElem?_cons_succ, List.getElem?_nil, List.set_cons_zero, List.set_cons_succ, List.all_cons, List.all_nil, nown, Bool.and_true, Bool.true_and, Bool.and_false, Bool.false_and, if_true, if_false, Bool.false_eq_true, Bool.not_true, Bool.not_false, reduceIte, len6, Int.cast_ofNat_Int, beq_self_eq_true, Int.reduceBEq, Int.reduceAdd, Int.reduceNeg, decide_true, decide_false, Int.reduceLT, Int.reduceLE, Int.reduceToNat, isiD, len_tup, slc_tup, ecut, src_one_tup, lc, len6, eall, hA', sub_t1, sub_t2, sub_t3, sub_t4, sub_t5, eq_str _ _ _ pb.1 pc.1, hq, kept_ok (nd pg), run_is_whole hh _ 0 999 pd n hn, run_is_whole hh _ 0 999 pe n hn, run_is_whole hh g 1 9 pg n hn, hD, hE, ltD, hij]
    · have h2 : ((xs.length : Int) == 6) = false := by
        simp; omega
      have h3 : isGoingD (.tup xs) = false := by
        unfold isGoingD
        split
        · rename_i hh; cases hh; simp at hl
        · rfl
      simp only [ends_rt, ends_nx, ends_exc, bind_ok, bind_exc, ret_some, retB_some, retL_some, retE_some, ev_var, ev_cst, ev_gint, ev_gstr, ev_gfn, ev_bin, ev_neg, ev_not, ev_bop, ev_cmp, ev_chain, ev_ite, ev_call, ev_isi, ev_blt, ev_mth, ev_sub, ev_slc, ev_tup, ev_lst, ev_lc, ev_live, ev_srt, ev_srk, evs_nil, evs_cons, evx_nil, evx_cons, evO_none, evO_some, evB_one, evB_and, evB_or, evT_nil, evT_one, exs_nil, exs_cons, nxt_nx, nxt_rt, nxt_exc, ex_asg, ex_own, ex_par, ex_app, ex_exn, ex_sti, ex_sto, ex_aug, ex_exp, ex_ret, ex_ifs, ex_fors, ex_whl, ex_rse, ex_tri, ex_frz, cstD, Tg.put, Tg.puts, startD, wipeD, kept_int, kept_bl, kept_str, kept_non, kept_tup, kept_lst, kept_ext, kept_ref, kept_fn, kept_exc, cmp_eq_int, cmp_ne_int, cmp_lt_int, cmp_le_int, cmp_gt_int, cmp_ge_int, List.map_cons, List.map_nil, List.length_cons, List.length_nil, Nat.reduceAdd, Nat.reduceSub, Nat.reduceLeDiff, List.replicate, List.cons_append, List.nil_append, List.append_nil, List.getElem?_cons_zero, List.getElem?_cons_succ, List.getElem?_nil, List.set_cons_zero, List.set_cons_succ, List.all_cons, List.all_nil, nown, Bool.and_true, Bool.true_and, Bool.and_false, Bool.false_and, if_true, if_false, Bool.false_eq_true, Bool.not_true, Bool.not_false, reduceIte, len6, Int.cast_ofNat_Int, beq_self_eq_true, Int.reduceBEq, Int.reduceAdd, Int.reduceNeg, decide_true, decide_false, Int.reduceLT, Int.reduceLE, Int.reduceToNat, isiD, len_tup, h2, h3]
  | exc c => cases hd
  | ref c => cases hd
  | fn c => cases hd
  | ext c => cases hd
  | own c => cases hd
  | dct c => cases hd
  | _ => simp only [ends_rt, ends_nx, ends_exc, bind_ok, bind_exc, ret_some, retB_some, retL_some, retE_some, ev_var, ev_cst, ev_gint, ev_gstr, ev_gfn, ev_bin, ev_neg, ev_not, ev_bop, ev_cmp, ev_chain, ev_ite, ev_call, ev_isi, ev_blt, ev_mth, ev_sub, ev_slc, ev_tup, ev_lst, ev_lc, ev_live, ev_srt, ev_srk, evs_nil, evs_cons, evx_nil, evx_cons, evO_none, evO_some, evB_one, evB_and, evB_or, evT_nil, evT_one, exs_nil, exs_cons, nxt_nx, nxt_rt, nxt_exc, ex_asg, ex_own, ex_par, ex_app, ex_exn, ex_sti, ex_sto, ex_aug, ex_exp, ex_ret, ex_ifs, ex_fors, ex_whl, ex_rse, ex_tri, ex_frz, cstD, Tg.put, Tg.puts, startD, wipeD, kept_int, kept_bl, kept_str, kept_non, kept_tup, kept_lst, kept_ext, kept_ref, kept_fn, kept_exc, cmp_eq_int, cmp_ne_int, cmp_lt_int, cmp_le_int, cmp_gt_int, cmp_ge_int, List.map_cons, List.map_nil, List.length_cons, List.length_nil, Nat.reduceAdd, Nat.reduceSub, Nat.reduceLeDiff, List.replicate, List.cons_append, List.nil_append, List.append_nil, List.getElem?_cons_zero, List.getElem?_cons_succ, List.getElem?_nil, List.set_cons_zero, List.set_cons_succ, List.all_cons, List.all_nil, nown, Bool.and_true, Bool.true_and, Bool.and_false, Bool.false_and, if_true, if_false, Bool.false_eq_true, Bool.not_true, Bool.not_false, reduceIte, len6, Int.cast_ofNat_Int, beq_self_eq_true, Int.reduceBEq, Int.reduceAdd, Int.reduceNeg, decide_true, decide_false, Int.reduceLT, Int.reduceLE, Int.reduceToNat, isiD]; rfl
end
end L2.Z
set_option Elab.async false
set_option linter.all false
set_option maxRecDepth 100000
set_option maxHeartbeats 1000000
set_option exponentiation.threshold 9000
/-! ### what is a house: chances, kinds, bookings -/
namespace L2.Z
open PySem
theorem pl_nown {x : D} (px : plB x = true) : nown x = true := by cases x <;> first | rfl | (cases px; done)
/-- a comprehension over plain data -/
theorem lcW_pl {C : Cfg} {r : Env} {M : Mem} {elt : E} {tg : Tg} {own : List Nat} (g : D → D) (xs : List D) (hp : plBs xs = true) (h : ∀ x, plB x = true → x ∈ xs → ∃ r', tg.put x (wipeD r own) = some r' ∧ ev C elt r' M = .ok (g x) M ∧ nown (g x) = true) : lcW C r M elt tg [] own xs = .ok (xs.map g) M := by
  have := lcW_mapE (C := C) (r := r) (M := M) (elt := elt) (tg := tg) (ifs := []) (own := own) (fun x : D => x) g xs fun x hx => by
    obtain ⟨r', h1, h2, h3⟩ := h x (plBs_mem hp hx) hx
    exact ⟨r', h1, by rw [evT_nil], h2, h3⟩
  simpa using this
theorem all_D (M : Mem) (xs : List D) (g : D → Bool) : bltD .all M [.lst (xs.map fun x => .bl (g x))] = some (.bl (xs.all g)) := all_bl M xs g
def isIntD : D → Bool
  | .int _ => true
  | _ => false
def isChanceD : D → Bool
  | .tup [.int a, .int b] => decide (0 < a) && (decide (a ≤ b) && (Nat.gcd a.toNat b.toNat == 1))
  | _ => false
def L_is_chance (common : Nat) : List S := [
  .ifs (.bop .Or [(.not (.isi (.var 0 x0 p0) .tuple p0 p0 p0) p0), (.cmp .NotEq (.blt .len p0 [(.var 0 x0 p0)] p0) (.cst (.int 2) 0 p0) p0)] p0) [.ret (.cst (.bool false) 0 p0) p0] [] p0,
  .ifs (.not (.blt .all p0 [(.lc (.bop .And [(.isi (.var 2 x0 p0) .int p0 p0 p0), (.not (.isi (.var 2 x0 p0) .bool p0 p0 p0) p0)] p0) (.nm 2 x0 p0) .one [(.var 0 x0 p0)] [] sc0 [(x0, 1), (x0, 2)] p0)] p0) p0) [.ret (.cst (.bool false) 0 p0) p0] [] p0,
  .ret (.bop .And [(.chain .Lt .LtE (.cst (.int 0) 0 p0) (.sub (.var 0 x0 p0) (.cst (.int 0) 0 p0) p0) (.sub (.var 0 x0 p0) (.cst (.int 1) 0 p0) p0) p0), (.cmp .Eq (.call common x0 p0 [(.sub (.var 0 x0 p0) (.cst (.int 0) 0 p0) p0), (.sub (.var 0 x0 p0) (.cst (.int 1) 0 p0) p0)] p0) (.cst (.int 1) 0 p0) p0)] p0) p0]
section
variable {T : Nat → Option Fn} {sub : Nat → Nat → Bool}
theorem pl_tup {xs : List D} (h : plB (.tup xs) = true) : plBs xs = true ∧ xs.length ≤ 1000 := by
  simp only [plB, Bool.and_eq_true, decide_eq_true_eq] at h
  exact h
theorem pl_int {i : Int} (h : plB (.int i) = true) : i.natAbs < 2 ^ 4000 := by
  simp only [plB, decide_eq_true_eq] at h
  exact h
theorem lenNe (n : Nat) (k : Nat) (h : n ≠ k) : ((n : Int) == (k : Int)) = false := by
  have : (n : Int) ≠ (k : Int) := by omega
  simpa using this
theorem run_is_chance {f fc : Nat} (hc : Has T fc 2 2 L_common) (h : Has T f 1 3 (L_is_chance fc)) (d : D) (hd : plB d = true) : Cal T sub FUEL 2 f [d] (.bl (isChanceD d)) := by
  refine cal_of (k := 1) h rfl fun n hn M => ?_
  unfold L_is_chance
  cases d with
  | tup xs =>
    obtain ⟨hp, hz⟩ := pl_tup hd
    by_cases hl : xs.length = 2
    · obtain ⟨a, b, rfl⟩ : ∃ a b, xs = [a, b] := by
        match xs, hl with
        | [a, b], _ => exact ⟨a, b, rfl⟩
      have pa := plBs_mem hp (x := a) (by simp)
      have pb := plBs_mem hp (x := b) (by simp)
      have lc : ∀ M, lcW ⟨callF T sub FUEL n, sub, FUEL⟩ [some (.tup [a, b]), none, none] M (.bop .And [(.isi (.var 2 x0 p0) .int p0 p0 p0), (.not (.isi (.var 2 x0 p0) .bool p0 p0 p0) p0)] p0) (.nm 2 x0 p0) [] [1, 2] [a, b] = .ok ([a, b].map fun x => .bl (isIntD x)) M := fun M =>
        lcW_pl (fun x => .bl (isIntD x)) [a, b] hp fun x px _ => ⟨_, rfl, by cases x <;> first | (cases px; done) | (simp only [ends_rt, ends_nx, ends_exc, bind_ok, bind_exc, ret_some, retB_some, retL_some, retE_some, ev_var, ev_cst, ev_gint, ev_gstr, ev_gfn, ev_bin, ev_neg, ev_not, ev_bop, ev_cmp, ev_chain, ev_ite, ev_call, ev_isi, ev_blt, ev_mth, ev_sub, ev_slc, ev_tup, ev_lst, ev_lc, ev_live, ev_srt, ev_srk, evs_nil, evs_cons, evx_nil, evx_cons, evO_none, evO_some, evB_one, evB_and, evB_or, evT_nil, evT_one, exs_nil, exs_cons, nxt_nx, nxt_rt, nxt_exc, ex_asg, ex_own, ex_par, ex_app, ex_exn, ex_sti, ex_sto, ex_aug, ex_exp, ex_ret, ex_ifs, ex_fors, ex_whl, ex_rse, ex_tri, ex_frz, cstD, Tg.put, Tg.puts, startD, wipeD, kept_int, kept_bl, kept_str, kept_non, kept_tup, kept_lst, kept_ext, kept_ref, kept_fn, kept_exc, cmp_eq_int, cmp_ne_int, cmp_lt_int, cmp_le_int, cmp_gt_int, cmp_ge_int, List.map_cons, List.map_nil, List.length_cons, List.length_nil, Nat.reduceAdd, Nat.reduceSub, Nat.reduceLeDiff, List.replicate, List.cons_append, List.nil_append, List.append_nil, List.getElem?_cons_zero, List.getElem?_cons_succ, List.getElem?_nil, List.set_cons_zero, List.set_cons_succ, List.all_cons, List.all_nil, nown, Bool.and_true, Bool.true_and, Bool.and_false, Bool.false_and, if_true, if_false, Bool.false_eq_true, Bool.not_true, Bool.not_false, reduceIte, len6, Int.cast_ofNat_Int, beq_self_eq_true, Int.reduceBEq, Int.reduceAdd, Int.reduceNeg, decide_true, decide_false, Int.reduceLT, Int.reduceLE, Int.reduceToNat, isiD, isIntD]), rfl⟩
      have eall : ∀ M, bltD .all M [.lst [.bl (isIntD a), .bl (isIntD b)]] = some (.bl (isIntD a && isIntD b)) := fun M => by
        have := all_D M [a, b] isIntD
        simpa using this
      cases hA : (isIntD a && isIntD b) with
      | false =>
        have h3 : isChanceD (.tup [a, b]) = false := by
          unfold isChanceD
          split
          · rename_i hh
            simp only [D.tup.injEq, List.cons.injEq, and_true] at hh
            obtain ⟨rfl, rfl⟩ := hh
            cases hA
          · rfl
        simp only [ends_rt, ends_nx, ends_exc, bind_ok, bind_exc, ret_some, retB_some, retL_some, retE_some, ev_var, ev_cst, ev_gint, ev_gstr, ev_gfn, ev_bin, ev_neg, ev_not, ev_bop, ev_cmp, ev_chain, ev_ite, ev_call, ev_isi, ev_blt, ev_mth, ev_sub, ev_slc, ev_tup, ev_lst, ev_lc, ev_live, ev_srt, ev_srk, evs_nil, evs_cons, evx_nil, evx_cons, evO_none, evO_some, evB_one, evB_and, evB_or, evT_nil, evT_one, exs_nil, exs_cons, nxt_nx, nxt_rt, nxt_exc, ex_asg, ex_own, ex_par, ex_app, ex_exn, ex_sti, ex_sto, ex_aug, ex_exp, ex_ret, ex_ifs, ex_fors, ex_whl, ex_rse, ex_tri, ex_frz, cstD, Tg.put, Tg.puts, startD, wipeD, kept_int, kept_bl, kept_str, kept_non, kept_tup, kept_lst, kept_ext, kept_ref, kept_fn, kept_exc, cmp_eq_int, cmp_ne_int, cmp_lt_int, cmp_le_int, cmp_gt_int, cmp_ge_int, List.map_cons, List.map_nil, List.length_cons, List.length_nil, Nat.reduceAdd, Nat.reduceSub, Nat.reduceLeDiff, List.replicate, List.cons_append, List.nil_append, List.append_nil, List.getElem?_cons_zero, List.getElem?_cons_succ, List.getElem?_nil, List.set_cons_zero, List.set_cons_succ, List.all_cons, List.all_nil, nown, Bool.and_true, Bool.true_and, Bool.and_false, Bool.false_and, if_true, if_false, Bool.false_eq_true, Bool.not_true, Bool.not_false, reduceIte, len6, Int.cast_ofNat_Int, beq_self_eq_true, Int.reduceBEq, Int.reduceAdd, Int.reduceNeg, decide_true, decide_false, Int.reduceLT, Int.reduceLE, Int.reduceToNat, isiD, len_tup, src_one_tup, lc, eall, hA, h3]
      | true =>
        obtain ⟨i, rfl⟩ : ∃ i, a = .int i := by
          cases a <;> first | exact ⟨_, rfl⟩ | (simp [isIntD] at hA)
        obtain ⟨j, rfl⟩ : ∃ j, b = .int j := by
          cases b <;> first | exact ⟨_, rfl⟩ | (simp [isIntD] at hA)
        by_cases h1 : 0 < i
        · by_cases h2 : i ≤ j
          · have ei : (i.toNat : Int) = i := by omega
            have ej : (j.toNat : Int) = j := by omega
            have hf : j.toNat < FUEL := by
              have h3 := pl_int pb
              have h4 : (2 : Nat) ^ 4000 ≤ FUEL := pow_le' (by decide)
              omega
            have e := run_common (sub := sub) hc i.toNat j.toNat hf n hn M
            rw [ei, ej] at e
            have e5 : (((Nat.gcd i.toNat j.toNat : Nat) : Int) == 1) = (Nat.gcd i.toNat j.toNat == 1) := by
              rw [Bool.eq_iff_iff]
              simp only [beq_iff_eq]
              omega
            simp only [ends_rt, ends_nx, ends_exc, bind_ok, bind_exc, ret_some, retB_some, retL_some, retE_some, ev_var, ev_cst, ev_gint, ev_gstr, ev_gfn, ev_bin, ev_neg, ev_not, ev_bop, ev_cmp, ev_chain, ev_ite, ev_call, ev_isi, ev_blt, ev_mth, ev_sub, ev_slc, ev_tup, ev_lst, ev_lc, ev_live, ev_srt, ev_srk, evs_nil, evs_cons, evx_nil, evx_cons, evO_none, evO_some, evB_one, evB_and, evB_or, evT_nil, evT_one, exs_nil, exs_cons, nxt_nx, nxt_rt, nxt_exc, ex_asg, ex_own, ex_par, ex_app, ex_exn, ex_sti, ex_sto, ex_aug, ex_exp, ex_ret, ex_ifs, ex_fors, ex_whl, ex_rse, ex_tri, ex_frz, cstD, Tg.put, Tg.puts, startD, wipeD, kept_int, kept_bl, kept_str, kept_non, kept_tup, kept_lst, kept_ext, kept_ref, kept_fn, kept_exc, cmp_eq_int, cmp_ne_int, cmp_lt_int, cmp_le_int, cmp_gt_int, cmp_ge_int, List.map_cons, List.map_nil, List.length_cons, List.length_nil, Nat.reduceAdd, Nat.reduceSub, Nat.reduceLeDiff, List.replicate, List.cons_append, List.nil_append, List.append_nil, List.getElem?_cons_zero, List.getElem?_cons_succ, List.getElem?_nil, List.set_cons_zero, List.set_cons_succ, List.all_cons, List.all_nil, nown, Bool.and_true, Bool.true_and, Bool.and_false, Bool.false_and, if_true, if_false, Bool.false_eq_true, Bool.not_true, Bool.not_false, reduceIte, len6, Int.cast_ofNat_Int, beq_self_eq_true, Int.reduceBEq, Int.reduceAdd, Int.reduceNeg, decide_true, decide_false, Int.reduceLT, Int.reduceLE, Int.reduceToNat, isiD, len_tup, src_one_tup, lc, eall, hA, sub_t0, sub_t1, h1, h2, e, e5, isChanceD]
          · simp only [ends_rt, ends_nx, ends_exc, bind_ok, bind_exc, ret_some, retB_some, retL_some, retE_some, ev_var, ev_cst, ev_gint, ev_gstr, ev_gfn, ev_bin, ev_neg, ev_not, ev_bop, ev_cmp, ev_chain, ev_ite, ev_call, ev_isi, ev_blt, ev_mth, ev_sub, ev_slc, ev_tup, ev_lst, ev_lc, ev_live, ev_srt, ev_srk, evs_nil, evs_cons, evx_nil, evx_cons, evO_none, evO_some, evB_one, evB_and, evB_or, evT_nil, evT_one, exs_nil, exs_cons, nxt_nx, nxt_rt, nxt_exc, ex_asg, ex_own, ex_par, ex_app, ex_exn, ex_sti, ex_sto, ex_aug, ex_exp, ex_ret, ex_ifs, ex_fors, ex_whl, ex_rse, ex_tri, ex_frz, cstD, Tg.put, Tg.puts, startD, wipeD, kept_int, kept_bl, kept_str, kept_non, kept_tup, kept_lst, kept_ext, kept_ref, kept_fn, kept_exc, cmp_eq_int, cmp_ne_int, cmp_lt_int, cmp_le_int, cmp_gt_int, cmp_ge_int, List.map_cons, List.map_nil, List.length_cons, List.length_nil, Nat.reduceAdd, Nat.reduceSub, Nat.reduceLeDiff, List.replicate, List.cons_append, List.nil_append, List.append_nil, List.getElem?_cons_zero, List.getElem?_cons_succ, List.getElem?_nil, List.set_cons_zero, List.set_cons_succ, List.all_cons, List.all_nil, nown, Bool.and_true, Bool.true_and, Bool.and_false, Bool.false_and, if_true, if_false, Bool.false_eq_true, Bool.not_true, Bool.not_false, reduceIte, len6, Int.cast_ofNat_Int, beq_self_eq_true, Int.reduceBEq, Int.reduceAdd, Int.reduceNeg, decide_true, decide_false, Int.reduceLT, Int.reduceLE, Int.reduceToNat, isiD, len_tup, src_one_tup, lc, eall, hA, sub_t0, sub_t1, h1, h2, isChanceD]
        · simp only [ends_rt, ends_nx, ends_exc, bind_ok, bind_exc, ret_some, retB_some, retL_some, retE_some, ev_var, ev_cst, ev_gint, ev_gstr, ev_gfn, ev_bin, ev_neg, ev_not, ev_bop, ev_cmp, ev_chain, ev_ite, ev_call, ev_isi, ev_blt, ev_mth, ev_sub, ev_slc, ev_tup, ev_lst, ev_lc, ev_live, ev_srt, ev_srk, evs_nil, evs_cons, evx_nil, evx_cons, evO_none, evO_some, evB_one, evB_and, evB_or, evT_nil, evT_one, exs_nil, exs_cons, nxt_nx, nxt_rt, nxt_exc, ex_asg, ex_own, ex_par, ex_app, ex_exn, ex_sti, ex_sto, ex_aug, ex_exp, ex_ret, ex_ifs, ex_fors, ex_whl, ex_rse, ex_tri, ex_frz, cstD, Tg.put, Tg.puts, startD, wipeD, kept_int, kept_bl, kept_str, kept_non, kept_tup, kept_lst, kept_ext, kept_ref, kept_fn, kept_exc, cmp_eq_int, cmp_ne_int, cmp_lt_int, cmp_le_int, cmp_gt_int, cmp_ge_int, List.map_cons, List.map_nil, List.length_cons, List.length_nil, Nat.reduceAdd, Nat.reduceSub, Nat.reduceLeDiff, List.replicate, List.cons_append, List.nil_append, List.append_nil, List.getElem?_cons_zero, List.getElem?_cons_succ, List.getElem?_nil, List.set_cons_zero, List.set_cons_succ, List.all_cons, List.all_nil, nown, Bool.and_true, Bool.true_and, Bool.and_false, Bool.false_and, if_true, if_false, Bool.false_eq_true, Bool.not_true, Bool.not_false, reduceIte, len6, Int.cast_ofNat_Int, beq_self_eq_true, Int.reduceBEq, Int.reduceAdd, Int.reduceNeg, decide_true, decide_false, Int.reduceLT, Int.reduceLE, Int.reduceToNat, isiD, len_tup, src_one_tup, lc, eall, hA, sub_t0, sub_t1, h1, isChanceD]
    · have h2 : ((xs.length : Int) == 2) = false := lenNe _ 2 hl
      have h3 : isChanceD (.tup xs) = false := by
        unfold isChanceD
        split
        · rename_i hh; cases hh; simp at hl
        · rfl
      simp only [ends_rt, ends_nx, ends_exc, bind_ok, bind_exc, ret_some, retB_some, retL_some, retE_some, ev_var, ev_cst, ev_gint, ev_gstr, ev_gfn, ev_bin, ev_neg, ev_not, ev_bop, ev_cmp, ev_chain, ev_ite, ev_call, ev_isi, ev_blt, ev_mth, ev_sub, ev_slc, ev_tup, ev_lst, ev_lc, ev_live, ev_srt, ev_srk, evs_nil, evs_cons, evx_nil, evx_cons, evO_none, evO_some, evB_one, evB_and, evB_or, evT_nil, evT_one, exs_nil, exs_cons, nxt_nx, nxt_rt, nxt_exc, ex_asg, ex_own, ex_par, ex_app, ex_exn, ex_sti, ex_sto, ex_aug, ex_exp, ex_ret, ex_ifs, ex_fors, ex_whl, ex_rse, ex_tri, ex_frz, cstD, Tg.put, Tg.puts, startD, wipeD, kept_int, kept_bl, kept_str, kept_non, kept_tup, kept_lst, kept_ext, kept_ref, kept_fn, kept_exc, cmp_eq_int, cmp_ne_int, cmp_lt_int, cmp_le_int, cmp_gt_int, cmp_ge_int, List.map_cons, List.map_nil, List.length_cons, List.length_nil, Nat.reduceAdd, Nat.reduceSub, Nat.reduceLeDiff, List.replicate, List.cons_append, List.nil_append, List.append_nil, List.getElem?_cons_zero, List.getElem?_cons_succ, List.getElem?_nil, List.set_cons_zero, List.set_cons_succ, List.all_cons, List.all_nil, nown, Bool.and_true, Bool.true_and, Bool.and_false, Bool.false_and, if_true, if_false, Bool.false_eq_true, Bool.not_true, Bool.not_false, reduceIte, len6, Int.cast_ofNat_Int, beq_self_eq_true, Int.reduceBEq, Int.reduceAdd, Int.reduceNeg, decide_true, decide_false, Int.reduceLT, Int.reduceLE, Int.reduceToNat, isiD, len_tup, h2, h3]
  | exc c => cases hd
  | ref c => cases hd
  | fn c => cases hd
  | ext c => cases hd
  | own c => cases hd
  | dct c => cases hd
  | _ => simp only [ends_rt, ends_nx, ends_exc, bind_ok, bind_exc, ret_some, retB_some, retL_some, retE_some, ev_var, ev_cst, ev_gint, ev_gstr, ev_gfn, ev_bin, ev_neg, ev_not, ev_bop, ev_cmp, ev_chain, ev_ite, ev_call, ev_isi, ev_blt, ev_mth, ev_sub, ev_slc, ev_tup, ev_lst, ev_lc, ev_live, ev_srt, ev_srk, evs_nil, evs_cons, evx_nil, evx_cons, evO_none, evO_some, evB_one, evB_and, evB_or, evT_nil, evT_one, exs_nil, exs_cons, nxt_nx, nxt_rt, nxt_exc, ex_asg, ex_own, ex_par, ex_app, ex_exn, ex_sti, ex_sto, ex_aug, ex_exp, ex_ret, ex_ifs, ex_fors, ex_whl, ex_rse, ex_tri, ex_frz, cstD, Tg.put, Tg.puts, startD, wipeD, kept_int, kept_bl, kept_str, kept_non, kept_tup, kept_lst, kept_ext, kept_ref, kept_fn, kept_exc, cmp_eq_int, cmp_ne_int, cmp_lt_int, cmp_le_int, cmp_gt_int, cmp_ge_int, List.map_cons, List.map_nil, List.length_cons, List.length_nil, Nat.reduceAdd, Nat.reduceSub, Nat.reduceLeDiff, List.replicate, List.cons_append, List.nil_append, List.append_nil, List.getElem?_cons_zero, List.getElem?_cons_succ, List.getElem?_nil, List.set_cons_zero, List.set_cons_succ, List.all_cons, List.all_nil, nown, Bool.and_true, Bool.true_and, Bool.and_false, Bool.false_and, if_true, if_false, Bool.false_eq_true, Bool.not_true, Bool.not_false, reduceIte, len6, Int.cast_ofNat_Int, beq_self_eq_true, Int.reduceBEq, Int.reduceAdd, Int.reduceNeg, decide_true, decide_false, Int.reduceLT, Int.reduceLE, Int.reduceToNat, isiD]; rfl
/-- a kind -/
def isAskD : D → Bool
  | .non => true
  | d => isWholeD d 0 999
def isKindD : D → Bool
  | .tup [a, b, c, d] => isWholeD a 0 999 && isChanceD b && (isWholeD c 0 9 && isAskD d)
  | _ => false
def L_is_kind (whole chance : Nat) : List S := [
  .ifs (.bop .Or [(.not (.isi (.var 0 x0 p0) .tuple p0 p0 p0) p0), (.cmp .NotEq (.blt .len p0 [(.var 0 x0 p0)] p0) (.cst (.int 4) 0 p0) p0), (.not (.call whole x0 p0 [(.sub (.var 0 x0 p0) (.cst (.int 0) 0 p0) p0), (.cst (.int 0) 0 p0), (.cst (.int 999) 0 p0)] p0) p0), (.not (.call chance x0 p0 [(.sub (.var 0 x0 p0) (.cst (.int 1) 0 p0) p0)] p0) p0)] p0) [.ret (.cst (.bool false) 0 p0) p0] [] p0,
  .ret (.bop .And [(.call whole x0 p0 [(.sub (.var 0 x0 p0) (.cst (.int 2) 0 p0) p0), (.cst (.int 0) 0 p0), (.cst (.int 9) 0 p0)] p0), (.bop .Or [(.cmp .Is (.sub (.var 0 x0 p0) (.cst (.int 3) 0 p0) p0) (.cst .none 0 p0) p0), (.call whole x0 p0 [(.sub (.var 0 x0 p0) (.cst (.int 3) 0 p0) p0), (.cst (.int 0) 0 p0), (.cst (.int 999) 0 p0)] p0)] p0)] p0) p0]
theorem is_none (M : Mem) (d : D) : cmpD .Is M d .non = some (isNon d) := rfl
theorem run_is_kind {f fh fk fc : Nat} (hc : Has T fc 2 2 L_common) (hh : Has T fh 3 3 L_is_whole) (hk : Has T fk 1 3 (L_is_chance fc)) (h : Has T f 1 1 (L_is_kind fh fk)) (d : D) (hd : plB d = true) : Cal T sub FUEL 3 f [d] (.bl (isKindD d)) := by
  refine cal_of (k := 2) h rfl fun n hn M => ?_
  unfold L_is_kind
  have n1 : 1 ≤ n := by omega
  cases d with
  | tup xs =>
    obtain ⟨hp, hz⟩ := pl_tup hd
    by_cases hl : xs.length = 4
    · obtain ⟨a, b, c, d, rfl⟩ : ∃ a b c d, xs = [a, b, c, d] := by
        match xs, hl with
        | [a, b, c, d], _ => exact ⟨a, b, c, d, rfl⟩
      have pa := plBs_mem hp (x := a) (by simp)
      have pb := plBs_mem hp (x := b) (by simp)
      have pc := plBs_mem hp (x := c) (by simp)
      have pd := plBs_mem hp (x := d) (by simp)
      have key : ∀ x, x = isWholeD a 0 999 → ∀ y, y = isChanceD b → ∀ z, z = isWholeD c 0 9 → True := fun _ _ _ _ _ _ => trivial
      cases hA : isWholeD a 0 999 with
      | false => simp only [ends_rt, ends_nx, ends_exc, bind_ok, bind_exc, ret_some, retB_some, retL_some, retE_some, ev_var, ev_cst, ev_gint, ev_gstr, ev_gfn, ev_bin, ev_neg, ev_not, ev_bop, ev_cmp, ev_chain, ev_ite, ev_call, ev_isi, ev_blt, ev_mth, ev_sub, ev_slc, ev_tup, ev_lst, ev_lc, ev_live, ev_srt, ev_srk, evs_nil, evs_cons, evx_nil, evx_cons, evO_none, evO_some, evB_one, evB_and, evB_or, evT_nil, evT_one, exs_nil, exs_cons, nxt_nx, nxt_rt, nxt_exc, ex_asg, ex_own, ex_par, ex_app, ex_exn, ex_sti, ex_sto, ex_aug, ex_exp, ex_ret, ex_ifs, ex_fors, ex_whl, ex_rse, ex_tri, ex_frz, cstD, Tg.put, Tg.puts, startD, wipeD, kept_int, kept_bl, kept_str, kept_non, kept_tup, kept_lst, kept_ext, kept_ref, kept_fn, kept_exc, cmp_eq_int, cmp_ne_int, cmp_lt_int, cmp_le_int, cmp_gt_int, cmp_ge_int, List.map_cons, List.map_nil, List.length_cons, List.length_nil, Nat.reduceAdd, Nat.reduceSub, Nat.reduceLeDiff, List.replicate, List.cons_append, List.nil_append, List.append_nil, List.getElem?_cons_zero, List.getElem?_cons_succ, List.getElem?_nil, List.set_cons_zero, List.set_cons_succ, List.all_cons, List.all_nil, nown, Bool.and_true, Bool.true_and, Bool.and_false, Bool.false_and, if_true, if_false, Bool.false_eq_true, Bool.not_true, Bool.not_false, reduceIte, len6, Int.cast_ofNat_Int, beq_self_eq_true, Int.reduceBEq, Int.reduceAdd, Int.reduceNeg, decide_true, decide_false, Int.reduceLT, Int.reduceLE, Int.reduceToNat, isiD, len_tup, sub_t0, kept_ok (pl_nown pa), run_is_whole hh a 0 999 pa n n1, hA, isKindD]
      | true =>
        cases hB : isChanceD b with
        | false => simp only [ends_rt, ends_nx, ends_exc, bind_ok, bind_exc, ret_some, retB_some, retL_some, retE_some, ev_var, ev_cst, ev_gint, ev_gstr, ev_gfn, ev_bin, ev_neg, ev_not, ev_bop, ev_cmp, ev_chain, ev_ite, ev_call, ev_isi, ev_blt, ev_mth, ev_sub, ev_slc, ev_tup, ev_lst, ev_lc, ev_live, ev_srt, ev_srk, evs_nil, evs_cons, evx_nil, evx_cons, evO_none, evO_some, evB_one, evB_and, evB_or, evT_nil, evT_one, exs_nil, exs_cons, nxt_nx, nxt_rt, nxt_exc, ex_asg, ex_own, ex_par, ex_app, ex_exn, ex_sti, ex_sto, ex_aug, ex_exp, ex_ret, ex_ifs, ex_fors, ex_whl, ex_rse, ex_tri, ex_frz, cstD, Tg.put, Tg.puts, startD, wipeD, kept_int, kept_bl, kept_str, kept_non, kept_tup, kept_lst, kept_ext, kept_ref, kept_fn, kept_exc, cmp_eq_int, cmp_ne_int, cmp_lt_int, cmp_le_int, cmp_gt_int, cmp_ge_int, List.map_cons, List.map_nil, List.length_cons, List.length_nil, Nat.reduceAdd, Nat.reduceSub, Nat.reduceLeDiff, List.replicate, List.cons_append, List.nil_append, List.append_nil, List.getElem?_cons_zero, List.getElem?_cons_succ, List.getElem?_nil, List.set_cons_zero, List.set_cons_succ, List.all_cons, List.all_nil, nown, Bool.and_true, Bool.true_and, Bool.and_false, Bool.false_and, if_true, if_false, Bool.false_eq_true, Bool.not_true, Bool.not_false, reduceIte, len6, Int.cast_ofNat_Int, beq_self_eq_true, Int.reduceBEq, Int.reduceAdd, Int.reduceNeg, decide_true, decide_false, Int.reduceLT, Int.reduceLE, Int.reduceToNat, isiD, len_tup, sub_t0, sub_t1, kept_ok (pl_nown pa), kept_ok (pl_nown pb), run_is_whole hh a 0 999 pa n n1, run_is_chance hc hk b pb n hn, hA, hB, isKindD]
        | true =>
          cases hC : isWholeD c 0 9 with
          | false => simp only [ends_rt, ends_nx, ends_exc, bind_ok, bind_exc, ret_some, retB_some, retL_some, retE_some, ev_var, ev_cst, ev_gint, ev_gstr, ev_gfn, ev_bin, ev_neg, ev_not, ev_bop, ev_cmp, ev_chain, ev_ite, ev_call, ev_isi, ev_blt, ev_mth, ev_sub, ev_slc, ev_tup, ev_lst, ev_lc, ev_live, ev_srt, ev_srk, evs_nil, evs_cons, evx_nil, evx_cons, evO_none, evO_some, evB_one, evB_and, evB_or, evT_nil, evT_one, exs_nil, exs_cons, nxt_nx, nxt_rt, nxt_exc, ex_asg, ex_own, ex_par, ex_app, ex_exn, ex_sti, ex_sto, ex_aug, ex_exp, ex_ret, ex_ifs, ex_fors, ex_whl, ex_rse, ex_tri, ex_frz, cstD, Tg.put, Tg.puts, startD, wipeD, kept_int, kept_bl, kept_str, kept_non, kept_tup, kept_lst, kept_ext, kept_ref, kept_fn, kept_exc, cmp_eq_int, cmp_ne_int, cmp_lt_int, cmp_le_int, cmp_gt_int, cmp_ge_int, List.map_cons, List.map_nil, List.length_cons, List.length_nil, Nat.reduceAdd, Nat.reduceSub, Nat.reduceLeDiff, List.replicate, List.cons_append, List.nil_append, List.append_nil, List.getElem?_cons_zero, List.getElem?_cons_succ, List.getElem?_nil, List.set_cons_zero, List.set_cons_succ, List.all_cons, List.all_nil, nown, Bool.and_true, Bool.true_and, Bool.and_false, Bool.false_and, if_true, if_false, Bool.false_eq_true, Bool.not_true, Bool.not_false, reduceIte, len6, Int.cast_ofNat_Int, beq_self_eq_true, Int.reduceBEq, Int.reduceAdd, Int.reduceNeg, decide_true, decide_false, Int.reduceLT, Int.reduceLE, Int.reduceToNat, isiD, len_tup, sub_t0, sub_t1, sub_t2, kept_ok (pl_nown pa), kept_ok (pl_nown pb), kept_ok (pl_nown pc), run_is_whole hh a 0 999 pa n n1, run_is_chance hc hk b pb n hn, run_is_whole hh c 0 9 pc n n1, hA, hB, hC, isKindD]
          | true =>
            have e2 : isAskD d = (isNon d || isWholeD d 0 999) := by cases d <;> rfl
            cases hN : isNon d with
            | true => simp only [ends_rt, ends_nx, ends_exc, bind_ok, bind_exc, ret_some, retB_some, retL_some, retE_some, ev_var, ev_cst, ev_gint, ev_gstr, ev_gfn, ev_bin, ev_neg, ev_not, ev_bop, ev_cmp, ev_chain, ev_ite, ev_call, ev_isi, ev_blt, ev_mth, ev_sub, ev_slc, ev_tup, ev_lst, ev_lc, ev_live, ev_srt, ev_srk, evs_nil, evs_cons, evx_nil, evx_cons, evO_none, evO_some, evB_one, evB_and, evB_or, evT_nil, evT_one, exs_nil, exs_cons, nxt_nx, nxt_rt, nxt_exc, ex_asg, ex_own, ex_par, ex_app, ex_exn, ex_sti, ex_sto, ex_aug, ex_exp, ex_ret, ex_ifs, ex_fors, ex_whl, ex_rse, ex_tri, ex_frz, cstD, Tg.put, Tg.puts, startD, wipeD, kept_int, kept_bl, kept_str, kept_non, kept_tup, kept_lst, kept_ext, kept_ref, kept_fn, kept_exc, cmp_eq_int, cmp_ne_int, cmp_lt_int, cmp_le_int, cmp_gt_int, cmp_ge_int, List.map_cons, List.map_nil, List.length_cons, List.length_nil, Nat.reduceAdd, Nat.reduceSub, Nat.reduceLeDiff, List.replicate, List.cons_append, List.nil_append, List.append_nil, List.getElem?_cons_zero, List.getElem?_cons_succ, List.getElem?_nil, List.set_cons_zero, List.set_cons_succ, List.all_cons, List.all_nil, nown, Bool.and_true, Bool.true_and, Bool.and_false, Bool.false_and, if_true, if_false, Bool.false_eq_true, Bool.not_true, Bool.not_false, reduceIte, len6, Int.cast_ofNat_Int, beq_self_eq_true, Int.reduceBEq, Int.reduceAdd, Int.reduceNeg, decide_true, decide_false, Int.reduceLT, Int.reduceLE, Int.reduceToNat, isiD, len_tup, sub_t0, sub_t1, sub_t2, sub_t3, kept_ok (pl_nown pa), kept_ok (pl_nown pb), kept_ok (pl_nown pc), run_is_whole hh a 0 999 pa n n1, run_is_chance hc hk b pb n hn, run_is_whole hh c 0 9 pc n n1, hA, hB, hC, is_none, hN, isKindD, e2, Bool.true_or]
            | false => simp only [ends_rt, ends_nx, ends_exc, bind_ok, bind_exc, ret_some, retB_some, retL_some, retE_some, ev_var, ev_cst, ev_gint, ev_gstr, ev_gfn, ev_bin, ev_neg, ev_not, ev_bop, ev_cmp, ev_chain, ev_ite, ev_call, ev_isi, ev_blt, ev_mth, ev_sub, ev_slc, ev_tup, ev_lst, ev_lc, ev_live, ev_srt, ev_srk, evs_nil, evs_cons, evx_nil, evx_cons, evO_none, evO_some, evB_one, evB_and, evB_or, evT_nil, evT_one, exs_nil, exs_cons, nxt_nx, nxt_rt, nxt_exc, ex_asg, ex_own, ex_par, ex_app, ex_exn, ex_sti, ex_sto, ex_aug, ex_exp, ex_ret, ex_ifs, ex_fors, ex_whl, ex_rse, ex_tri, ex_frz, cstD, Tg.put, Tg.puts, startD, wipeD, kept_int, kept_bl, kept_str, kept_non, kept_tup, kept_lst, kept_ext, kept_ref, kept_fn, kept_exc, cmp_eq_int, cmp_ne_int, cmp_lt_int, cmp_le_int, cmp_gt_int, cmp_ge_int, List.map_cons, List.map_nil, List.length_cons, List.length_nil, Nat.reduceAdd, Nat.reduceSub, Nat.reduceLeDiff, List.replicate, List.cons_append, List.nil_append, List.append_nil, List.getElem?_cons_zero, List.getElem?_cons_succ, List.getElem?_nil, List.set_cons_zero, List.set_cons_succ, List.all_cons, List.all_nil, nown, Bool.and_true, Bool.true_and, Bool.and_false, Bool.false_and, if_true, if_false, Bool.false_eq_true, Bool.not_true, Bool.not_false, reduceIte, len6, Int.cast_ofNat_Int, beq_self_eq_true, Int.reduceBEq, Int.reduceAdd, Int.reduceNeg, decide_true, decide_false, Int.reduceLT, Int.reduceLE, Int.reduceToNat, isiD, len_tup, sub_t0, sub_t1, sub_t2, sub_t3, kept_ok (pl_nown pa), kept_ok (pl_nown pb), kept_ok (pl_nown pc), kept_ok (pl_nown pd), run_is_whole hh a 0 999 pa n n1, run_is_chance hc hk b pb n hn, run_is_whole hh c 0 9 pc n n1, run_is_whole hh d 0 999 pd n n1, hA, hB, hC, is_none, hN, isKindD, e2, Bool.false_or]
    · have h2 : ((xs.length : Int) == 4) = false := lenNe _ 4 hl
      have h3 : isKindD (.tup xs) = false := by
        unfold isKindD
        split
        · rename_i hh; cases hh; simp at hl
        · rfl
      simp only [ends_rt, ends_nx, ends_exc, bind_ok, bind_exc, ret_some, retB_some, retL_some, retE_some, ev_var, ev_cst, ev_gint, ev_gstr, ev_gfn, ev_bin, ev_neg, ev_not, ev_bop, ev_cmp, ev_chain, ev_ite, ev_call, ev_isi, ev_blt, ev_mth, ev_sub, ev_slc, ev_tup, ev_lst, ev_lc, ev_live, ev_srt, ev_srk, evs_nil, evs_cons, evx_nil, evx_cons, evO_none, evO_some, evB_one, evB_and, evB_or, evT_nil, evT_one, exs_nil, exs_cons, nxt_nx, nxt_rt, nxt_exc, ex_asg, ex_own, ex_par, ex_app, ex_exn, ex_sti, ex_sto, ex_aug, ex_exp, ex_ret, ex_ifs, ex_fors, ex_whl, ex_rse, ex_tri, ex_frz, cstD, Tg.put, Tg.puts, startD, wipeD, kept_int, kept_bl, kept_str, kept_non, kept_tup, kept_lst, kept_ext, kept_ref, kept_fn, kept_exc, cmp_eq_int, cmp_ne_int, cmp_lt_int, cmp_le_int, cmp_gt_int, cmp_ge_int, List.map_cons, List.map_nil, List.length_cons, List.length_nil, Nat.reduceAdd, Nat.reduceSub, Nat.reduceLeDiff, List.replicate, List.cons_append, List.nil_append, List.append_nil, List.getElem?_cons_zero, List.getElem?_cons_succ, List.getElem?_nil, List.set_cons_zero, List.set_cons_succ, List.all_cons, List.all_nil, nown, Bool.and_true, Bool.true_and, Bool.and_false, Bool.false_and, if_true, if_false, Bool.false_eq_true, Bool.not_true, Bool.not_false, reduceIte, len6, Int.cast_ofNat_Int, beq_self_eq_true, Int.reduceBEq, Int.reduceAdd, Int.reduceNeg, decide_true, decide_false, Int.reduceLT, Int.reduceLE, Int.reduceToNat, isiD, len_tup, h2, h3]
  | exc c => cases hd
  | ref c => cases hd
  | fn c => cases hd
  | ext c => cases hd
  | own c => cases hd
  | dct c => cases hd
  | _ => simp only [ends_rt, ends_nx, ends_exc, bind_ok, bind_exc, ret_some, retB_some, retL_some, retE_some, ev_var, ev_cst, ev_gint, ev_gstr, ev_gfn, ev_bin, ev_neg, ev_not, ev_bop, ev_cmp, ev_chain, ev_ite, ev_call, ev_isi, ev_blt, ev_mth, ev_sub, ev_slc, ev_tup, ev_lst, ev_lc, ev_live, ev_srt, ev_srk, evs_nil, evs_cons, evx_nil, evx_cons, evO_none, evO_some, evB_one, evB_and, evB_or, evT_nil, evT_one, exs_nil, exs_cons, nxt_nx, nxt_rt, nxt_exc, ex_asg, ex_own, ex_par, ex_app, ex_exn, ex_sti, ex_sto, ex_aug, ex_exp, ex_ret, ex_ifs, ex_fors, ex_whl, ex_rse, ex_tri, ex_frz, cstD, Tg.put, Tg.puts, startD, wipeD, kept_int, kept_bl, kept_str, kept_non, kept_tup, kept_lst, kept_ext, kept_ref, kept_fn, kept_exc, cmp_eq_int, cmp_ne_int, cmp_lt_int, cmp_le_int, cmp_gt_int, cmp_ge_int, List.map_cons, List.map_nil, List.length_cons, List.length_nil, Nat.reduceAdd, Nat.reduceSub, Nat.reduceLeDiff, List.replicate, List.cons_append, List.nil_append, List.append_nil, List.getElem?_cons_zero, List.getElem?_cons_succ, List.getElem?_nil, List.set_cons_zero, List.set_cons_succ, List.all_cons, List.all_nil, nown, Bool.and_true, Bool.true_and, Bool.and_false, Bool.false_and, if_true, if_false, Bool.false_eq_true, Bool.not_true, Bool.not_false, reduceIte, len6, Int.cast_ofNat_Int, beq_self_eq_true, Int.reduceBEq, Int.reduceAdd, Int.reduceNeg, decide_true, decide_false, Int.reduceLT, Int.reduceLE, Int.reduceToNat, isiD]; rfl
end
end L2.Z
set_option Elab.async false
set_option linter.all false
set_option maxRecDepth 100000
set_option maxHeartbeats 1000000
set_option exponentiation.threshold 9000
/-! ### what is a house: bookings, rules, houses -/
namespace L2.Z
open PySem
theorem any_strs (z : Str) : ∀ ss : List Str, ((ss.map D.str).any fun w => eqD w (.str z)) = ss.contains z
  | [] => rfl
  | s :: ss => by
    rw [List.map_cons, List.any_cons, any_strs z ss, List.contains_cons]
    congr 1
    show (s == z) = (z == s)
    rw [Bool.eq_iff_iff]
    simp only [beq_iff_eq]
    exact ⟨fun h => h.symm, fun h => h.symm⟩
theorem pys_strs : ∀ ss : List Str, (∀ s ∈ ss, PyData.strOk s = true) → pyOks (ss.map .str) = true
  | [], _ => rfl
  | s :: ss, h => by
    simp only [List.map_cons, pyOks, pyOk, Bool.and_eq_true]
    exact ⟨h s List.mem_cons_self, pys_strs ss fun t ht => h t (List.mem_cons_of_mem _ ht)⟩
theorem deps_strs : ∀ ss : List Str, deps (ss.map .str) = 0
  | [] => rfl
  | s :: ss => by simp only [List.map_cons, deps, dep, deps_strs ss]; rfl
theorem in_strs (M : Mem) (z : Str) (ss : List Str) (hz : PyData.strOk z = true) (hs : ∀ s ∈ ss, PyData.strOk s = true) : cmpD .In M (.str z) (.lst (ss.map .str)) = some (ss.contains z) := by
  have h1 : shD (.str z) = true := by simp [shD, pyOk, dep, hz]
  have h2 : shD (.lst (ss.map .str)) = true := by
    simp only [shD, pyOk, dep, deps_strs, pys_strs ss hs]
    rfl
  simp only [cmpD, inD, lview, h1, h2, Bool.and_self, if_true, any_strs]
theorem notin_strs (M : Mem) (z : Str) (ss : List Str) (hz : PyData.strOk z = true) (hs : ∀ s ∈ ss, PyData.strOk s = true) : cmpD .NotIn M (.str z) (.lst (ss.map .str)) = some (!ss.contains z) := by
  have := in_strs M z ss hz hs
  have e : cmpD .NotIn M (.str z) (.lst (ss.map .str)) = (cmpD .In M (.str z) (.lst (ss.map .str))).map (!·) := rfl
  rw [e, this]; rfl
def isStrD : D → Bool
  | .str _ => true
  | _ => false
def inNames (names : List Str) : D → Bool
  | .str z => names.contains z
  | _ => false
def isBookingD (names : List Str) : D → Bool
  | .tup [a, b, c, d, e, g] => isWordD a && (inNames names b && isKindD (.tup [c, d, e, g]))
  | _ => false
def L_is_booking (word kind : Nat) : List S := [
  .ifs (.bop .Or [(.not (.isi (.var 1 x0 p0) .tuple p0 p0 p0) p0), (.cmp .NotEq (.blt .len p0 [(.var 1 x0 p0)] p0) (.cst (.int 6) 0 p0) p0), (.not (.call word x0 p0 [(.sub (.var 1 x0 p0) (.cst (.int 0) 0 p0) p0)] p0) p0), (.not (.isi (.sub (.var 1 x0 p0) (.cst (.int 1) 0 p0) p0) .str p0 p0 p0) p0)] p0) [.ret (.cst (.bool false) 0 p0) p0] [] p0,
  .ret (.bop .And [(.cmp .In (.sub (.var 1 x0 p0) (.cst (.int 1) 0 p0) p0) (.var 0 x0 p0) p0), (.call kind x0 p0 [(.slc (.var 1 x0 p0) (some (.cst (.int 2) 0 p0)) none p0 p0)] p0)] p0) p0]
section
variable {T : Nat → Option Fn} {sub : Nat → Nat → Bool}
/-- the defs about parts of a house that stand -/
structure Parts (T : Nat → Option Fn) (common whole word chance kind : Nat) : Prop where
  co : Has T common 2 2 L_common
  wh : Has T whole 3 3 L_is_whole
  wo : Has T word 1 3 L_is_word
  ch : Has T chance 1 3 (L_is_chance common)
  ki : Has T kind 1 1 (L_is_kind whole chance)
variable {co wh wo ch ki : Nat}
theorem run_is_booking (P : Parts T co wh wo ch ki) {f : Nat} (h : Has T f 2 2 (L_is_booking wo ki)) (names : List Str) (hs : ∀ s ∈ names, PyData.strOk s = true) (d : D) (hd : plB d = true) : Cal T sub FUEL 4 f [.lst (names.map .str), d] (.bl (isBookingD names d)) := by
  refine cal_of (k := 3) h rfl fun n hn M => ?_
  unfold L_is_booking
  have n1 : 1 ≤ n := by omega
  cases d with
  | tup xs =>
    obtain ⟨hp, hz⟩ := pl_tup hd
    by_cases hl : xs.length = 6
    · obtain ⟨a, b, c, d, e, g, rfl⟩ : ∃ a b c d e g, xs = [a, b, c, d, e, g] := by
        match xs, hl with
        | [a, b, c, d, e, g], _ => exact ⟨a, b, c, d, e, g, rfl⟩
      have pa := plBs_mem hp (x := a) (by simp)
      have pb := plBs_mem hp (x := b) (by simp)
      have pk : plB (.tup [c, d, e, g]) = true := by
        simp only [plBs, Bool.and_eq_true, and_true] at hp
        simp only [plB, plBs, Bool.and_eq_true, and_true, List.length_cons, List.length_nil]
        exact ⟨hp.2.2, rfl⟩
      have ecut : cutD [a, b, c, d, e, g] (some 2) none = [c, d, e, g] := by rw [cut2]; rfl
      cases hA : isWordD a with
      | false => simp only [ends_rt, ends_nx, ends_exc, bind_ok, bind_exc, ret_some, retB_some, retL_some, retE_some, ev_var, ev_cst, ev_gint, ev_gstr, ev_gfn, ev_bin, ev_neg, ev_not, ev_bop, ev_cmp, ev_chain, ev_ite, ev_call, ev_isi, ev_blt, ev_mth, ev_sub, ev_slc, ev_tup, ev_lst, ev_lc, ev_live, ev_srt, ev_srk, evs_nil, evs_cons, evx_nil, evx_cons, evO_none, evO_some, evB_one, evB_and, evB_or, evT_nil, evT_one, exs_nil, exs_cons, nxt_nx, nxt_rt, nxt_exc, ex_asg, ex_own, ex_par, ex_app, ex_exn, ex_sti, ex_sto, ex_aug, ex_exp, ex_ret, ex_ifs, ex_fors, ex_whl, ex_rse, ex_tri, ex_frz, cstD, Tg.put, Tg.puts, startD, wipeD, kept_int, kept_bl, kept_str, kept_non, kept_tup, kept_lst, kept_ext, kept_ref, kept_fn, kept_exc, cmp_eq_int, cmp_ne_int, cmp_lt_int, cmp_le_int, cmp_gt_int, cmp_ge_int, List.map_cons, List.map_nil, List.length_cons, List.length_nil, Nat.reduceAdd, Nat.reduceSub, Nat.reduceLeDiff, List.replicate, List.cons_append, List.nil_append, List.append_nil, List.getElem?_cons_zero, List.getElem?_cons_succ, List.getElem?_nil, List.set_cons_zero, List.set_cons_succ, List.all_cons, List.all_nil, nown, Bool.and_true, Bool.true_and, Bool.and_false, Bool.false_and, if_true, if_false, Bool.false_eq_true, Bool.not_true, Bool.not_false, reduceIte, len6, Int.cast_ofNat_Int, beq_self_eq_true, Int.reduceBEq, Int.reduceAdd, Int.reduceNeg, decide_true, decide_false, Int.reduceLT, Int.reduceLE, Int.reduceToNat, isiD, len_tup, sub_t0, kept_ok (pl_nown pa), run_is_word P.wo a pa n n1, hA, isBookingD]
      | true =>
        by_cases hb : ∃ z, b = .str z
        · obtain ⟨z, rfl⟩ := hb
          simp only [plB, Bool.and_eq_true] at pb
          cases hI : names.contains z with
          | false => simp only [ends_rt, ends_nx, ends_exc, bind_ok, bind_exc, ret_some, retB_some, retL_some, retE_some, ev_var, ev_cst, ev_gint, ev_gstr, ev_gfn, ev_bin, ev_neg, ev_not, ev_bop, ev_cmp, ev_chain, ev_ite, ev_call, ev_isi, ev_blt, ev_mth, ev_sub, ev_slc, ev_tup, ev_lst, ev_lc, ev_live, ev_srt, ev_srk, evs_nil, evs_cons, evx_nil, evx_cons, evO_none, evO_some, evB_one, evB_and, evB_or, evT_nil, evT_one, exs_nil, exs_cons, nxt_nx, nxt_rt, nxt_exc, ex_asg, ex_own, ex_par, ex_app, ex_exn, ex_sti, ex_sto, ex_aug, ex_exp, ex_ret, ex_ifs, ex_fors, ex_whl, ex_rse, ex_tri, ex_frz, cstD, Tg.put, Tg.puts, startD, wipeD, kept_int, kept_bl, kept_str, kept_non, kept_tup, kept_lst, kept_ext, kept_ref, kept_fn, kept_exc, cmp_eq_int, cmp_ne_int, cmp_lt_int, cmp_le_int, cmp_gt_int, cmp_ge_int, List.map_cons, List.map_nil, List.length_cons, List.length_nil, Nat.reduceAdd, Nat.reduceSub, Nat.reduceLeDiff, List.replicate, List.cons_append, List.nil_append, List.append_nil, List.getElem?_cons_zero, List.getElem?_cons_succ, List.getElem?_nil, List.set_cons_zero, List.set_cons_succ, List.all_cons, List.all_nil, nown, Bool.and_true, Bool.true_and, Bool.and_false, Bool.false_and, if_true, if_false, Bool.false_eq_true, Bool.not_true, Bool.not_false, reduceIte, len6, Int.cast_ofNat_Int, beq_self_eq_true, Int.reduceBEq, Int.reduceAdd, Int.reduceNeg, decide_true, decide_false, Int.reduceLT, Int.reduceLE, Int.reduceToNat, isiD, len_tup, sub_t0, sub_t1, kept_ok (pl_nown pa), run_is_word P.wo a pa n n1, hA, in_strs _ z names pb.1 hs, hI, isBookingD, inNames]
          | true => simp only [ends_rt, ends_nx, ends_exc, bind_ok, bind_exc, ret_some, retB_some, retL_some, retE_some, ev_var, ev_cst, ev_gint, ev_gstr, ev_gfn, ev_bin, ev_neg, ev_not, ev_bop, ev_cmp, ev_chain, ev_ite, ev_call, ev_isi, ev_blt, ev_mth, ev_sub, ev_slc, ev_tup, ev_lst, ev_lc, ev_live, ev_srt, ev_srk, evs_nil, evs_cons, evx_nil, evx_cons, evO_none, evO_some, evB_one, evB_and, evB_or, evT_nil, evT_one, exs_nil, exs_cons, nxt_nx, nxt_rt, nxt_exc, ex_asg, ex_own, ex_par, ex_app, ex_exn, ex_sti, ex_sto, ex_aug, ex_exp, ex_ret, ex_ifs, ex_fors, ex_whl, ex_rse, ex_tri, ex_frz, cstD, Tg.put, Tg.puts, startD, wipeD, kept_int, kept_bl, kept_str, kept_non, kept_tup, kept_lst, kept_ext, kept_ref, kept_fn, kept_exc, cmp_eq_int, cmp_ne_int, cmp_lt_int, cmp_le_int, cmp_gt_int, cmp_ge_int, List.map_cons, List.map_nil, List.length_cons, List.length_nil, Nat.reduceAdd, Nat.reduceSub, Nat.reduceLeDiff, List.replicate, List.cons_append, List.nil_append, List.append_nil, List.getElem?_cons_zero, List.getElem?_cons_succ, List.getElem?_nil, List.set_cons_zero, List.set_cons_succ, List.all_cons, List.all_nil, nown, Bool.and_true, Bool.true_and, Bool.and_false, Bool.false_and, if_true, if_false, Bool.false_eq_true, Bool.not_true, Bool.not_false, reduceIte, len6, Int.cast_ofNat_Int, beq_self_eq_true, Int.reduceBEq, Int.reduceAdd, Int.reduceNeg, decide_true, decide_false, Int.reduceLT, Int.reduceLE, Int.reduceToNat, isiD, len_tup, sub_t0, sub_t1, kept_ok (pl_nown pa), run_is_word P.wo a pa n n1, hA, in_strs _ z names pb.1 hs, hI, isBookingD, inNames, slc_tup, ecut, run_is_kind P.co P.wh P.ch P.ki _ pk n hn]
        · have e2 : inNames names b = false := by cases b <;> first | rfl | exact absurd ⟨_, rfl⟩ hb
          have e3 : ∀ M, isiD sub M .str b = some false := fun M => by cases b <;> first | rfl | (cases pb; done) | exact absurd ⟨_, rfl⟩ hb
          simp only [ends_rt, ends_nx, ends_exc, bind_ok, bind_exc, ret_some, retB_some, retL_some, retE_some, ev_var, ev_cst, ev_gint, ev_gstr, ev_gfn, ev_bin, ev_neg, ev_not, ev_bop, ev_cmp, ev_chain, ev_ite, ev_call, ev_isi, ev_blt, ev_mth, ev_sub, ev_slc, ev_tup, ev_lst, ev_lc, ev_live, ev_srt, ev_srk, evs_nil, evs_cons, evx_nil, evx_cons, evO_none, evO_some, evB_one, evB_and, evB_or, evT_nil, evT_one, exs_nil, exs_cons, nxt_nx, nxt_rt, nxt_exc, ex_asg, ex_own, ex_par, ex_app, ex_exn, ex_sti, ex_sto, ex_aug, ex_exp, ex_ret, ex_ifs, ex_fors, ex_whl, ex_rse, ex_tri, ex_frz, cstD, Tg.put, Tg.puts, startD, wipeD, kept_int, kept_bl, kept_str, kept_non, kept_tup, kept_lst, kept_ext, kept_ref, kept_fn, kept_exc, cmp_eq_int, cmp_ne_int, cmp_lt_int, cmp_le_int, cmp_gt_int, cmp_ge_int, List.map_cons, List.map_nil, List.length_cons, List.length_nil, Nat.reduceAdd, Nat.reduceSub, Nat.reduceLeDiff, List.replicate, List.cons_append, List.nil_append, List.append_nil, List.getElem?_cons_zero, List.getElem?_cons_succ, List.getElem?_nil, List.set_cons_zero, List.set_cons_succ, List.all_cons, List.all_nil, nown, Bool.and_true, Bool.true_and, Bool.and_false, Bool.false_and, if_true, if_false, Bool.false_eq_true, Bool.not_true, Bool.not_false, reduceIte, len6, Int.cast_ofNat_Int, beq_self_eq_true, Int.reduceBEq, Int.reduceAdd, Int.reduceNeg, decide_true, decide_false, Int.reduceLT, Int.reduceLE, Int.reduceToNat, len_tup, sub_t0, sub_t1, kept_ok (pl_nown pa), run_is_word P.wo a pa n n1, hA, e3, isBookingD, e2, show ∀ M, isiD sub M .tuple (.tup [a, b, c, d, e, g]) = some true from fun _ => rfl]
    · have h2 : ((xs.length : Int) == 6) = false := lenNe _ 6 hl
      have h3 : isBookingD names (.tup xs) = false := by
        unfold isBookingD
        split
        · rename_i hh; cases hh; simp at hl
        · rfl
      simp only [ends_rt, ends_nx, ends_exc, bind_ok, bind_exc, ret_some, retB_some, retL_some, retE_some, ev_var, ev_cst, ev_gint, ev_gstr, ev_gfn, ev_bin, ev_neg, ev_not, ev_bop, ev_cmp, ev_chain, ev_ite, ev_call, ev_isi, ev_blt, ev_mth, ev_sub, ev_slc, ev_tup, ev_lst, ev_lc, ev_live, ev_srt, ev_srk, evs_nil, evs_cons, evx_nil, evx_cons, evO_none, evO_some, evB_one, evB_and, evB_or, evT_nil, evT_one, exs_nil, exs_cons, nxt_nx, nxt_rt, nxt_exc, ex_asg, ex_own, ex_par, ex_app, ex_exn, ex_sti, ex_sto, ex_aug, ex_exp, ex_ret, ex_ifs, ex_fors, ex_whl, ex_rse, ex_tri, ex_frz, cstD, Tg.put, Tg.puts, startD, wipeD, kept_int, kept_bl, kept_str, kept_non, kept_tup, kept_lst, kept_ext, kept_ref, kept_fn, kept_exc, cmp_eq_int, cmp_ne_int, cmp_lt_int, cmp_le_int, cmp_gt_int, cmp_ge_int, List.map_cons, List.map_nil, List.length_cons, List.length_nil, Nat.reduceAdd, Nat.reduceSub, Nat.reduceLeDiff, List.replicate, List.cons_append, List.nil_append, List.append_nil, List.getElem?_cons_zero, List.getElem?_cons_succ, List.getElem?_nil, List.set_cons_zero, List.set_cons_succ, List.all_cons, List.all_nil, nown, Bool.and_true, Bool.true_and, Bool.and_false, Bool.false_and, if_true, if_false, Bool.false_eq_true, Bool.not_true, Bool.not_false, reduceIte, len6, Int.cast_ofNat_Int, beq_self_eq_true, Int.reduceBEq, Int.reduceAdd, Int.reduceNeg, decide_true, decide_false, Int.reduceLT, Int.reduceLE, Int.reduceToNat, isiD, len_tup, h2, h3]
  | exc c => cases hd
  | ref c => cases hd
  | fn c => cases hd
  | ext c => cases hd
  | own c => cases hd
  | dct c => cases hd
  | _ => simp only [ends_rt, ends_nx, ends_exc, bind_ok, bind_exc, ret_some, retB_some, retL_some, retE_some, ev_var, ev_cst, ev_gint, ev_gstr, ev_gfn, ev_bin, ev_neg, ev_not, ev_bop, ev_cmp, ev_chain, ev_ite, ev_call, ev_isi, ev_blt, ev_mth, ev_sub, ev_slc, ev_tup, ev_lst, ev_lc, ev_live, ev_srt, ev_srk, evs_nil, evs_cons, evx_nil, evx_cons, evO_none, evO_some, evB_one, evB_and, evB_or, evT_nil, evT_one, exs_nil, exs_cons, nxt_nx, nxt_rt, nxt_exc, ex_asg, ex_own, ex_par, ex_app, ex_exn, ex_sti, ex_sto, ex_aug, ex_exp, ex_ret, ex_ifs, ex_fors, ex_whl, ex_rse, ex_tri, ex_frz, cstD, Tg.put, Tg.puts, startD, wipeD, kept_int, kept_bl, kept_str, kept_non, kept_tup, kept_lst, kept_ext, kept_ref, kept_fn, kept_exc, cmp_eq_int, cmp_ne_int, cmp_lt_int, cmp_le_int, cmp_gt_int, cmp_ge_int, List.map_cons, List.map_nil, List.length_cons, List.length_nil, Nat.reduceAdd, Nat.reduceSub, Nat.reduceLeDiff, List.replicate, List.cons_append, List.nil_append, List.append_nil, List.getElem?_cons_zero, List.getElem?_cons_succ, List.getElem?_nil, List.set_cons_zero, List.set_cons_succ, List.all_cons, List.all_nil, nown, Bool.and_true, Bool.true_and, Bool.and_false, Bool.false_and, if_true, if_false, Bool.false_eq_true, Bool.not_true, Bool.not_false, reduceIte, len6, Int.cast_ofNat_Int, beq_self_eq_true, Int.reduceBEq, Int.reduceAdd, Int.reduceNeg, decide_true, decide_false, Int.reduceLT, Int.reduceLE, Int.reduceToNat, isiD]; rfl
/-- a rule -/
def isRowD : D → Bool
  | .tup [a, b] => isWholeD a 0 9999 && isWholeD b 0 9999
  | _ => false
def rowsOf : List D → List (Int × Int)
  | [] => []
  | .tup [.int a, .int b] :: r => (a, b) :: rowsOf r
  | _ :: r => rowsOf r
def rowD (p : Int × Int) : D := .tup [.int p.1, .int p.2]
def isTableD (rows : List D) : Bool := rows.all isRowD && (riseI ((rowsOf rows).map (·.1)) && (riseI ((rowsOf rows).map (·.2)) && (match rowsOf rows with
  | p :: _ => p.1 == 0
  | [] => false)))
def isRuleD : D → Bool
  | .tup [.str w, .tup rows] => (w == "own" || w == "last") && isTableD rows
  | _ => false
theorem rows_emb : ∀ {rows : List D}, rows.all isRowD = true → rows = (rowsOf rows).map rowD
  | [], _ => rfl
  | d :: rows, h => by
    simp only [List.all_cons, Bool.and_eq_true] at h
    obtain ⟨h1, h2⟩ := h
    have ih := rows_emb h2
    unfold isRowD at h1
    split at h1
    · rename_i a b
      simp only [Bool.and_eq_true] at h1
      obtain ⟨i, rfl, _⟩ := isWholeD_int h1.1
      obtain ⟨j, rfl, _⟩ := isWholeD_int h1.2
      rw [rowsOf, List.map_cons, ← ih]
      rfl
    · cases h1
def L_is_rule (whole rise : Nat) : List S := [
  .ifs (.bop .Or [(.not (.isi (.var 0 x0 p0) .tuple p0 p0 p0) p0), (.cmp .NotEq (.blt .len p0 [(.var 0 x0 p0)] p0) (.cst (.int 2) 0 p0) p0), (.not (.isi (.sub (.var 0 x0 p0) (.cst (.int 0) 0 p0) p0) .str p0 p0 p0) p0)] p0) [.ret (.cst (.bool false) 0 p0) p0] [] p0,
  .ifs (.bop .Or [(.cmp .NotIn (.sub (.var 0 x0 p0) (.cst (.int 0) 0 p0) p0) (.tup [(.cst (.str "own") 0 p0), (.cst (.str "last") 0 p0)] 0 p0) p0), (.not (.isi (.sub (.var 0 x0 p0) (.cst (.int 1) 0 p0) p0) .tuple p0 p0 p0) p0), (.cmp .Eq (.sub (.var 0 x0 p0) (.cst (.int 1) 0 p0) p0) (.tup [] 0 p0) p0)] p0) [.ret (.cst (.bool false) 0 p0) p0] [] p0,
  .fors (.nm 1 x0 p0) .one [(.sub (.var 0 x0 p0) (.cst (.int 1) 0 p0) p0)] [.ifs (.bop .Or [(.not (.isi (.var 1 x0 p0) .tuple p0 p0 p0) p0), (.cmp .NotEq (.blt .len p0 [(.var 1 x0 p0)] p0) (.cst (.int 2) 0 p0) p0), (.not (.blt .all p0 [(.lc (.call whole x0 p0 [(.var 4 x0 p0), (.cst (.int 0) 0 p0), (.cst (.int 9999) 0 p0)] p0) (.nm 4 x0 p0) .one [(.var 1 x0 p0)] [] sc0 [(x0, 3), (x0, 4)] p0)] p0) p0)] p0) [.ret (.cst (.bool false) 0 p0) p0] [] p0] p0,
  .asg (.nm 2 x0 p0) (.bop .And [(.call rise x0 p0 [(.lc (.sub (.var 1 x0 p0) (.cst (.int 0) 0 p0) p0) (.nm 1 x0 p0) .one [(.sub (.var 0 x0 p0) (.cst (.int 1) 0 p0) p0)] [] sc0 [(x0, 3), (x0, 1)] p0)] p0), (.call rise x0 p0 [(.lc (.sub (.var 1 x0 p0) (.cst (.int 1) 0 p0) p0) (.nm 1 x0 p0) .one [(.sub (.var 0 x0 p0) (.cst (.int 1) 0 p0) p0)] [] sc0 [(x0, 3), (x0, 1)] p0)] p0)] p0) p0,
  .ret (.bop .And [(.var 2 x0 p0), (.cmp .Eq (.sub (.sub (.sub (.var 0 x0 p0) (.cst (.int 1) 0 p0) p0) (.cst (.int 0) 0 p0) p0) (.cst (.int 0) 0 p0) p0) (.cst (.int 0) 0 p0) p0)] p0) p0]
theorem rule_loop (hh : Has T wh 3 3 L_is_whole) (n : Nat) (n1 : 1 ≤ n) (x : D) (M : Mem) : ∀ (rows : List D) (o1 : Option D), plBs rows = true → ∃ o', forW ⟨callF T sub FUEL n, sub, FUEL⟩ [some x, o1, none, none, none] M (.nm 1 x0 p0) [.ifs (.bop .Or [(.not (.isi (.var 1 x0 p0) .tuple p0 p0 p0) p0), (.cmp .NotEq (.blt .len p0 [(.var 1 x0 p0)] p0) (.cst (.int 2) 0 p0) p0), (.not (.blt .all p0 [(.lc (.call wh x0 p0 [(.var 4 x0 p0), (.cst (.int 0) 0 p0), (.cst (.int 9999) 0 p0)] p0) (.nm 4 x0 p0) .one [(.var 1 x0 p0)] [] sc0 [(x0, 3), (x0, 4)] p0)] p0) p0)] p0) [.ret (.cst (.bool false) 0 p0) p0] [] p0] rows
      = (if rows.all isRowD then .ok (.nx [some x, o', none, none, none]) M else .ok (.rt (.bl false)) M)
  | [], o1, _ => ⟨o1, rfl⟩
  | d :: rows, o1, hp => by
    simp only [plBs, Bool.and_eq_true] at hp
    obtain ⟨o', ih⟩ := rule_loop hh n n1 x M rows (some d) hp.2
    refine ⟨o', ?_⟩
    rw [forW_cons, List.all_cons]
    have pd := hp.1
    by_cases ht : ∃ a b, d = .tup [a, b]
    · obtain ⟨a, b, rfl⟩ := ht
      obtain ⟨hpp, _⟩ := pl_tup pd
      have pa := plBs_mem hpp (x := a) (by simp)
      have pb := plBs_mem hpp (x := b) (by simp)
      have lc : ∀ M, lcW ⟨callF T sub FUEL n, sub, FUEL⟩ [some x, some (.tup [a, b]), none, none, none] M (.call wh x0 p0 [(.var 4 x0 p0), (.cst (.int 0) 0 p0), (.cst (.int 9999) 0 p0)] p0) (.nm 4 x0 p0) [] [3, 4] [a, b] = .ok ([a, b].map fun x => .bl (isWholeD x 0 9999)) M := fun M =>
        lcW_pl (fun x => .bl (isWholeD x 0 9999)) [a, b] hpp fun x px _ => ⟨_, rfl, by simp only [ends_rt, ends_nx, ends_exc, bind_ok, bind_exc, ret_some, retB_some, retL_some, retE_some, ev_var, ev_cst, ev_gint, ev_gstr, ev_gfn, ev_bin, ev_neg, ev_not, ev_bop, ev_cmp, ev_chain, ev_ite, ev_call, ev_isi, ev_blt, ev_mth, ev_sub, ev_slc, ev_tup, ev_lst, ev_lc, ev_live, ev_srt, ev_srk, evs_nil, evs_cons, evx_nil, evx_cons, evO_none, evO_some, evB_one, evB_and, evB_or, evT_nil, evT_one, exs_nil, exs_cons, nxt_nx, nxt_rt, nxt_exc, ex_asg, ex_own, ex_par, ex_app, ex_exn, ex_sti, ex_sto, ex_aug, ex_exp, ex_ret, ex_ifs, ex_fors, ex_whl, ex_rse, ex_tri, ex_frz, cstD, Tg.put, Tg.puts, startD, wipeD, kept_int, kept_bl, kept_str, kept_non, kept_tup, kept_lst, kept_ext, kept_ref, kept_fn, kept_exc, cmp_eq_int, cmp_ne_int, cmp_lt_int, cmp_le_int, cmp_gt_int, cmp_ge_int, List.map_cons, List.map_nil, List.length_cons, List.length_nil, Nat.reduceAdd, Nat.reduceSub, Nat.reduceLeDiff, List.replicate, List.cons_append, List.nil_append, List.append_nil, List.getElem?_cons_zero, List.getElem?_cons_succ, List.getElem?_nil, List.set_cons_zero, List.set_cons_succ, List.all_cons, List.all_nil, nown, Bool.and_true, Bool.true_and, Bool.and_false, Bool.false_and, if_true, if_false, Bool.false_eq_true, Bool.not_true, Bool.not_false, reduceIte, len6, Int.cast_ofNat_Int, beq_self_eq_true, Int.reduceBEq, Int.reduceAdd, Int.reduceNeg, decide_true, decide_false, Int.reduceLT, Int.reduceLE, Int.reduceToNat, kept_ok (pl_nown px), run_is_whole hh x 0 9999 px n n1], rfl⟩
      have eall : ∀ M, bltD .all M [.lst [.bl (isWholeD a 0 9999), .bl (isWholeD b 0 9999)]] = some (.bl (isWholeD a 0 9999 && isWholeD b 0 9999)) := fun M => by
        have := all_D M [a, b] fun x => isWholeD x 0 9999
        simpa using this
      have er : isRowD (.tup [a, b]) = (isWholeD a 0 9999 && isWholeD b 0 9999) := rfl
      cases hA : (isWholeD a 0 9999 && isWholeD b 0 9999) with
      | false => simp only [ends_rt, ends_nx, ends_exc, bind_ok, bind_exc, ret_some, retB_some, retL_some, retE_some, ev_var, ev_cst, ev_gint, ev_gstr, ev_gfn, ev_bin, ev_neg, ev_not, ev_bop, ev_cmp, ev_chain, ev_ite, ev_call, ev_isi, ev_blt, ev_mth, ev_sub, ev_slc, ev_tup, ev_lst, ev_lc, ev_live, ev_srt, ev_srk, evs_nil, evs_cons, evx_nil, evx_cons, evO_none, evO_some, evB_one, evB_and, evB_or, evT_nil, evT_one, exs_nil, exs_cons, nxt_nx, nxt_rt, nxt_exc, ex_asg, ex_own, ex_par, ex_app, ex_exn, ex_sti, ex_sto, ex_aug, ex_exp, ex_ret, ex_ifs, ex_fors, ex_whl, ex_rse, ex_tri, ex_frz, cstD, Tg.put, Tg.puts, startD, wipeD, kept_int, kept_bl, kept_str, kept_non, kept_tup, kept_lst, kept_ext, kept_ref, kept_fn, kept_exc, cmp_eq_int, cmp_ne_int, cmp_lt_int, cmp_le_int, cmp_gt_int, cmp_ge_int, List.map_cons, List.map_nil, List.length_cons, List.length_nil, Nat.reduceAdd, Nat.reduceSub, Nat.reduceLeDiff, List.replicate, List.cons_append, List.nil_append, List.append_nil, List.getElem?_cons_zero, List.getElem?_cons_succ, List.getElem?_nil, List.set_cons_zero, List.set_cons_succ, List.all_cons, List.all_nil, nown, Bool.and_true, Bool.true_and, Bool.and_false, Bool.false_and, if_true, if_false, Bool.false_eq_true, Bool.not_true, Bool.not_false, reduceIte, len6, Int.cast_ofNat_Int, beq_self_eq_true, Int.reduceBEq, Int.reduceAdd, Int.reduceNeg, decide_true, decide_false, Int.reduceLT, Int.reduceLE, Int.reduceToNat, isiD, len_tup, src_one_tup, lc, eall, hA, er]
      | true =>
        simp only [ends_rt, ends_nx, ends_exc, bind_ok, bind_exc, ret_some, retB_some, retL_some, retE_some, ev_var, ev_cst, ev_gint, ev_gstr, ev_gfn, ev_bin, ev_neg, ev_not, ev_bop, ev_cmp, ev_chain, ev_ite, ev_call, ev_isi, ev_blt, ev_mth, ev_sub, ev_slc, ev_tup, ev_lst, ev_lc, ev_live, ev_srt, ev_srk, evs_nil, evs_cons, evx_nil, evx_cons, evO_none, evO_some, evB_one, evB_and, evB_or, evT_nil, evT_one, exs_nil, exs_cons, nxt_nx, nxt_rt, nxt_exc, ex_asg, ex_own, ex_par, ex_app, ex_exn, ex_sti, ex_sto, ex_aug, ex_exp, ex_ret, ex_ifs, ex_fors, ex_whl, ex_rse, ex_tri, ex_frz, cstD, Tg.put, Tg.puts, startD, wipeD, kept_int, kept_bl, kept_str, kept_non, kept_tup, kept_lst, kept_ext, kept_ref, kept_fn, kept_exc, cmp_eq_int, cmp_ne_int, cmp_lt_int, cmp_le_int, cmp_gt_int, cmp_ge_int, List.map_cons, List.map_nil, List.length_cons, List.length_nil, Nat.reduceAdd, Nat.reduceSub, Nat.reduceLeDiff, List.replicate, List.cons_append, List.nil_append, List.append_nil, List.getElem?_cons_zero, List.getElem?_cons_succ, List.getElem?_nil, List.set_cons_zero, List.set_cons_succ, List.all_cons, List.all_nil, nown, Bool.and_true, Bool.true_and, Bool.and_false, Bool.false_and, if_true, if_false, Bool.false_eq_true, Bool.not_true, Bool.not_false, reduceIte, len6, Int.cast_ofNat_Int, beq_self_eq_true, Int.reduceBEq, Int.reduceAdd, Int.reduceNeg, decide_true, decide_false, Int.reduceLT, Int.reduceLE, Int.reduceToNat, isiD, len_tup, src_one_tup, lc, eall, hA, er]
        exact ih
    · have er : isRowD d = false := by
        unfold isRowD
        split
        · exact absurd ⟨_, _, rfl⟩ ht
        · rfl
      cases d with
      | tup xs =>
        have h2 : ((xs.length : Int) == 2) = false := lenNe _ 2 fun hl => ht (by
          match xs, hl with
          | [a, b], _ => exact ⟨a, b, rfl⟩)
        simp only [ends_rt, ends_nx, ends_exc, bind_ok, bind_exc, ret_some, retB_some, retL_some, retE_some, ev_var, ev_cst, ev_gint, ev_gstr, ev_gfn, ev_bin, ev_neg, ev_not, ev_bop, ev_cmp, ev_chain, ev_ite, ev_call, ev_isi, ev_blt, ev_mth, ev_sub, ev_slc, ev_tup, ev_lst, ev_lc, ev_live, ev_srt, ev_srk, evs_nil, evs_cons, evx_nil, evx_cons, evO_none, evO_some, evB_one, evB_and, evB_or, evT_nil, evT_one, exs_nil, exs_cons, nxt_nx, nxt_rt, nxt_exc, ex_asg, ex_own, ex_par, ex_app, ex_exn, ex_sti, ex_sto, ex_aug, ex_exp, ex_ret, ex_ifs, ex_fors, ex_whl, ex_rse, ex_tri, ex_frz, cstD, Tg.put, Tg.puts, startD, wipeD, kept_int, kept_bl, kept_str, kept_non, kept_tup, kept_lst, kept_ext, kept_ref, kept_fn, kept_exc, cmp_eq_int, cmp_ne_int, cmp_lt_int, cmp_le_int, cmp_gt_int, cmp_ge_int, List.map_cons, List.map_nil, List.length_cons, List.length_nil, Nat.reduceAdd, Nat.reduceSub, Nat.reduceLeDiff, List.replicate, List.cons_append, List.nil_append, List.append_nil, List.getElem?_cons_zero, List.getElem?_cons_succ, List.getElem?_nil, List.set_cons_zero, List.set_cons_succ, List.all_cons, List.all_nil, nown, Bool.and_true, Bool.true_and, Bool.and_false, Bool.false_and, if_true, if_false, Bool.false_eq_true, Bool.not_true, Bool.not_false, reduceIte, len6, Int.cast_ofNat_Int, beq_self_eq_true, Int.reduceBEq, Int.reduceAdd, Int.reduceNeg, decide_true, decide_false, Int.reduceLT, Int.reduceLE, Int.reduceToNat, isiD, len_tup, h2, er]
      | exc c => cases pd
      | ref c => cases pd
      | fn c => cases pd
      | ext c => cases pd
      | own c => cases pd
      | dct c => cases pd
      | _ => simp only [ends_rt, ends_nx, ends_exc, bind_ok, bind_exc, ret_some, retB_some, retL_some, retE_some, ev_var, ev_cst, ev_gint, ev_gstr, ev_gfn, ev_bin, ev_neg, ev_not, ev_bop, ev_cmp, ev_chain, ev_ite, ev_call, ev_isi, ev_blt, ev_mth, ev_sub, ev_slc, ev_tup, ev_lst, ev_lc, ev_live, ev_srt, ev_srk, evs_nil, evs_cons, evx_nil, evx_cons, evO_none, evO_some, evB_one, evB_and, evB_or, evT_nil, evT_one, exs_nil, exs_cons, nxt_nx, nxt_rt, nxt_exc, ex_asg, ex_own, ex_par, ex_app, ex_exn, ex_sti, ex_sto, ex_aug, ex_exp, ex_ret, ex_ifs, ex_fors, ex_whl, ex_rse, ex_tri, ex_frz, cstD, Tg.put, Tg.puts, startD, wipeD, kept_int, kept_bl, kept_str, kept_non, kept_tup, kept_lst, kept_ext, kept_ref, kept_fn, kept_exc, cmp_eq_int, cmp_ne_int, cmp_lt_int, cmp_le_int, cmp_gt_int, cmp_ge_int, List.map_cons, List.map_nil, List.length_cons, List.length_nil, Nat.reduceAdd, Nat.reduceSub, Nat.reduceLeDiff, List.replicate, List.cons_append, List.nil_append, List.append_nil, List.getElem?_cons_zero, List.getElem?_cons_succ, List.getElem?_nil, List.set_cons_zero, List.set_cons_succ, List.all_cons, List.all_nil, nown, Bool.and_true, Bool.true_and, Bool.and_false, Bool.false_and, if_true, if_false, Bool.false_eq_true, Bool.not_true, Bool.not_false, reduceIte, len6, Int.cast_ofNat_Int, beq_self_eq_true, Int.reduceBEq, Int.reduceAdd, Int.reduceNeg, decide_true, decide_false, Int.reduceLT, Int.reduceLE, Int.reduceToNat, isiD, er]
theorem notin_ol (M : Mem) (w : Str) : cmpD .NotIn M (.str w) (.tup [.str "own", .str "last"]) = some (!(w == "own" || w == "last")) := by
  have e : ∀ a b : Str, (a == b) = (b == a) := fun a b => by
    rw [Bool.eq_iff_iff]; simp only [beq_iff_eq]; exact ⟨fun h => h.symm, fun h => h.symm⟩
  show (some (([.str "own", .str "last"] : List D).any fun z => eqD z (.str w))).map (!·) = _
  simp only [List.any_cons, List.any_nil, eqD, Option.map_some, Bool.or_false]
  rw [e "own" w, e "last" w]
end
end L2.Z
set_option Elab.async false
set_option linter.all false
set_option maxRecDepth 100000
set_option maxHeartbeats 1000000
set_option exponentiation.threshold 9000
/-! ### what is a house: the whole -/
namespace L2.Z
open PySem
theorem eq_tup_nil (M : Mem) (rows : List D) (h1 : pyOks rows = true) (h2 : deps rows ≤ 60) : cmpD .Eq M (.tup rows) (.tup []) = some rows.isEmpty := by
  have e1 : shD (.tup rows) = true := by
    have h3 : deps rows + 1 ≤ 64 := by omega
    simp only [shD, pyOk, dep, h1, h3, decide_true, Bool.and_self]
  have e2 : eqD (.tup rows) (.tup []) = rows.isEmpty := by cases rows <;> rfl
  simp only [cmpD, nrm, lview, e1, show shD (.tup []) = true from rfl, Bool.and_self, if_true, e2]
theorem dep_mem {xs : List D} {x : D} (h : x ∈ xs) : dep x ≤ deps xs := deps_le h
section
variable {T : Nat → Option Fn} {sub : Nat → Nat → Bool} {wh : Nat}
theorem rows_len : ∀ {rows : List D}, rows.all isRowD = true → (rowsOf rows).length = rows.length := fun h => by
  have := congrArg List.length (rows_emb h)
  simpa using this.symm
theorem run_is_rule {f fr : Nat} (hh : Has T wh 3 3 L_is_whole) (hr : Has T fr 1 4 L_do_rise) (h : Has T f 1 5 (L_is_rule wh fr)) (d : D) (hd : plB d = true) (hdep : dep d ≤ 60) : Cal T sub FUEL 2 f [d] (.bl (isRuleD d)) := by
  refine cal_of (k := 1) h rfl fun n n1 M => ?_
  unfold L_is_rule
  cases d with
  | tup xs =>
    obtain ⟨hp, hz⟩ := pl_tup hd
    by_cases hl : xs.length = 2
    · obtain ⟨a, b, rfl⟩ : ∃ a b, xs = [a, b] := by
        match xs, hl with
        | [a, b], _ => exact ⟨a, b, rfl⟩
      have pa := plBs_mem hp (x := a) (by simp)
      have pb := plBs_mem hp (x := b) (by simp)
      by_cases ha : ∃ w, a = .str w
      · obtain ⟨w, rfl⟩ := ha
        cases hw : (w == "own" || w == "last") with
        | false =>
          have e3 : isRuleD (.tup [.str w, b]) = false := by
            cases b <;> first | rfl | (simp only [isRuleD, hw, Bool.false_and])
          simp only [ends_rt, ends_nx, ends_exc, bind_ok, bind_exc, ret_some, retB_some, retL_some, retE_some, ev_var, ev_cst, ev_gint, ev_gstr, ev_gfn, ev_bin, ev_neg, ev_not, ev_bop, ev_cmp, ev_chain, ev_ite, ev_call, ev_isi, ev_blt, ev_mth, ev_sub, ev_slc, ev_tup, ev_lst, ev_lc, ev_live, ev_srt, ev_srk, evs_nil, evs_cons, evx_nil, evx_cons, evO_none, evO_some, evB_one, evB_and, evB_or, evT_nil, evT_one, exs_nil, exs_cons, nxt_nx, nxt_rt, nxt_exc, ex_asg, ex_own, ex_par, ex_app, ex_exn, ex_sti, ex_sto, ex_aug, ex_exp, ex_ret, ex_ifs, ex_fors, ex_whl, ex_rse, ex_tri, ex_frz, cstD, Tg.put, Tg.puts, startD, wipeD, kept_int, kept_bl, kept_str, kept_non, kept_tup, kept_lst, kept_ext, kept_ref, kept_fn, kept_exc, cmp_eq_int, cmp_ne_int, cmp_lt_int, cmp_le_int, cmp_gt_int, cmp_ge_int, List.map_cons, List.map_nil, List.length_cons, List.length_nil, Nat.reduceAdd, Nat.reduceSub, Nat.reduceLeDiff, List.replicate, List.cons_append, List.nil_append, List.append_nil, List.getElem?_cons_zero, List.getElem?_cons_succ, List.getElem?_nil, List.set_cons_zero, List.set_cons_succ, List.all_cons, List.all_nil, nown, Bool.and_true, Bool.true_and, Bool.and_false, Bool.false_and, if_true, if_false, Bool.false_eq_true, Bool.not_true, Bool.not_false, reduceIte, len6, Int.cast_ofNat_Int, beq_self_eq_true, Int.reduceBEq, Int.reduceAdd, Int.reduceNeg, decide_true, decide_false, Int.reduceLT, Int.reduceLE, Int.reduceToNat, isiD, len_tup, sub_t0, notin_ol, hw, e3]
        | true =>
          by_cases hb : ∃ rows, b = .tup rows
          · obtain ⟨rows, rfl⟩ := hb
            obtain ⟨hpr, hzr⟩ := pl_tup pb
            have hdr : deps rows ≤ 60 := by
              have h1 : dep (.tup rows) ≤ deps [.str w, .tup rows] := dep_mem (by simp)
              simp only [dep] at h1 hdep
              omega
            cases rows with
            | nil => simp only [ends_rt, ends_nx, ends_exc, bind_ok, bind_exc, ret_some, retB_some, retL_some, retE_some, ev_var, ev_cst, ev_gint, ev_gstr, ev_gfn, ev_bin, ev_neg, ev_not, ev_bop, ev_cmp, ev_chain, ev_ite, ev_call, ev_isi, ev_blt, ev_mth, ev_sub, ev_slc, ev_tup, ev_lst, ev_lc, ev_live, ev_srt, ev_srk, evs_nil, evs_cons, evx_nil, evx_cons, evO_none, evO_some, evB_one, evB_and, evB_or, evT_nil, evT_one, exs_nil, exs_cons, nxt_nx, nxt_rt, nxt_exc, ex_asg, ex_own, ex_par, ex_app, ex_exn, ex_sti, ex_sto, ex_aug, ex_exp, ex_ret, ex_ifs, ex_fors, ex_whl, ex_rse, ex_tri, ex_frz, cstD, Tg.put, Tg.puts, startD, wipeD, kept_int, kept_bl, kept_str, kept_non, kept_tup, kept_lst, kept_ext, kept_ref, kept_fn, kept_exc, cmp_eq_int, cmp_ne_int, cmp_lt_int, cmp_le_int, cmp_gt_int, cmp_ge_int, List.map_cons, List.map_nil, List.length_cons, List.length_nil, Nat.reduceAdd, Nat.reduceSub, Nat.reduceLeDiff, List.replicate, List.cons_append, List.nil_append, List.append_nil, List.getElem?_cons_zero, List.getElem?_cons_succ, List.getElem?_nil, List.set_cons_zero, List.set_cons_succ, List.all_cons, List.all_nil, nown, Bool.and_true, Bool.true_and, Bool.and_false, Bool.false_and, if_true, if_false, Bool.false_eq_true, Bool.not_true, Bool.not_false, reduceIte, len6, Int.cast_ofNat_Int, beq_self_eq_true, Int.reduceBEq, Int.reduceAdd, Int.reduceNeg, decide_true, decide_false, Int.reduceLT, Int.reduceLE, Int.reduceToNat, isiD, len_tup, sub_t0, sub_t1, notin_ol, hw, eq_tup_nil _ _ (pls_py _ hpr) hdr, List.isEmpty_nil, isRuleD, show isTableD [] = false from rfl]
            | cons d0 rows0 =>
              obtain ⟨o', loop⟩ := rule_loop (sub := sub) hh n n1 (.tup [.str w, .tup (d0 :: rows0)]) M (d0 :: rows0) none hpr
              cases hall : (d0 :: rows0).all isRowD with
              | false =>
                rw [hall] at loop
                have e3 : isTableD (d0 :: rows0) = false := by unfold isTableD; rw [hall, Bool.false_and]
                simp only [ends_rt, ends_nx, ends_exc, bind_ok, bind_exc, ret_some, retB_some, retL_some, retE_some, ev_var, ev_cst, ev_gint, ev_gstr, ev_gfn, ev_bin, ev_neg, ev_not, ev_bop, ev_cmp, ev_chain, ev_ite, ev_call, ev_isi, ev_blt, ev_mth, ev_sub, ev_slc, ev_tup, ev_lst, ev_lc, ev_live, ev_srt, ev_srk, evs_nil, evs_cons, evx_nil, evx_cons, evO_none, evO_some, evB_one, evB_and, evB_or, evT_nil, evT_one, exs_nil, exs_cons, nxt_nx, nxt_rt, nxt_exc, ex_asg, ex_own, ex_par, ex_app, ex_exn, ex_sti, ex_sto, ex_aug, ex_exp, ex_ret, ex_ifs, ex_fors, ex_whl, ex_rse, ex_tri, ex_frz, cstD, Tg.put, Tg.puts, startD, wipeD, kept_int, kept_bl, kept_str, kept_non, kept_tup, kept_lst, kept_ext, kept_ref, kept_fn, kept_exc, cmp_eq_int, cmp_ne_int, cmp_lt_int, cmp_le_int, cmp_gt_int, cmp_ge_int, List.map_cons, List.map_nil, List.length_cons, List.length_nil, Nat.reduceAdd, Nat.reduceSub, Nat.reduceLeDiff, List.replicate, List.cons_append, List.nil_append, List.append_nil, List.getElem?_cons_zero, List.getElem?_cons_succ, List.getElem?_nil, List.set_cons_zero, List.set_cons_succ, List.all_cons, List.all_nil, nown, Bool.and_true, Bool.true_and, Bool.and_false, Bool.false_and, if_true, if_false, Bool.false_eq_true, Bool.not_true, Bool.not_false, reduceIte, len6, Int.cast_ofNat_Int, beq_self_eq_true, Int.reduceBEq, Int.reduceAdd, Int.reduceNeg, decide_true, decide_false, Int.reduceLT, Int.reduceLE, Int.reduceToNat, isiD, len_tup, sub_t0, sub_t1, notin_ol, hw, eq_tup_nil _ _ (pls_py _ hpr) hdr, List.isEmpty_cons, isRuleD, e3, src_one_tup, loop]
              | true =>
                rw [hall] at loop
                have emb := rows_emb hall
                have hlen : (rowsOf (d0 :: rows0)).length ≤ 1000 := by rw [rows_len hall]; exact hzr
                obtain ⟨ps, hps⟩ : ∃ ps, ps = rowsOf (d0 :: rows0) := ⟨_, rfl⟩
                have lc0 : ∀ M, lcW ⟨callF T sub FUEL n, sub, FUEL⟩ [some (.tup [.str w, .tup (d0 :: rows0)]), o', none, none, none] M (.sub (.var 1 x0 p0) (.cst (.int 0) 0 p0) p0) (.nm 1 x0 p0) [] [3, 1] (ps.map rowD) = .ok (ps.map fun p => .int p.1) M := fun M =>
                  lcW_mapE rowD (fun p => .int p.1) ps fun p _ => ⟨_, rfl, by rw [evT_nil], by simp only [ends_rt, ends_nx, ends_exc, bind_ok, bind_exc, ret_some, retB_some, retL_some, retE_some, ev_var, ev_cst, ev_gint, ev_gstr, ev_gfn, ev_bin, ev_neg, ev_not, ev_bop, ev_cmp, ev_chain, ev_ite, ev_call, ev_isi, ev_blt, ev_mth, ev_sub, ev_slc, ev_tup, ev_lst, ev_lc, ev_live, ev_srt, ev_srk, evs_nil, evs_cons, evx_nil, evx_cons, evO_none, evO_some, evB_one, evB_and, evB_or, evT_nil, evT_one, exs_nil, exs_cons, nxt_nx, nxt_rt, nxt_exc, ex_asg, ex_own, ex_par, ex_app, ex_exn, ex_sti, ex_sto, ex_aug, ex_exp, ex_ret, ex_ifs, ex_fors, ex_whl, ex_rse, ex_tri, ex_frz, cstD, Tg.put, Tg.puts, startD, wipeD, kept_int, kept_bl, kept_str, kept_non, kept_tup, kept_lst, kept_ext, kept_ref, kept_fn, kept_exc, cmp_eq_int, cmp_ne_int, cmp_lt_int, cmp_le_int, cmp_gt_int, cmp_ge_int, List.map_cons, List.map_nil, List.length_cons, List.length_nil, Nat.reduceAdd, Nat.reduceSub, Nat.reduceLeDiff, List.replicate, List.cons_append, List.nil_append, List.append_nil, List.getElem?_cons_zero, List.getElem?_cons_succ, List.getElem?_nil, List.set_cons_zero, List.set_cons_succ, List.all_cons, List.all_nil, nown, Bool.and_true, Bool.true_and, Bool.and_false, Bool.false_and, if_true, if_false, Bool.false_eq_true, Bool.not_true, Bool.not_false, reduceIte, len6, Int.cast_ofNat_Int, beq_self_eq_true, Int.reduceBEq, Int.reduceAdd, Int.reduceNeg, decide_true, decide_false, Int.reduceLT, Int.reduceLE, Int.reduceToNat, rowD, sub_t0], rfl⟩
                have lc1 : ∀ M, lcW ⟨callF T sub FUEL n, sub, FUEL⟩ [some (.tup [.str w, .tup (d0 :: rows0)]), o', none, none, none] M (.sub (.var 1 x0 p0) (.cst (.int 1) 0 p0) p0) (.nm 1 x0 p0) [] [3, 1] (ps.map rowD) = .ok (ps.map fun p => .int p.2) M := fun M =>
                  lcW_mapE rowD (fun p => .int p.2) ps fun p _ => ⟨_, rfl, by rw [evT_nil], by simp only [ends_rt, ends_nx, ends_exc, bind_ok, bind_exc, ret_some, retB_some, retL_some, retE_some, ev_var, ev_cst, ev_gint, ev_gstr, ev_gfn, ev_bin, ev_neg, ev_not, ev_bop, ev_cmp, ev_chain, ev_ite, ev_call, ev_isi, ev_blt, ev_mth, ev_sub, ev_slc, ev_tup, ev_lst, ev_lc, ev_live, ev_srt, ev_srk, evs_nil, evs_cons, evx_nil, evx_cons, evO_none, evO_some, evB_one, evB_and, evB_or, evT_nil, evT_one, exs_nil, exs_cons, nxt_nx, nxt_rt, nxt_exc, ex_asg, ex_own, ex_par, ex_app, ex_exn, ex_sti, ex_sto, ex_aug, ex_exp, ex_ret, ex_ifs, ex_fors, ex_whl, ex_rse, ex_tri, ex_frz, cstD, Tg.put, Tg.puts, startD, wipeD, kept_int, kept_bl, kept_str, kept_non, kept_tup, kept_lst, kept_ext, kept_ref, kept_fn, kept_exc, cmp_eq_int, cmp_ne_int, cmp_lt_int, cmp_le_int, cmp_gt_int, cmp_ge_int, List.map_cons, List.map_nil, List.length_cons, List.length_nil, Nat.reduceAdd, Nat.reduceSub, Nat.reduceLeDiff, List.replicate, List.cons_append, List.nil_append, List.append_nil, List.getElem?_cons_zero, List.getElem?_cons_succ, List.getElem?_nil, List.set_cons_zero, List.set_cons_succ, List.all_cons, List.all_nil, nown, Bool.and_true, Bool.true_and, Bool.and_false, Bool.false_and, if_true, if_false, Bool.false_eq_true, Bool.not_true, Bool.not_false, reduceIte, len6, Int.cast_ofNat_Int, beq_self_eq_true, Int.reduceBEq, Int.reduceAdd, Int.reduceNeg, decide_true, decide_false, Int.reduceLT, Int.reduceLE, Int.reduceToNat, rowD, sub_t1], rfl⟩
                rw [← hps] at emb hlen
                rw [← emb] at lc0 lc1
                have m0 : (ps.map fun p => D.int p.1) = (ps.map (·.1)).map .int := by rw [List.map_map]; rfl
                have m1 : (ps.map fun p => D.int p.2) = (ps.map (·.2)).map .int := by rw [List.map_map]; rfl
                have b0 : ((ps.map (·.1)).map D.int).length ≤ sizeLine := big_le (by simpa using hlen)
                have b1 : ((ps.map (·.2)).map D.int).length ≤ sizeLine := big_le (by simpa using hlen)
                have r0 := run_do_riseI (sub := sub) (fuel := FUEL) hr (ps.map (·.1)) (by simpa using hlen) n n1
                have r1 := run_do_riseI (sub := sub) (fuel := FUEL) hr (ps.map (·.2)) (by simpa using hlen) n n1
                obtain ⟨p, ps', hpp⟩ : ∃ p ps', ps = p :: ps' := by
                  cases ps with
                  | nil => cases emb
                  | cons p ps' => exact ⟨p, ps', rfl⟩
                have ed0 : d0 = rowD p := by
                  rw [hpp, List.map_cons] at emb
                  injection emb
                have et : isTableD (d0 :: rows0) = (riseI (ps.map (·.1)) && (riseI (ps.map (·.2)) && (p.1 == 0))) := by
                  unfold isTableD
                  rw [hall, Bool.true_and, ← hps, hpp]
                rw [m0] at lc0
                rw [m1] at lc1
                have e0 : isRuleD (.tup [.str w, .tup (d0 :: rows0)]) = isTableD (d0 :: rows0) := by simp only [isRuleD, hw, Bool.true_and]
                rw [e0, et]
                have s0 : ∀ M, subD M d0 (.int 0) = some (.int p.1) := fun M => by rw [ed0]; exact sub_t0 M _ _
                cases hr0 : riseI (ps.map (·.1)) with
                | false => simp only [ends_rt, ends_nx, ends_exc, bind_ok, bind_exc, ret_some, retB_some, retL_some, retE_some, ev_var, ev_cst, ev_gint, ev_gstr, ev_gfn, ev_bin, ev_neg, ev_not, ev_bop, ev_cmp, ev_chain, ev_ite, ev_call, ev_isi, ev_blt, ev_mth, ev_sub, ev_slc, ev_tup, ev_lst, ev_lc, ev_live, ev_srt, ev_srk, evs_nil, evs_cons, evx_nil, evx_cons, evO_none, evO_some, evB_one, evB_and, evB_or, evT_nil, evT_one, exs_nil, exs_cons, nxt_nx, nxt_rt, nxt_exc, ex_asg, ex_own, ex_par, ex_app, ex_exn, ex_sti, ex_sto, ex_aug, ex_exp, ex_ret, ex_ifs, ex_fors, ex_whl, ex_rse, ex_tri, ex_frz, cstD, Tg.put, Tg.puts, startD, wipeD, kept_int, kept_bl, kept_str, kept_non, kept_tup, kept_lst, kept_ext, kept_ref, kept_fn, kept_exc, cmp_eq_int, cmp_ne_int, cmp_lt_int, cmp_le_int, cmp_gt_int, cmp_ge_int, List.map_cons, List.map_nil, List.length_cons, List.length_nil, Nat.reduceAdd, Nat.reduceSub, Nat.reduceLeDiff, List.replicate, List.cons_append, List.nil_append, List.append_nil, List.getElem?_cons_zero, List.getElem?_cons_succ, List.getElem?_nil, List.set_cons_zero, List.set_cons_succ, List.all_cons, List.all_nil, nown, Bool.and_true, Bool.true_and, Bool.and_false, Bool.false_and, if_true, if_false, Bool.false_eq_true, Bool.not_true, Bool.not_false, reduceIte, len6, Int.cast_ofNat_Int, beq_self_eq_true, Int.reduceBEq, Int.reduceAdd, Int.reduceNeg, decide_true, decide_false, Int.reduceLT, Int.reduceLE, Int.reduceToNat, isiD, len_tup, sub_t0, sub_t1, notin_ol, hw, eq_tup_nil _ _ (pls_py _ hpr) hdr, List.isEmpty_cons, src_one_tup, loop, lc0, b0, r0, hr0]
                | true =>
                  cases hr1 : riseI (ps.map (·.2)) with
                  | false => simp only [ends_rt, ends_nx, ends_exc, bind_ok, bind_exc, ret_some, retB_some, retL_some, retE_some, ev_var, ev_cst, ev_gint, ev_gstr, ev_gfn, ev_bin, ev_neg, ev_not, ev_bop, ev_cmp, ev_chain, ev_ite, ev_call, ev_isi, ev_blt, ev_mth, ev_sub, ev_slc, ev_tup, ev_lst, ev_lc, ev_live, ev_srt, ev_srk, evs_nil, evs_cons, evx_nil, evx_cons, evO_none, evO_some, evB_one, evB_and, evB_or, evT_nil, evT_one, exs_nil, exs_cons, nxt_nx, nxt_rt, nxt_exc, ex_asg, ex_own, ex_par, ex_app, ex_exn, ex_sti, ex_sto, ex_aug, ex_exp, ex_ret, ex_ifs, ex_fors, ex_whl, ex_rse, ex_tri, ex_frz, cstD, Tg.put, Tg.puts, startD, wipeD, kept_int, kept_bl, kept_str, kept_non, kept_tup, kept_lst, kept_ext, kept_ref, kept_fn, kept_exc, cmp_eq_int, cmp_ne_int, cmp_lt_int, cmp_le_int, cmp_gt_int, cmp_ge_int, List.map_cons, List.map_nil, List.length_cons, List.length_nil, Nat.reduceAdd, Nat.reduceSub, Nat.reduceLeDiff, List.replicate, List.cons_append, List.nil_append, List.append_nil, List.getElem?_cons_zero, List.getElem?_cons_succ, List.getElem?_nil, List.set_cons_zero, List.set_cons_succ, List.all_cons, List.all_nil, nown, Bool.and_true, Bool.true_and, Bool.and_false, Bool.false_and, if_true, if_false, Bool.false_eq_true, Bool.not_true, Bool.not_false, reduceIte, len6, Int.cast_ofNat_Int, beq_self_eq_true, Int.reduceBEq, Int.reduceAdd, Int.reduceNeg, decide_true, decide_false, Int.reduceLT, Int.reduceLE, Int.reduceToNat, isiD, len_tup, sub_t0, sub_t1, notin_ol, hw, eq_tup_nil _ _ (pls_py _ hpr) hdr, List.isEmpty_cons, src_one_tup, loop, lc0, lc1, b0, b1, r0, r1, hr0, hr1]
                  | true => simp only [ends_rt, ends_nx, ends_exc, bind_ok, bind_exc, ret_some, retB_some, retL_some, retE_some, ev_var, ev_cst, ev_gint, ev_gstr, ev_gfn, ev_bin, ev_neg, ev_not, ev_bop, ev_cmp, ev_chain, ev_ite, ev_call, ev_isi, ev_blt, ev_mth, ev_sub, ev_slc, ev_tup, ev_lst, ev_lc, ev_live, ev_srt, ev_srk, evs_nil, evs_cons, evx_nil, evx_cons, evO_none, evO_some, evB_one, evB_and, evB_or, evT_nil, evT_one, exs_nil, exs_cons, nxt_nx, nxt_rt, nxt_exc, ex_asg, ex_own, ex_par, ex_app, ex_exn, ex_sti, ex_sto, ex_aug, ex_exp, ex_ret, ex_ifs, ex_fors, ex_whl, ex_rse, ex_tri, ex_frz, cstD, Tg.put, Tg.puts, startD, wipeD, kept_int, kept_bl, kept_str, kept_non, kept_tup, kept_lst, kept_ext, kept_ref, kept_fn, kept_exc, cmp_eq_int, cmp_ne_int, cmp_lt_int, cmp_le_int, cmp_gt_int, cmp_ge_int, List.map_cons, List.map_nil, List.length_cons, List.length_nil, Nat.reduceAdd, Nat.reduceSub, Nat.reduceLeDiff, List.replicate, List.cons_append, List.nil_append, List.append_nil, List.getElem?_cons_zero, List.getElem?_cons_succ, List.getElem?_nil, List.set_cons_zero, List.set_cons_succ, List.all_cons, List.all_nil, nown, Bool.and_true, Bool.true_and, Bool.and_false, Bool.false_and, if_true, if_false, Bool.false_eq_true, Bool.not_true, Bool.not_false, reduceIte, len6, Int.cast_ofNat_Int, beq_self_eq_true, Int.reduceBEq, Int.reduceAdd, Int.reduceNeg, decide_true, decide_false, Int.reduceLT, Int.reduceLE, Int.reduceToNat, isiD, len_tup, sub_t0, sub_t1, notin_ol, hw, eq_tup_nil _ _ (pls_py _ hpr) hdr, List.isEmpty_cons, src_one_tup, loop, lc0, lc1, b0, b1, r0, r1, hr0, hr1, s0]
          · have e3 : isRuleD (.tup [.str w, b]) = false := by cases b <;> first | rfl | exact absurd ⟨_, rfl⟩ hb
            have e4 : ∀ M, isiD sub M .tuple b = some false := fun M => by cases b <;> first | rfl | (cases pb; done) | exact absurd ⟨_, rfl⟩ hb
            simp only [ends_rt, ends_nx, ends_exc, bind_ok, bind_exc, ret_some, retB_some, retL_some, retE_some, ev_var, ev_cst, ev_gint, ev_gstr, ev_gfn, ev_bin, ev_neg, ev_not, ev_bop, ev_cmp, ev_chain, ev_ite, ev_call, ev_isi, ev_blt, ev_mth, ev_sub, ev_slc, ev_tup, ev_lst, ev_lc, ev_live, ev_srt, ev_srk, evs_nil, evs_cons, evx_nil, evx_cons, evO_none, evO_some, evB_one, evB_and, evB_or, evT_nil, evT_one, exs_nil, exs_cons, nxt_nx, nxt_rt, nxt_exc, ex_asg, ex_own, ex_par, ex_app, ex_exn, ex_sti, ex_sto, ex_aug, ex_exp, ex_ret, ex_ifs, ex_fors, ex_whl, ex_rse, ex_tri, ex_frz, cstD, Tg.put, Tg.puts, startD, wipeD, kept_int, kept_bl, kept_str, kept_non, kept_tup, kept_lst, kept_ext, kept_ref, kept_fn, kept_exc, cmp_eq_int, cmp_ne_int, cmp_lt_int, cmp_le_int, cmp_gt_int, cmp_ge_int, List.map_cons, List.map_nil, List.length_cons, List.length_nil, Nat.reduceAdd, Nat.reduceSub, Nat.reduceLeDiff, List.replicate, List.cons_append, List.nil_append, List.append_nil, List.getElem?_cons_zero, List.getElem?_cons_succ, List.getElem?_nil, List.set_cons_zero, List.set_cons_succ, List.all_cons, List.all_nil, nown, Bool.and_true, Bool.true_and, Bool.and_false, Bool.false_and, if_true, if_false, Bool.false_eq_true, Bool.not_true, Bool.not_false, reduceIte, len6, Int.cast_ofNat_Int, beq_self_eq_true, Int.reduceBEq, Int.reduceAdd, Int.reduceNeg, decide_true, decide_false, Int.reduceLT, Int.reduceLE, Int.reduceToNat, len_tup, sub_t0, sub_t1, notin_ol, hw, e4, e3, show ∀ M, isiD sub M .tuple (.tup [.str w, b]) = some true from fun _ => rfl, show ∀ M, isiD sub M .str (.str w) = some true from fun _ => rfl]
      · have e3 : isRuleD (.tup [a, b]) = false := by cases a <;> first | rfl | exact absurd ⟨_, rfl⟩ ha
        have e4 : ∀ M, isiD sub M .str a = some false := fun M => by cases a <;> first | rfl | (cases pa; done) | exact absurd ⟨_, rfl⟩ ha
        simp only [ends_rt, ends_nx, ends_exc, bind_ok, bind_exc, ret_some, retB_some, retL_some, retE_some, ev_var, ev_cst, ev_gint, ev_gstr, ev_gfn, ev_bin, ev_neg, ev_not, ev_bop, ev_cmp, ev_chain, ev_ite, ev_call, ev_isi, ev_blt, ev_mth, ev_sub, ev_slc, ev_tup, ev_lst, ev_lc, ev_live, ev_srt, ev_srk, evs_nil, evs_cons, evx_nil, evx_cons, evO_none, evO_some, evB_one, evB_and, evB_or, evT_nil, evT_one, exs_nil, exs_cons, nxt_nx, nxt_rt, nxt_exc, ex_asg, ex_own, ex_par, ex_app, ex_exn, ex_sti, ex_sto, ex_aug, ex_exp, ex_ret, ex_ifs, ex_fors, ex_whl, ex_rse, ex_tri, ex_frz, cstD, Tg.put, Tg.puts, startD, wipeD, kept_int, kept_bl, kept_str, kept_non, kept_tup, kept_lst, kept_ext, kept_ref, kept_fn, kept_exc, cmp_eq_int, cmp_ne_int, cmp_lt_int, cmp_le_int, cmp_gt_int, cmp_ge_int, List.map_cons, List.map_nil, List.length_cons, List.length_nil, Nat.reduceAdd, Nat.reduceSub, Nat.reduceLeDiff, List.replicate, List.cons_append, List.nil_append, List.append_nil, List.getElem?_cons_zero, List.getElem?_cons_succ, List.getElem?_nil, List.set_cons_zero, List.set_cons_succ, List.all_cons, List.all_nil, nown, Bool.and_true, Bool.true_and, Bool.and_false, Bool.false_and, if_true, if_false, Bool.false_eq_true, Bool.not_true, Bool.not_false, reduceIte, len6, Int.cast_ofNat_Int, beq_self_eq_true, Int.reduceBEq, Int.reduceAdd, Int.reduceNeg, decide_true, decide_false, Int.reduceLT, Int.reduceLE, Int.reduceToNat, len_tup, sub_t0, e4, e3, show ∀ M, isiD sub M .tuple (.tup [a, b]) = some true from fun _ => rfl]
    · have h2 : ((xs.length : Int) == 2) = false := lenNe _ 2 hl
      have h3 : isRuleD (.tup xs) = false := by
        unfold isRuleD
        split
        · rename_i hh; cases hh; simp at hl
        · rfl
      simp only [ends_rt, ends_nx, ends_exc, bind_ok, bind_exc, ret_some, retB_some, retL_some, retE_some, ev_var, ev_cst, ev_gint, ev_gstr, ev_gfn, ev_bin, ev_neg, ev_not, ev_bop, ev_cmp, ev_chain, ev_ite, ev_call, ev_isi, ev_blt, ev_mth, ev_sub, ev_slc, ev_tup, ev_lst, ev_lc, ev_live, ev_srt, ev_srk, evs_nil, evs_cons, evx_nil, evx_cons, evO_none, evO_some, evB_one, evB_and, evB_or, evT_nil, evT_one, exs_nil, exs_cons, nxt_nx, nxt_rt, nxt_exc, ex_asg, ex_own, ex_par, ex_app, ex_exn, ex_sti, ex_sto, ex_aug, ex_exp, ex_ret, ex_ifs, ex_fors, ex_whl, ex_rse, ex_tri, ex_frz, cstD, Tg.put, Tg.puts, startD, wipeD, kept_int, kept_bl, kept_str, kept_non, kept_tup, kept_lst, kept_ext, kept_ref, kept_fn, kept_exc, cmp_eq_int, cmp_ne_int, cmp_lt_int, cmp_le_int, cmp_gt_int, cmp_ge_int, List.map_cons, List.map_nil, List.length_cons, List.length_nil, Nat.reduceAdd, Nat.reduceSub, Nat.reduceLeDiff, List.replicate, List.cons_append, List.nil_append, List.append_nil, List.getElem?_cons_zero, List.getElem?_cons_succ, List.getElem?_nil, List.set_cons_zero, List.set_cons_succ, List.all_cons, List.all_nil, nown, Bool.and_true, Bool.true_and, Bool.and_false, Bool.false_and, if_true, if_false, Bool.false_eq_true, Bool.not_true, Bool.not_false, reduceIte, len6, Int.cast_ofNat_Int, beq_self_eq_true, Int.reduceBEq, Int.reduceAdd, Int.reduceNeg, decide_true, decide_false, Int.reduceLT, Int.reduceLE, Int.reduceToNat, isiD, len_tup, h2, h3]
  | exc c => cases hd
  | ref c => cases hd
  | fn c => cases hd
  | ext c => cases hd
  | own c => cases hd
  | dct c => cases hd
  | _ => simp only [ends_rt, ends_nx, ends_exc, bind_ok, bind_exc, ret_some, retB_some, retL_some, retE_some, ev_var, ev_cst, ev_gint, ev_gstr, ev_gfn, ev_bin, ev_neg, ev_not, ev_bop, ev_cmp, ev_chain, ev_ite, ev_call, ev_isi, ev_blt, ev_mth, ev_sub, ev_slc, ev_tup, ev_lst, ev_lc, ev_live, ev_srt, ev_srk, evs_nil, evs_cons, evx_nil, evx_cons, evO_none, evO_some, evB_one, evB_and, evB_or, evT_nil, evT_one, exs_nil, exs_cons, nxt_nx, nxt_rt, nxt_exc, ex_asg, ex_own, ex_par, ex_app, ex_exn, ex_sti, ex_sto, ex_aug, ex_exp, ex_ret, ex_ifs, ex_fors, ex_whl, ex_rse, ex_tri, ex_frz, cstD, Tg.put, Tg.puts, startD, wipeD, kept_int, kept_bl, kept_str, kept_non, kept_tup, kept_lst, kept_ext, kept_ref, kept_fn, kept_exc, cmp_eq_int, cmp_ne_int, cmp_lt_int, cmp_le_int, cmp_gt_int, cmp_ge_int, List.map_cons, List.map_nil, List.length_cons, List.length_nil, Nat.reduceAdd, Nat.reduceSub, Nat.reduceLeDiff, List.replicate, List.cons_append, List.nil_append, List.append_nil, List.getElem?_cons_zero, List.getElem?_cons_succ, List.getElem?_nil, List.set_cons_zero, List.set_cons_succ, List.all_cons, List.all_nil, nown, Bool.and_true, Bool.true_and, Bool.and_false, Bool.false_and, if_true, if_false, Bool.false_eq_true, Bool.not_true, Bool.not_false, reduceIte, len6, Int.cast_ofNat_Int, beq_self_eq_true, Int.reduceBEq, Int.reduceAdd, Int.reduceNeg, decide_true, decide_false, Int.reduceLT, Int.reduceLE, Int.reduceToNat, isiD]; rfl
end
end L2.Z
set_option Elab.async false
set_option linter.all false
set_option maxRecDepth 100000
set_option maxHeartbeats 1000000
set_option exponentiation.threshold 9000
/-! ### what is a house -/
namespace L2.Z
open PySem
def nameD : D → Str
  | .tup (.str z :: _) => z
  | _ => x0
def namesD (l : List D) : List Str := l.map nameD
def isHouseD : D → Bool
  | .tup [.tup gs, .tup bs, r] => (decide (1 ≤ gs.length) && decide (gs.length ≤ 6) && gs.all isGoingD) && ((riseS (namesD gs) && decide (bs.length ≤ 12) && bs.all (isBookingD (namesD gs))) && (riseS (namesD bs) && isRuleD r))
  | _ => false
theorem going_name {d : D} (h : isGoingD d = true) : ∃ z xs, d = .tup (.str z :: xs) ∧ isWord z = true := by
  unfold isGoingD at h
  split at h
  · rename_i a b c d e g
    simp only [Bool.and_eq_true] at h
    obtain ⟨z, rfl, hz⟩ := isWordD_str h.1.1.1.1
    exact ⟨z, _, rfl, hz⟩
  · cases h
theorem booking_name {names : List Str} {d : D} (h : isBookingD names d = true) : ∃ z xs, d = .tup (.str z :: xs) ∧ isWord z = true := by
  unfold isBookingD at h
  split at h
  · rename_i a b c d e g
    simp only [Bool.and_eq_true] at h
    obtain ⟨z, rfl, hz⟩ := isWordD_str h.1
    exact ⟨z, _, rfl, hz⟩
  · cases h
def L_is_house (going rise booking rule : Nat) : List S := [
  .ifs (.bop .Or [(.not (.isi (.var 0 x0 p0) .tuple p0 p0 p0) p0), (.cmp .NotEq (.blt .len p0 [(.var 0 x0 p0)] p0) (.cst (.int 3) 0 p0) p0), (.not (.blt .all p0 [(.lc (.isi (.var 6 x0 p0) .tuple p0 p0 p0) (.nm 6 x0 p0) .one [(.slc (.var 0 x0 p0) none (some (.cst (.int 2) 0 p0)) p0 p0)] [] sc0 [(x0, 5), (x0, 6)] p0)] p0) p0)] p0) [.ret (.cst (.bool false) 0 p0) p0] [] p0,
  .asg (.tp [(.nm 1 x0 p0), (.nm 2 x0 p0), (.nm 3 x0 p0)] 0 p0) (.var 0 x0 p0) p0,
  .ifs (.bop .Or [(.not (.chain .LtE .LtE (.cst (.int 1) 0 p0) (.blt .len p0 [(.var 1 x0 p0)] p0) (.cst (.int 6) 0 p0) p0) p0), (.not (.blt .all p0 [(.lc (.call going x0 p0 [(.var 6 x0 p0)] p0) (.nm 6 x0 p0) .one [(.var 1 x0 p0)] [] sc0 [(x0, 5), (x0, 6)] p0)] p0) p0)] p0) [.ret (.cst (.bool false) 0 p0) p0] [] p0,
  .asg (.nm 4 x0 p0) (.lc (.sub (.var 6 x0 p0) (.cst (.int 0) 0 p0) p0) (.nm 6 x0 p0) .one [(.var 1 x0 p0)] [] sc0 [(x0, 5), (x0, 6)] p0) p0,
  .ifs (.bop .Or [(.not (.call rise x0 p0 [(.var 4 x0 p0)] p0) p0), (.cmp .Gt (.blt .len p0 [(.var 2 x0 p0)] p0) (.cst (.int 12) 0 p0) p0), (.not (.blt .all p0 [(.lc (.call booking x0 p0 [(.var 4 x0 p0), (.var 6 x0 p0)] p0) (.nm 6 x0 p0) .one [(.var 2 x0 p0)] [] sc0 [(x0, 5), (x0, 6)] p0)] p0) p0)] p0) [.ret (.cst (.bool false) 0 p0) p0] [] p0,
  .ret (.bop .And [(.call rise x0 p0 [(.lc (.sub (.var 6 x0 p0) (.cst (.int 0) 0 p0) p0) (.nm 6 x0 p0) .one [(.var 2 x0 p0)] [] sc0 [(x0, 5), (x0, 6)] p0)] p0), (.call rule x0 p0 [(.var 3 x0 p0)] p0)] p0) p0]
def isTupD : D → Bool
  | .tup _ => true
  | _ => false
section
variable {T : Nat → Option Fn} {sub : Nat → Nat → Bool} {co wh wo ch ki : Nat}
theorem name_sub {d : D} (h : ∃ z xs, d = .tup (.str z :: xs) ∧ isWord z = true) (M : Mem) : subD M d (.int 0) = some (.str (nameD d)) := by
  obtain ⟨z, xs, rfl, _⟩ := h
  exact sub_t0 M _ _
theorem name_ok {d : D} (h : ∃ z xs, d = .tup (.str z :: xs) ∧ isWord z = true) (hp : plB d = true) : PyData.strOk (nameD d) = true := by
  obtain ⟨z, xs, rfl, _⟩ := h
  have := plBs_mem (pl_tup hp).1 (x := .str z) (by simp)
  simp only [plB, Bool.and_eq_true] at this
  exact this.1
/-- names of rows -/
theorem names_lc {C : Cfg} {r : Env} {M : Mem} {own : List Nat} {i : Nat} {r1 : D → Env} (xs : List D) (hx : ∀ x ∈ xs, ∃ z ys, x = .tup (.str z :: ys) ∧ isWord z = true) (hr : ∀ x ∈ xs, (Tg.nm i x0 p0).put x (wipeD r own) = some (r1 x) ∧ (r1 x)[i]? = some (some x)) :
    lcW C r M (.sub (.var i x0 p0) (.cst (.int 0) 0 p0) p0) (.nm i x0 p0) [] own xs = .ok ((namesD xs).map .str) M := by
  have := lcW_mapE (C := C) (r := r) (M := M) (elt := .sub (.var i x0 p0) (.cst (.int 0) 0 p0) p0) (tg := .nm i x0 p0) (ifs := []) (own := own) (fun x : D => x) (fun x => .str (nameD x)) xs fun x hx' => by
    obtain ⟨h1, h2⟩ := hr x hx'
    exact ⟨r1 x, h1, by rw [evT_nil], by simp only [ev_sub, ev_var, ev_cst, h2, bind_ok, cstD, ret_some, name_sub (hx x hx')], rfl⟩
  rw [List.map_id'] at this
  rw [this]
  simp only [namesD, List.map_map]
  rfl
theorem run_is_house (P : Parts T co wh wo ch ki) {f fg fr fb fu : Nat} (hg : Has T fg 1 3 (L_is_going wo wh)) (hr : Has T fr 1 4 L_do_rise) (hb : Has T fb 2 2 (L_is_booking wo ki)) (hu : Has T fu 1 5 (L_is_rule wh fr)) (h : Has T f 1 7 (L_is_house fg fr fb fu)) (d : D) (hd : plB d = true) (hdep : dep d ≤ 60) : Cal T sub FUEL 5 f [d] (.bl (isHouseD d)) := by
  refine cal_of (k := 4) h rfl fun n hn M => ?_
  have n1 : 1 ≤ n := by omega
  have n2 : 2 ≤ n := by omega
  unfold L_is_house
  cases d with
  | tup xs =>
    obtain ⟨hp, hz⟩ := pl_tup hd
    by_cases hl : xs.length = 3
    · obtain ⟨a, b, c, rfl⟩ : ∃ a b c, xs = [a, b, c] := by
        match xs, hl with
        | [a, b, c], _ => exact ⟨a, b, c, rfl⟩
      have pa := plBs_mem hp (x := a) (by simp)
      have pb := plBs_mem hp (x := b) (by simp)
      have pc := plBs_mem hp (x := c) (by simp)
      have dc : dep c ≤ 60 := by
        have h1 : dep c ≤ deps [a, b, c] := dep_mem (by simp)
        simp only [dep] at hdep
        omega
      have ecut : cutD [a, b, c] none (some 2) = [a, b] := by rw [cutT2]; rfl
      have hp2 : plBs [a, b] = true := by simp [plBs, pa, pb]
      have lc0 : ∀ M, lcW ⟨callF T sub FUEL n, sub, FUEL⟩ [some (.tup [a, b, c]), none, none, none, none, none, none] M (.isi (.var 6 x0 p0) .tuple p0 p0 p0) (.nm 6 x0 p0) [] [5, 6] [a, b] = .ok ([a, b].map fun x => .bl (isTupD x)) M := fun M =>
        lcW_pl (fun x => .bl (isTupD x)) [a, b] hp2 fun x px _ => ⟨_, rfl, by cases x <;> first | (cases px; done) | (simp only [ends_rt, ends_nx, ends_exc, bind_ok, bind_exc, ret_some, retB_some, retL_some, retE_some, ev_var, ev_cst, ev_gint, ev_gstr, ev_gfn, ev_bin, ev_neg, ev_not, ev_bop, ev_cmp, ev_chain, ev_ite, ev_call, ev_isi, ev_blt, ev_mth, ev_sub, ev_slc, ev_tup, ev_lst, ev_lc, ev_live, ev_srt, ev_srk, evs_nil, evs_cons, evx_nil, evx_cons, evO_none, evO_some, evB_one, evB_and, evB_or, evT_nil, evT_one, exs_nil, exs_cons, nxt_nx, nxt_rt, nxt_exc, ex_asg, ex_own, ex_par, ex_app, ex_exn, ex_sti, ex_sto, ex_aug, ex_exp, ex_ret, ex_ifs, ex_fors, ex_whl, ex_rse, ex_tri, ex_frz, cstD, Tg.put, Tg.puts, startD, wipeD, kept_int, kept_bl, kept_str, kept_non, kept_tup, kept_lst, kept_ext, kept_ref, kept_fn, kept_exc, cmp_eq_int, cmp_ne_int, cmp_lt_int, cmp_le_int, cmp_gt_int, cmp_ge_int, List.map_cons, List.map_nil, List.length_cons, List.length_nil, Nat.reduceAdd, Nat.reduceSub, Nat.reduceLeDiff, List.replicate, List.cons_append, List.nil_append, List.append_nil, List.getElem?_cons_zero, List.getElem?_cons_succ, List.getElem?_nil, List.set_cons_zero, List.set_cons_succ, List.all_cons, List.all_nil, nown, Bool.and_true, Bool.true_and, Bool.and_false, Bool.false_and, if_true, if_false, Bool.false_eq_true, Bool.not_true, Bool.not_false, reduceIte, len6, Int.cast_ofNat_Int, beq_self_eq_true, Int.reduceBEq, Int.reduceAdd, Int.reduceNeg, decide_true, decide_false, Int.reduceLT, Int.reduceLE, Int.reduceToNat, isiD, isTupD]), rfl⟩
      have eall : ∀ M, bltD .all M [.lst [.bl (isTupD a), .bl (isTupD b)]] = some (.bl (isTupD a && isTupD b)) := fun M => by
        have := all_D M [a, b] isTupD
        simpa using this
      cases hA : (isTupD a && isTupD b) with
      | false =>
        have h3 : isHouseD (.tup [a, b, c]) = false := by
          unfold isHouseD
          split
          · rename_i hh
            simp only [D.tup.injEq, List.cons.injEq, and_true] at hh
            obtain ⟨rfl, rfl, rfl⟩ := hh
            cases hA
          · rfl
        simp only [ends_rt, ends_nx, ends_exc, bind_ok, bind_exc, ret_some, retB_some, retL_some, retE_some, ev_var, ev_cst, ev_gint, ev_gstr, ev_gfn, ev_bin, ev_neg, ev_not, ev_bop, ev_cmp, ev_chain, ev_ite, ev_call, ev_isi, ev_blt, ev_mth, ev_sub, ev_slc, ev_tup, ev_lst, ev_lc, ev_live, ev_srt, ev_srk, evs_nil, evs_cons, evx_nil, evx_cons, evO_none, evO_some, evB_one, evB_and, evB_or, evT_nil, evT_one, exs_nil, exs_cons, nxt_nx, nxt_rt, nxt_exc, ex_asg, ex_own, ex_par, ex_app, ex_exn, ex_sti, ex_sto, ex_aug, ex_exp, ex_ret, ex_ifs, ex_fors, ex_whl, ex_rse, ex_tri, ex_frz, cstD, Tg.put, Tg.puts, startD, wipeD, kept_int, kept_bl, kept_str, kept_non, kept_tup, kept_lst, kept_ext, kept_ref, kept_fn, kept_exc, cmp_eq_int, cmp_ne_int, cmp_lt_int, cmp_le_int, cmp_gt_int, cmp_ge_int, List.map_cons, List.map_nil, List.length_cons, List.length_nil, Nat.reduceAdd, Nat.reduceSub, Nat.reduceLeDiff, List.replicate, List.cons_append, List.nil_append, List.append_nil, List.getElem?_cons_zero, List.getElem?_cons_succ, List.getElem?_nil, List.set_cons_zero, List.set_cons_succ, List.all_cons, List.all_nil, nown, Bool.and_true, Bool.true_and, Bool.and_false, Bool.false_and, if_true, if_false, Bool.false_eq_true, Bool.not_true, Bool.not_false, reduceIte, len6, Int.cast_ofNat_Int, beq_self_eq_true, Int.reduceBEq, Int.reduceAdd, Int.reduceNeg, decide_true, decide_false, Int.reduceLT, Int.reduceLE, Int.reduceToNat, isiD, len_tup, slc_tup, ecut, src_one_tup, lc0, eall, hA, h3]
      | true =>
        obtain ⟨gs, rfl⟩ : ∃ gs, a = .tup gs := by cases a <;> first | exact ⟨_, rfl⟩ | (simp [isTupD] at hA)
        obtain ⟨bs, rfl⟩ : ∃ bs, b = .tup bs := by cases b <;> first | exact ⟨_, rfl⟩ | (simp [isTupD] at hA)
        obtain ⟨pgs, zgs⟩ := pl_tup pa
        obtain ⟨pbs, zbs⟩ := pl_tup pb
        have lc1 : ∀ M, lcW ⟨callF T sub FUEL n, sub, FUEL⟩ [some (.tup [.tup gs, .tup bs, c]), some (.tup gs), some (.tup bs), some c, none, none, none] M (.call fg x0 p0 [(.var 6 x0 p0)] p0) (.nm 6 x0 p0) [] [5, 6] gs = .ok (gs.map fun x => .bl (isGoingD x)) M := fun M =>
          lcW_pl (fun x => .bl (isGoingD x)) gs pgs fun x px _ => ⟨_, rfl, by simp only [ends_rt, ends_nx, ends_exc, bind_ok, bind_exc, ret_some, retB_some, retL_some, retE_some, ev_var, ev_cst, ev_gint, ev_gstr, ev_gfn, ev_bin, ev_neg, ev_not, ev_bop, ev_cmp, ev_chain, ev_ite, ev_call, ev_isi, ev_blt, ev_mth, ev_sub, ev_slc, ev_tup, ev_lst, ev_lc, ev_live, ev_srt, ev_srk, evs_nil, evs_cons, evx_nil, evx_cons, evO_none, evO_some, evB_one, evB_and, evB_or, evT_nil, evT_one, exs_nil, exs_cons, nxt_nx, nxt_rt, nxt_exc, ex_asg, ex_own, ex_par, ex_app, ex_exn, ex_sti, ex_sto, ex_aug, ex_exp, ex_ret, ex_ifs, ex_fors, ex_whl, ex_rse, ex_tri, ex_frz, cstD, Tg.put, Tg.puts, startD, wipeD, kept_int, kept_bl, kept_str, kept_non, kept_tup, kept_lst, kept_ext, kept_ref, kept_fn, kept_exc, cmp_eq_int, cmp_ne_int, cmp_lt_int, cmp_le_int, cmp_gt_int, cmp_ge_int, List.map_cons, List.map_nil, List.length_cons, List.length_nil, Nat.reduceAdd, Nat.reduceSub, Nat.reduceLeDiff, List.replicate, List.cons_append, List.nil_append, List.append_nil, List.getElem?_cons_zero, List.getElem?_cons_succ, List.getElem?_nil, List.set_cons_zero, List.set_cons_succ, List.all_cons, List.all_nil, nown, Bool.and_true, Bool.true_and, Bool.and_false, Bool.false_and, if_true, if_false, Bool.false_eq_true, Bool.not_true, Bool.not_false, reduceIte, len6, Int.cast_ofNat_Int, beq_self_eq_true, Int.reduceBEq, Int.reduceAdd, Int.reduceNeg, decide_true, decide_false, Int.reduceLT, Int.reduceLE, Int.reduceToNat, kept_ok (pl_nown px), run_is_going P.wo P.wh hg x px n n2], rfl⟩
        have bg : (gs.map fun x => D.bl (isGoingD x)).length ≤ sizeLine := big_le (by rw [List.length_map]; exact zgs)
        have eh : isHouseD (.tup [.tup gs, .tup bs, c]) = ((decide (1 ≤ gs.length) && decide (gs.length ≤ 6) && gs.all isGoingD) && ((riseS (namesD gs) && decide (bs.length ≤ 12) && bs.all (isBookingD (namesD gs))) && (riseS (namesD bs) && isRuleD c))) := rfl
        rw [eh]
        by_cases g1 : (1 : Int) ≤ (gs.length : Int)
        · have g1' : 1 ≤ gs.length := by omega
          by_cases g2 : (gs.length : Int) ≤ 6
          · have g2' : gs.length ≤ 6 := by omega
            cases hG : gs.all isGoingD with
            | false => simp only [ends_rt, ends_nx, ends_exc, bind_ok, bind_exc, ret_some, retB_some, retL_some, retE_some, ev_var, ev_cst, ev_gint, ev_gstr, ev_gfn, ev_bin, ev_neg, ev_not, ev_bop, ev_cmp, ev_chain, ev_ite, ev_call, ev_isi, ev_blt, ev_mth, ev_sub, ev_slc, ev_tup, ev_lst, ev_lc, ev_live, ev_srt, ev_srk, evs_nil, evs_cons, evx_nil, evx_cons, evO_none, evO_some, evB_one, evB_and, evB_or, evT_nil, evT_one, exs_nil, exs_cons, nxt_nx, nxt_rt, nxt_exc, ex_asg, ex_own, ex_par, ex_app, ex_exn, ex_sti, ex_sto, ex_aug, ex_exp, ex_ret, ex_ifs, ex_fors, ex_whl, ex_rse, ex_tri, ex_frz, cstD, Tg.put, Tg.puts, startD, wipeD, kept_int, kept_bl, kept_str, kept_non, kept_tup, kept_lst, kept_ext, kept_ref, kept_fn, kept_exc, cmp_eq_int, cmp_ne_int, cmp_lt_int, cmp_le_int, cmp_gt_int, cmp_ge_int, List.map_cons, List.map_nil, List.length_cons, List.length_nil, Nat.reduceAdd, Nat.reduceSub, Nat.reduceLeDiff, List.replicate, List.cons_append, List.nil_append, List.append_nil, List.getElem?_cons_zero, List.getElem?_cons_succ, List.getElem?_nil, List.set_cons_zero, List.set_cons_succ, List.all_cons, List.all_nil, nown, Bool.and_true, Bool.true_and, Bool.and_false, Bool.false_and, if_true, if_false, Bool.false_eq_true, Bool.not_true, Bool.not_false, reduceIte, len6, Int.cast_ofNat_Int, beq_self_eq_true, Int.reduceBEq, Int.reduceAdd, Int.reduceNeg, decide_true, decide_false, Int.reduceLT, Int.reduceLE, Int.reduceToNat, isiD, len_tup, slc_tup, ecut, src_one_tup, lc0, lc1, eall, hA, g1, g2, g1', g2', bg, all_D, hG, kept_ok (pl_nown pc)]
            | true =>
              have gn : ∀ x ∈ gs, ∃ z ys, x = .tup (.str z :: ys) ∧ isWord z = true := fun x hx => going_name (List.all_eq_true.mp hG x hx)
              have lc2 : ∀ M, lcW ⟨callF T sub FUEL n, sub, FUEL⟩ [some (.tup [.tup gs, .tup bs, c]), some (.tup gs), some (.tup bs), some c, none, none, none] M (.sub (.var 6 x0 p0) (.cst (.int 0) 0 p0) p0) (.nm 6 x0 p0) [] [5, 6] gs = .ok ((namesD gs).map .str) M := fun M =>
                names_lc (r1 := fun x => [some (.tup [.tup gs, .tup bs, c]), some (.tup gs), some (.tup bs), some c, none, none, some x]) gs gn fun x _ => ⟨rfl, rfl⟩
              have ln : (namesD gs).length ≤ 1000 := by simp only [namesD, List.length_map]; exact zgs
              have bn : ((namesD gs).map D.str).length ≤ sizeLine := big_le (by rw [List.length_map]; exact ln)
              have sok : ∀ s ∈ namesD gs, PyData.strOk s = true := fun s hs => by
                obtain ⟨x, hx, rfl⟩ := List.mem_map.mp hs
                exact name_ok (gn x hx) (plBs_mem pgs hx)
              have r1 := run_do_riseS (sub := sub) (fuel := FUEL) hr (namesD gs) ln n n1
              cases hR : riseS (namesD gs) with
              | false => simp only [ends_rt, ends_nx, ends_exc, bind_ok, bind_exc, ret_some, retB_some, retL_some, retE_some, ev_var, ev_cst, ev_gint, ev_gstr, ev_gfn, ev_bin, ev_neg, ev_not, ev_bop, ev_cmp, ev_chain, ev_ite, ev_call, ev_isi, ev_blt, ev_mth, ev_sub, ev_slc, ev_tup, ev_lst, ev_lc, ev_live, ev_srt, ev_srk, evs_nil, evs_cons, evx_nil, evx_cons, evO_none, evO_some, evB_one, evB_and, evB_or, evT_nil, evT_one, exs_nil, exs_cons, nxt_nx, nxt_rt, nxt_exc, ex_asg, ex_own, ex_par, ex_app, ex_exn, ex_sti, ex_sto, ex_aug, ex_exp, ex_ret, ex_ifs, ex_fors, ex_whl, ex_rse, ex_tri, ex_frz, cstD, Tg.put, Tg.puts, startD, wipeD, kept_int, kept_bl, kept_str, kept_non, kept_tup, kept_lst, kept_ext, kept_ref, kept_fn, kept_exc, cmp_eq_int, cmp_ne_int, cmp_lt_int, cmp_le_int, cmp_gt_int, cmp_ge_int, List.map_cons, List.map_nil, List.length_cons, List.length_nil, Nat.reduceAdd, Nat.reduceSub, Nat.reduceLeDiff, List.replicate, List.cons_append, List.nil_append, List.append_nil, List.getElem?_cons_zero, List.getElem?_cons_succ, List.getElem?_nil, List.set_cons_zero, List.set_cons_succ, List.all_cons, List.all_nil, nown, Bool.and_true, Bool.true_and, Bool.and_false, Bool.false_and, if_true, if_false, Bool.false_eq_true, Bool.not_true, Bool.not_false, reduceIte, len6, Int.cast_ofNat_Int, beq_self_eq_true, Int.reduceBEq, Int.reduceAdd, Int.reduceNeg, decide_true, decide_false, Int.reduceLT, Int.reduceLE, Int.reduceToNat, isiD, len_tup, slc_tup, ecut, src_one_tup, lc0, lc1, lc2, eall, hA, g1, g2, g1', g2', bg, bn, all_D, hG, kept_ok (pl_nown pc), r1, hR]
              | true =>
                by_cases b1 : (12 : Int) < (bs.length : Int)
                · have b1' : ¬ bs.length ≤ 12 := by omega
                  simp only [ends_rt, ends_nx, ends_exc, bind_ok, bind_exc, ret_some, retB_some, retL_some, retE_some, ev_var, ev_cst, ev_gint, ev_gstr, ev_gfn, ev_bin, ev_neg, ev_not, ev_bop, ev_cmp, ev_chain, ev_ite, ev_call, ev_isi, ev_blt, ev_mth, ev_sub, ev_slc, ev_tup, ev_lst, ev_lc, ev_live, ev_srt, ev_srk, evs_nil, evs_cons, evx_nil, evx_cons, evO_none, evO_some, evB_one, evB_and, evB_or, evT_nil, evT_one, exs_nil, exs_cons, nxt_nx, nxt_rt, nxt_exc, ex_asg, ex_own, ex_par, ex_app, ex_exn, ex_sti, ex_sto, ex_aug, ex_exp, ex_ret, ex_ifs, ex_fors, ex_whl, ex_rse, ex_tri, ex_frz, cstD, Tg.put, Tg.puts, startD, wipeD, kept_int, kept_bl, kept_str, kept_non, kept_tup, kept_lst, kept_ext, kept_ref, kept_fn, kept_exc, cmp_eq_int, cmp_ne_int, cmp_lt_int, cmp_le_int, cmp_gt_int, cmp_ge_int, List.map_cons, List.map_nil, List.length_cons, List.length_nil, Nat.reduceAdd, Nat.reduceSub, Nat.reduceLeDiff, List.replicate, List.cons_append, List.nil_append, List.append_nil, List.getElem?_cons_zero, List.getElem?_cons_succ, List.getElem?_nil, List.set_cons_zero, List.set_cons_succ, List.all_cons, List.all_nil, nown, Bool.and_true, Bool.true_and, Bool.and_false, Bool.false_and, if_true, if_false, Bool.false_eq_true, Bool.not_true, Bool.not_false, reduceIte, len6, Int.cast_ofNat_Int, beq_self_eq_true, Int.reduceBEq, Int.reduceAdd, Int.reduceNeg, decide_true, decide_false, Int.reduceLT, Int.reduceLE, Int.reduceToNat, isiD, len_tup, slc_tup, ecut, src_one_tup, lc0, lc1, lc2, eall, hA, g1, g2, g1', g2', bg, bn, all_D, hG, kept_ok (pl_nown pc), r1, hR, b1, b1']
                · have b1' : bs.length ≤ 12 := by omega
                  have lc3 : ∀ M, lcW ⟨callF T sub FUEL n, sub, FUEL⟩ [some (.tup [.tup gs, .tup bs, c]), some (.tup gs), some (.tup bs), some c, some (.lst ((namesD gs).map .str)), none, none] M (.call fb x0 p0 [(.var 4 x0 p0), (.var 6 x0 p0)] p0) (.nm 6 x0 p0) [] [5, 6] bs = .ok (bs.map fun x => .bl (isBookingD (namesD gs) x)) M := fun M =>
                    lcW_pl (fun x => .bl (isBookingD (namesD gs) x)) bs pbs fun x px _ => ⟨_, rfl, by simp only [ends_rt, ends_nx, ends_exc, bind_ok, bind_exc, ret_some, retB_some, retL_some, retE_some, ev_var, ev_cst, ev_gint, ev_gstr, ev_gfn, ev_bin, ev_neg, ev_not, ev_bop, ev_cmp, ev_chain, ev_ite, ev_call, ev_isi, ev_blt, ev_mth, ev_sub, ev_slc, ev_tup, ev_lst, ev_lc, ev_live, ev_srt, ev_srk, evs_nil, evs_cons, evx_nil, evx_cons, evO_none, evO_some, evB_one, evB_and, evB_or, evT_nil, evT_one, exs_nil, exs_cons, nxt_nx, nxt_rt, nxt_exc, ex_asg, ex_own, ex_par, ex_app, ex_exn, ex_sti, ex_sto, ex_aug, ex_exp, ex_ret, ex_ifs, ex_fors, ex_whl, ex_rse, ex_tri, ex_frz, cstD, Tg.put, Tg.puts, startD, wipeD, kept_int, kept_bl, kept_str, kept_non, kept_tup, kept_lst, kept_ext, kept_ref, kept_fn, kept_exc, cmp_eq_int, cmp_ne_int, cmp_lt_int, cmp_le_int, cmp_gt_int, cmp_ge_int, List.map_cons, List.map_nil, List.length_cons, List.length_nil, Nat.reduceAdd, Nat.reduceSub, Nat.reduceLeDiff, List.replicate, List.cons_append, List.nil_append, List.append_nil, List.getElem?_cons_zero, List.getElem?_cons_succ, List.getElem?_nil, List.set_cons_zero, List.set_cons_succ, List.all_cons, List.all_nil, nown, Bool.and_true, Bool.true_and, Bool.and_false, Bool.false_and, if_true, if_false, Bool.false_eq_true, Bool.not_true, Bool.not_false, reduceIte, len6, Int.cast_ofNat_Int, beq_self_eq_true, Int.reduceBEq, Int.reduceAdd, Int.reduceNeg, decide_true, decide_false, Int.reduceLT, Int.reduceLE, Int.reduceToNat, kept_ok (pl_nown px), run_is_booking P hb (namesD gs) sok x px n hn], rfl⟩
                  have bb : (bs.map fun x => D.bl (isBookingD (namesD gs) x)).length ≤ sizeLine := big_le (by rw [List.length_map]; exact zbs)
                  cases hB : bs.all (isBookingD (namesD gs)) with
                  | false => simp only [ends_rt, ends_nx, ends_exc, bind_ok, bind_exc, ret_some, retB_some, retL_some, retE_some, ev_var, ev_cst, ev_gint, ev_gstr, ev_gfn, ev_bin, ev_neg, ev_not, ev_bop, ev_cmp, ev_chain, ev_ite, ev_call, ev_isi, ev_blt, ev_mth, ev_sub, ev_slc, ev_tup, ev_lst, ev_lc, ev_live, ev_srt, ev_srk, evs_nil, evs_cons, evx_nil, evx_cons, evO_none, evO_some, evB_one, evB_and, evB_or, evT_nil, evT_one, exs_nil, exs_cons, nxt_nx, nxt_rt, nxt_exc, ex_asg, ex_own, ex_par, ex_app, ex_exn, ex_sti, ex_sto, ex_aug, ex_exp, ex_ret, ex_ifs, ex_fors, ex_whl, ex_rse, ex_tri, ex_frz, cstD, Tg.put, Tg.puts, startD, wipeD, kept_int, kept_bl, kept_str, kept_non, kept_tup, kept_lst, kept_ext, kept_ref, kept_fn, kept_exc, cmp_eq_int, cmp_ne_int, cmp_lt_int, cmp_le_int, cmp_gt_int, cmp_ge_int, List.map_cons, List.map_nil, List.length_cons, List.length_nil, Nat.reduceAdd, Nat.reduceSub, Nat.reduceLeDiff, List.replicate, List.cons_append, List.nil_append, List.append_nil, List.getElem?_cons_zero, List.getElem?_cons_succ, List.getElem?_nil, List.set_cons_zero, List.set_cons_succ, List.all_cons, List.all_nil, nown, Bool.and_true, Bool.true_and, Bool.and_false, Bool.false_and, if_true, if_false, Bool.false_eq_true, Bool.not_true, Bool.not_false, reduceIte, len6, Int.cast_ofNat_Int, beq_self_eq_true, Int.reduceBEq, Int.reduceAdd, Int.reduceNeg, decide_true, decide_false, Int.reduceLT, Int.reduceLE, Int.reduceToNat, isiD, len_tup, slc_tup, ecut, src_one_tup, lc0, lc1, lc2, lc3, eall, hA, g1, g2, g1', g2', bg, bn, bb, all_D, hG, kept_ok (pl_nown pc), r1, hR, b1, b1', hB]
                  | true =>
                    have bnm : ∀ x ∈ bs, ∃ z ys, x = .tup (.str z :: ys) ∧ isWord z = true := fun x hx => booking_name (List.all_eq_true.mp hB x hx)
                    have lc4 : ∀ M, lcW ⟨callF T sub FUEL n, sub, FUEL⟩ [some (.tup [.tup gs, .tup bs, c]), some (.tup gs), some (.tup bs), some c, some (.lst ((namesD gs).map .str)), none, none] M (.sub (.var 6 x0 p0) (.cst (.int 0) 0 p0) p0) (.nm 6 x0 p0) [] [5, 6] bs = .ok ((namesD bs).map .str) M := fun M =>
                      names_lc (r1 := fun x => [some (.tup [.tup gs, .tup bs, c]), some (.tup gs), some (.tup bs), some c, some (.lst ((namesD gs).map .str)), none, some x]) bs bnm fun x _ => ⟨rfl, rfl⟩
                    have lnb : (namesD bs).length ≤ 1000 := by simp only [namesD, List.length_map]; exact zbs
                    have bnb : ((namesD bs).map D.str).length ≤ sizeLine := big_le (by rw [List.length_map]; exact lnb)
                    have r2 := run_do_riseS (sub := sub) (fuel := FUEL) hr (namesD bs) lnb n n1
                    cases hS : riseS (namesD bs) with
                    | false => simp only [ends_rt, ends_nx, ends_exc, bind_ok, bind_exc, ret_some, retB_some, retL_some, retE_some, ev_var, ev_cst, ev_gint, ev_gstr, ev_gfn, ev_bin, ev_neg, ev_not, ev_bop, ev_cmp, ev_chain, ev_ite, ev_call, ev_isi, ev_blt, ev_mth, ev_sub, ev_slc, ev_tup, ev_lst, ev_lc, ev_live, ev_srt, ev_srk, evs_nil, evs_cons, evx_nil, evx_cons, evO_none, evO_some, evB_one, evB_and, evB_or, evT_nil, evT_one, exs_nil, exs_cons, nxt_nx, nxt_rt, nxt_exc, ex_asg, ex_own, ex_par, ex_app, ex_exn, ex_sti, ex_sto, ex_aug, ex_exp, ex_ret, ex_ifs, ex_fors, ex_whl, ex_rse, ex_tri, ex_frz, cstD, Tg.put, Tg.puts, startD, wipeD, kept_int, kept_bl, kept_str, kept_non, kept_tup, kept_lst, kept_ext, kept_ref, kept_fn, kept_exc, cmp_eq_int, cmp_ne_int, cmp_lt_int, cmp_le_int, cmp_gt_int, cmp_ge_int, List.map_cons, List.map_nil, List.length_cons, List.length_nil, Nat.reduceAdd, Nat.reduceSub, Nat.reduceLeDiff, List.replicate, List.cons_append, List.nil_append, List.append_nil, List.getElem?_cons_zero, List.getElem?_cons_succ, List.getElem?_nil, List.set_cons_zero, List.set_cons_succ, List.all_cons, List.all_nil, nown, Bool.and_true, Bool.true_and, Bool.and_false, Bool.false_and, if_true, if_false, Bool.false_eq_true, Bool.not_true, Bool.not_false, reduceIte, len6, Int.cast_ofNat_Int, beq_self_eq_true, Int.reduceBEq, Int.reduceAdd, Int.reduceNeg, decide_true, decide_false, Int.reduceLT, Int.reduceLE, Int.reduceToNat, isiD, len_tup, slc_tup, ecut, src_one_tup, lc0, lc1, lc2, lc3, lc4, eall, hA, g1, g2, g1', g2', bg, bn, bb, bnb, all_D, hG, kept_ok (pl_nown pc), r1, r2, hR, b1, b1', hB, hS]
                    | true => simp only [ends_rt, ends_nx, ends_exc, bind_ok, bind_exc, ret_some, retB_some, retL_some, retE_some, ev_var, ev_cst, ev_gint, ev_gstr, ev_gfn, ev_bin, ev_neg, ev_not, ev_bop, ev_cmp, ev_chain, ev_ite, ev_call, ev_isi, ev_blt, ev_mth, ev_sub, ev_slc, ev_tup, ev_lst, ev_lc, ev_live, ev_srt, ev_srk, evs_nil, evs_cons, evx_nil, evx_cons, evO_none, evO_some, evB_one, evB_and, evB_or, evT_nil, evT_one, exs_nil, exs_cons, nxt_nx, nxt_rt, nxt_exc, ex_asg, ex_own, ex_par, ex_app, ex_exn, ex_sti, ex_sto, ex_aug, ex_exp, ex_ret, ex_ifs, ex_fors, ex_whl, ex_rse, ex_tri, ex_frz, cstD, Tg.put, Tg.puts, startD, wipeD, kept_int, kept_bl, kept_str, kept_non, kept_tup, kept_lst, kept_ext, kept_ref, kept_fn, kept_exc, cmp_eq_int, cmp_ne_int, cmp_lt_int, cmp_le_int, cmp_gt_int, cmp_ge_int, List.map_cons, List.map_nil, List.length_cons, List.length_nil, Nat.reduceAdd, Nat.reduceSub, Nat.reduceLeDiff, List.replicate, List.cons_append, List.nil_append, List.append_nil, List.getElem?_cons_zero, List.getElem?_cons_succ, List.getElem?_nil, List.set_cons_zero, List.set_cons_succ, List.all_cons, List.all_nil, nown, Bool.and_true, Bool.true_and, Bool.and_false, Bool.false_and, if_true, if_false, Bool.false_eq_true, Bool.not_true, Bool.not_false, reduceIte, len6, Int.cast_ofNat_Int, beq_self_eq_true, Int.reduceBEq, Int.reduceAdd, Int.reduceNeg, decide_true, decide_false, Int.reduceLT, Int.reduceLE, Int.reduceToNat, isiD, len_tup, slc_tup, ecut, src_one_tup, lc0, lc1, lc2, lc3, lc4, eall, hA, g1, g2, g1', g2', bg, bn, bb, bnb, all_D, hG, kept_ok (pl_nown pc), r1, r2, hR, b1, b1', hB, hS, run_is_rule P.wh hr hu c pc dc n n2]
          · have g2' : ¬ gs.length ≤ 6 := by omega
            simp only [ends_rt, ends_nx, ends_exc, bind_ok, bind_exc, ret_some, retB_some, retL_some, retE_some, ev_var, ev_cst, ev_gint, ev_gstr, ev_gfn, ev_bin, ev_neg, ev_not, ev_bop, ev_cmp, ev_chain, ev_ite, ev_call, ev_isi, ev_blt, ev_mth, ev_sub, ev_slc, ev_tup, ev_lst, ev_lc, ev_live, ev_srt, ev_srk, evs_nil, evs_cons, evx_nil, evx_cons, evO_none, evO_some, evB_one, evB_and, evB_or, evT_nil, evT_one, exs_nil, exs_cons, nxt_nx, nxt_rt, nxt_exc, ex_asg, ex_own, ex_par, ex_app, ex_exn, ex_sti, ex_sto, ex_aug, ex_exp, ex_ret, ex_ifs, ex_fors, ex_whl, ex_rse, ex_tri, ex_frz, cstD, Tg.put, Tg.puts, startD, wipeD, kept_int, kept_bl, kept_str, kept_non, kept_tup, kept_lst, kept_ext, kept_ref, kept_fn, kept_exc, cmp_eq_int, cmp_ne_int, cmp_lt_int, cmp_le_int, cmp_gt_int, cmp_ge_int, List.map_cons, List.map_nil, List.length_cons, List.length_nil, Nat.reduceAdd, Nat.reduceSub, Nat.reduceLeDiff, List.replicate, List.cons_append, List.nil_append, List.append_nil, List.getElem?_cons_zero, List.getElem?_cons_succ, List.getElem?_nil, List.set_cons_zero, List.set_cons_succ, List.all_cons, List.all_nil, nown, Bool.and_true, Bool.true_and, Bool.and_false, Bool.false_and, if_true, if_false, Bool.false_eq_true, Bool.not_true, Bool.not_false, reduceIte, len6, Int.cast_ofNat_Int, beq_self_eq_true, Int.reduceBEq, Int.reduceAdd, Int.reduceNeg, decide_true, decide_false, Int.reduceLT, Int.reduceLE, Int.reduceToNat, isiD, len_tup, slc_tup, ecut, src_one_tup, lc0, eall, hA, g1, g2, g1', g2', kept_ok (pl_nown pc)]
        · have g1' : ¬ 1 ≤ gs.length := by omega
          simp only [ends_rt, ends_nx, ends_exc, bind_ok, bind_exc, ret_some, retB_some, retL_some, retE_some, ev_var, ev_cst, ev_gint, ev_gstr, ev_gfn, ev_bin, ev_neg, ev_not, ev_bop, ev_cmp, ev_chain, ev_ite, ev_call, ev_isi, ev_blt, ev_mth, ev_sub, ev_slc, ev_tup, ev_lst, ev_lc, ev_live, ev_srt, ev_srk, evs_nil, evs_cons, evx_nil, evx_cons, evO_none, evO_some, evB_one, evB_and, evB_or, evT_nil, evT_one, exs_nil, exs_cons, nxt_nx, nxt_rt, nxt_exc, ex_asg, ex_own, ex_par, ex_app, ex_exn, ex_sti, ex_sto, ex_aug, ex_exp, ex_ret, ex_ifs, ex_fors, ex_whl, ex_rse, ex_tri, ex_frz, cstD, Tg.put, Tg.puts, startD, wipeD, kept_int, kept_bl, kept_str, kept_non, kept_tup, kept_lst, kept_ext, kept_ref, kept_fn, kept_exc, cmp_eq_int, cmp_ne_int, cmp_lt_int, cmp_le_int, cmp_gt_int, cmp_ge_int, List.map_cons, List.map_nil, List.length_cons, List.length_nil, Nat.reduceAdd, Nat.reduceSub, Nat.reduceLeDiff, List.replicate, List.cons_append, List.nil_append, List.append_nil, List.getElem?_cons_zero, List.getElem?_cons_succ, List.getElem?_nil, List.set_cons_zero, List.set_cons_succ, List.all_cons, List.all_nil, nown, Bool.and_true, Bool.true_and, Bool.and_false, Bool.false_and, if_true, if_false, Bool.false_eq_true, Bool.not_true, Bool.not_false, reduceIte, len6, Int.cast_ofNat_Int, beq_self_eq_true, Int.reduceBEq, Int.reduceAdd, Int.reduceNeg, decide_true, decide_false, Int.reduceLT, Int.reduceLE, Int.reduceToNat, isiD, len_tup, slc_tup, ecut, src_one_tup, lc0, eall, hA, g1, g1', kept_ok (pl_nown pc)]
    · have h2 : ((xs.length : Int) == 3) = false := lenNe _ 3 hl
      have h3 : isHouseD (.tup xs) = false := by
        unfold isHouseD
        split
        · rename_i hh; cases hh; simp at hl
        · rfl
      simp only [ends_rt, ends_nx, ends_exc, bind_ok, bind_exc, ret_some, retB_some, retL_some, retE_some, ev_var, ev_cst, ev_gint, ev_gstr, ev_gfn, ev_bin, ev_neg, ev_not, ev_bop, ev_cmp, ev_chain, ev_ite, ev_call, ev_isi, ev_blt, ev_mth, ev_sub, ev_slc, ev_tup, ev_lst, ev_lc, ev_live, ev_srt, ev_srk, evs_nil, evs_cons, evx_nil, evx_cons, evO_none, evO_some, evB_one, evB_and, evB_or, evT_nil, evT_one, exs_nil, exs_cons, nxt_nx, nxt_rt, nxt_exc, ex_asg, ex_own, ex_par, ex_app, ex_exn, ex_sti, ex_sto, ex_aug, ex_exp, ex_ret, ex_ifs, ex_fors, ex_whl, ex_rse, ex_tri, ex_frz, cstD, Tg.put, Tg.puts, startD, wipeD, kept_int, kept_bl, kept_str, kept_non, kept_tup, kept_lst, kept_ext, kept_ref, kept_fn, kept_exc, cmp_eq_int, cmp_ne_int, cmp_lt_int, cmp_le_int, cmp_gt_int, cmp_ge_int, List.map_cons, List.map_nil, List.length_cons, List.length_nil, Nat.reduceAdd, Nat.reduceSub, Nat.reduceLeDiff, List.replicate, List.cons_append, List.nil_append, List.append_nil, List.getElem?_cons_zero, List.getElem?_cons_succ, List.getElem?_nil, List.set_cons_zero, List.set_cons_succ, List.all_cons, List.all_nil, nown, Bool.and_true, Bool.true_and, Bool.and_false, Bool.false_and, if_true, if_false, Bool.false_eq_true, Bool.not_true, Bool.not_false, reduceIte, len6, Int.cast_ofNat_Int, beq_self_eq_true, Int.reduceBEq, Int.reduceAdd, Int.reduceNeg, decide_true, decide_false, Int.reduceLT, Int.reduceLE, Int.reduceToNat, isiD, len_tup, h2, h3]
  | exc c => cases hd
  | ref c => cases hd
  | fn c => cases hd
  | ext c => cases hd
  | own c => cases hd
  | dct c => cases hd
  | _ => simp only [ends_rt, ends_nx, ends_exc, bind_ok, bind_exc, ret_some, retB_some, retL_some, retE_some, ev_var, ev_cst, ev_gint, ev_gstr, ev_gfn, ev_bin, ev_neg, ev_not, ev_bop, ev_cmp, ev_chain, ev_ite, ev_call, ev_isi, ev_blt, ev_mth, ev_sub, ev_slc, ev_tup, ev_lst, ev_lc, ev_live, ev_srt, ev_srk, evs_nil, evs_cons, evx_nil, evx_cons, evO_none, evO_some, evB_one, evB_and, evB_or, evT_nil, evT_one, exs_nil, exs_cons, nxt_nx, nxt_rt, nxt_exc, ex_asg, ex_own, ex_par, ex_app, ex_exn, ex_sti, ex_sto, ex_aug, ex_exp, ex_ret, ex_ifs, ex_fors, ex_whl, ex_rse, ex_tri, ex_frz, cstD, Tg.put, Tg.puts, startD, wipeD, kept_int, kept_bl, kept_str, kept_non, kept_tup, kept_lst, kept_ext, kept_ref, kept_fn, kept_exc, cmp_eq_int, cmp_ne_int, cmp_lt_int, cmp_le_int, cmp_gt_int, cmp_ge_int, List.map_cons, List.map_nil, List.length_cons, List.length_nil, Nat.reduceAdd, Nat.reduceSub, Nat.reduceLeDiff, List.replicate, List.cons_append, List.nil_append, List.append_nil, List.getElem?_cons_zero, List.getElem?_cons_succ, List.getElem?_nil, List.set_cons_zero, List.set_cons_succ, List.all_cons, List.all_nil, nown, Bool.and_true, Bool.true_and, Bool.and_false, Bool.false_and, if_true, if_false, Bool.false_eq_true, Bool.not_true, Bool.not_false, reduceIte, len6, Int.cast_ofNat_Int, beq_self_eq_true, Int.reduceBEq, Int.reduceAdd, Int.reduceNeg, decide_true, decide_false, Int.reduceLT, Int.reduceLE, Int.reduceToNat, isiD]; rfl
end
end L2.Z
set_option Elab.async false
set_option linter.all false
set_option maxRecDepth 100000
set_option maxHeartbeats 1000000
set_option exponentiation.threshold 9000
/-! ### bookings: their order -/
namespace L2.Z
open PySem
structure Bk where
  name : Str
  going : Str
  fare : Int
  ch : Rat
  rank : Int
  ask : Option Int
def askD : Option Int → D
  | none => .non
  | some i => .int i
def bkD (b : Bk) : D := .tup [.str b.name, .str b.going, .int b.fare, rd b.ch, .int b.rank, askD b.ask]
/-- strings that the machine takes -/
def Bk.ok (b : Bk) : Prop := PyData.strOk b.name = true ∧ PyData.strOk b.going = true
def keyT (b : Bk) : Int × Int × Str := match b.ask with
  | none => (1, -b.rank, b.name)
  | some i => (0, i, b.name)
def keyD (b : Bk) : D := .tup [.int (keyT b).1, .int (keyT b).2.1, .str (keyT b).2.2]
/-- goes ahead, or as well -/
def ltT (p q : Int × Int × Str) : Bool := decide (p.1 < q.1 ∨ (p.1 = q.1 ∧ (p.2.1 < q.2.1 ∨ (p.2.1 = q.2.1 ∧ p.2.2.cps.toList < q.2.2.cps.toList))))
def leB (b c : Bk) : Bool := !ltT (keyT c) (keyT b)
def inOrder (bs : List Bk) : List Bk := bs.mergeSort leB
theorem lt_key (b c : Bk) : PySem.W.dataLt (toPy (keyD b)) (toPy (keyD c)) = ltT (keyT b) (keyT c) := by
  have e : ∀ b : Bk, toPy (keyD b) = .tuple [.int (keyT b).1, .int (keyT b).2.1, .str (keyT b).2.2] := fun b => by simp only [keyD, toPy, toPys]
  rw [e, e, PySem.W.dataLt_tuple, PySem.W.dataLt_cons (by simp [PySem.W.alike]), PySem.W.dataLt_cons (by simp [PySem.W.alike]), PySem.W.dataLt_cons (by simp [PySem.W.alike]), PySem.W.dataLt_int, PySem.W.dataLt_int, PySem.W.dataLt_str]
  have e2 : PyProof.Rows.lexLt PyProof.Rows.itemOrd (PySem.W.keyToksAll []) (PySem.W.keyToksAll []) = false := PyProof.Rows.lex_irrefl _
  rw [e2]
  unfold ltT
  generalize keyT b = p
  generalize keyT c = q
  obtain ⟨p1, p2, p3⟩ := p
  obtain ⟨q1, q2, q3⟩ := q
  simp only [PyData.eqv, beq_iff_eq]
  by_cases h1 : p1 = q1
  · subst h1
    by_cases h2 : p2 = q2
    · subst h2
      by_cases h3 : p3 = q3
      · subst h3
        have : ¬ (p3.cps.toList < p3.cps.toList) := List.lt_irrefl _
        simp [this]
      · simp [h3]
    · simp [h2]
  · simp [h1]
def L_stay_key : List S := [
  .ifs (.cmp .Is (.sub (.var 0 x0 p0) (.cst (.int 5) 0 p0) p0) (.cst .none 0 p0) p0) [.ret (.tup [(.cst (.int 1) 0 p0), (.neg (.sub (.var 0 x0 p0) (.cst (.int 4) 0 p0) p0) p0), (.sub (.var 0 x0 p0) (.cst (.int 0) 0 p0) p0)] 0 p0) p0] [] p0,
  .ret (.tup [(.cst (.int 0) 0 p0), (.sub (.var 0 x0 p0) (.cst (.int 5) 0 p0) p0), (.sub (.var 0 x0 p0) (.cst (.int 0) 0 p0) p0)] 0 p0) p0]
def L_in_order (key : Nat) : List S := [
  .ret (.srk (.var 0 x0 p0) key x0 p0 p0 p0 p0) p0]
section
variable {T : Nat → Option Fn} {sub : Nat → Nat → Bool} {fuel : Nat}
theorem run_stay_key {f : Nat} (h : Has T f 1 1 L_stay_key) (b : Bk) : Cal T sub fuel 1 f [bkD b] (keyD b) := by
  refine cal_of (k := 0) h rfl fun n hn M => ?_
  unfold L_stay_key bkD keyD keyT
  cases hb : b.ask with
  | none => simp only [ends_rt, ends_nx, ends_exc, bind_ok, bind_exc, ret_some, retB_some, retL_some, retE_some, ev_var, ev_cst, ev_gint, ev_gstr, ev_gfn, ev_bin, ev_neg, ev_not, ev_bop, ev_cmp, ev_chain, ev_ite, ev_call, ev_isi, ev_blt, ev_mth, ev_sub, ev_slc, ev_tup, ev_lst, ev_lc, ev_live, ev_srt, ev_srk, evs_nil, evs_cons, evx_nil, evx_cons, evO_none, evO_some, evB_one, evB_and, evB_or, evT_nil, evT_one, exs_nil, exs_cons, nxt_nx, nxt_rt, nxt_exc, ex_asg, ex_own, ex_par, ex_app, ex_exn, ex_sti, ex_sto, ex_aug, ex_exp, ex_ret, ex_ifs, ex_fors, ex_whl, ex_rse, ex_tri, ex_frz, cstD, Tg.put, Tg.puts, startD, wipeD, kept_int, kept_bl, kept_str, kept_non, kept_tup, kept_lst, kept_ext, kept_ref, kept_fn, kept_exc, cmp_eq_int, cmp_ne_int, cmp_lt_int, cmp_le_int, cmp_gt_int, cmp_ge_int, List.map_cons, List.map_nil, List.length_cons, List.length_nil, Nat.reduceAdd, Nat.reduceSub, Nat.reduceLeDiff, List.replicate, List.cons_append, List.nil_append, List.append_nil, List.getElem?_cons_zero, List.getElem?_cons_succ, List.getElem?_nil, List.set_cons_zero, List.set_cons_succ, List.all_cons, List.all_nil, nown, Bool.and_true, Bool.true_and, Bool.and_false, Bool.false_and, if_true, if_false, Bool.false_eq_true, Bool.not_true, Bool.not_false, reduceIte, len6, Int.cast_ofNat_Int, beq_self_eq_true, Int.reduceBEq, Int.reduceAdd, Int.reduceNeg, decide_true, decide_false, Int.reduceLT, Int.reduceLE, Int.reduceToNat, sub_t0, sub_t4, sub_t5, askD, is_none, isNon]
  | some i => simp only [ends_rt, ends_nx, ends_exc, bind_ok, bind_exc, ret_some, retB_some, retL_some, retE_some, ev_var, ev_cst, ev_gint, ev_gstr, ev_gfn, ev_bin, ev_neg, ev_not, ev_bop, ev_cmp, ev_chain, ev_ite, ev_call, ev_isi, ev_blt, ev_mth, ev_sub, ev_slc, ev_tup, ev_lst, ev_lc, ev_live, ev_srt, ev_srk, evs_nil, evs_cons, evx_nil, evx_cons, evO_none, evO_some, evB_one, evB_and, evB_or, evT_nil, evT_one, exs_nil, exs_cons, nxt_nx, nxt_rt, nxt_exc, ex_asg, ex_own, ex_par, ex_app, ex_exn, ex_sti, ex_sto, ex_aug, ex_exp, ex_ret, ex_ifs, ex_fors, ex_whl, ex_rse, ex_tri, ex_frz, cstD, Tg.put, Tg.puts, startD, wipeD, kept_int, kept_bl, kept_str, kept_non, kept_tup, kept_lst, kept_ext, kept_ref, kept_fn, kept_exc, cmp_eq_int, cmp_ne_int, cmp_lt_int, cmp_le_int, cmp_gt_int, cmp_ge_int, List.map_cons, List.map_nil, List.length_cons, List.length_nil, Nat.reduceAdd, Nat.reduceSub, Nat.reduceLeDiff, List.replicate, List.cons_append, List.nil_append, List.append_nil, List.getElem?_cons_zero, List.getElem?_cons_succ, List.getElem?_nil, List.set_cons_zero, List.set_cons_succ, List.all_cons, List.all_nil, nown, Bool.and_true, Bool.true_and, Bool.and_false, Bool.false_and, if_true, if_false, Bool.false_eq_true, Bool.not_true, Bool.not_false, reduceIte, len6, Int.cast_ofNat_Int, beq_self_eq_true, Int.reduceBEq, Int.reduceAdd, Int.reduceNeg, decide_true, decide_false, Int.reduceLT, Int.reduceLE, Int.reduceToNat, sub_t0, sub_t4, sub_t5, askD, is_none, isNon]
theorem keys_run {call : List D → Ev D} (h : ∀ b M, call [bkD b] M = .ok (keyD b) M) (M : Mem) : ∀ bs : List Bk, keysE call (bs.map bkD) M = .ok (bs.map keyD) M
  | [] => rfl
  | b :: bs => by
    rw [List.map_cons, List.map_cons, keysE]
    simp only [h b M, bind_ok, keys_run h M bs]
theorem key_alike (b c : Bk) : PySem.W.alike (toPy (keyD b)) (toPy (keyD c)) = true := by
  simp only [keyD, toPy, toPys, PySem.W.alike, PySem.W.alikeAll, Bool.and_self]
theorem pyOks_all {ds : List D} (h : ∀ d ∈ ds, pyOk d = true) : pyOks ds = true := by
  induction ds with
  | nil => rfl
  | cons d ds ih =>
    simp only [pyOks, Bool.and_eq_true]
    exact ⟨h d List.mem_cons_self, ih fun e he => h e (List.mem_cons_of_mem _ he)⟩
theorem deps_all {k : Nat} {ds : List D} (h : ∀ d ∈ ds, dep d ≤ k) : deps ds ≤ k := by
  induction ds with
  | nil => simp [deps]
  | cons d ds ih =>
    simp only [deps]
    exact Nat.max_le.mpr ⟨h d List.mem_cons_self, ih fun e he => h e (List.mem_cons_of_mem _ he)⟩
theorem keyT_name (b : Bk) : (keyT b).2.2 = b.name := by unfold keyT; split <;> rfl
theorem keys_ok (bs : List Bk) (hs : ∀ b ∈ bs, b.ok) : sortOk (bs.map keyD) = true := by
  unfold sortOk
  simp only [Bool.and_eq_true, decide_eq_true_eq]
  refine ⟨⟨⟨pyOks_all fun d hd => ?_, deps_all fun d hd => ?_⟩, ?_⟩, ?_⟩
  · obtain ⟨b, hb, rfl⟩ := List.mem_map.mp hd
    simp only [keyD, pyOk, pyOks, keyT_name, (hs b hb).1, Bool.and_self]
  · obtain ⟨b, hb, rfl⟩ := List.mem_map.mp hd
    simp [keyD, dep, deps]
  · unfold alikeD
    rw [toPys_map, List.all_eq_true]
    intro k hk
    rw [List.all_eq_true]
    intro k' hk'
    rw [List.map_map] at hk hk'
    obtain ⟨b, _, rfl⟩ := List.mem_map.mp hk
    obtain ⟨c, _, rfl⟩ := List.mem_map.mp hk'
    exact key_alike b c
  · unfold sortableD
    rw [Bool.or_eq_true]
    refine .inl ?_
    rw [List.all_eq_true]
    intro k hk
    obtain ⟨b, _, rfl⟩ := List.mem_map.mp hk
    rfl
theorem sortK_bk (bs : List Bk) : sortK (bs.map keyD) (bs.map bkD) = (inOrder bs).map bkD := by
  unfold sortK inOrder
  rw [List.zip_map']
  have e := List.map_mergeSort (r := leB) (s := leK) (f := fun b : Bk => (keyD b, bkD b)) (l := bs) fun a _ b _ => by
    show leB a b = !PySem.W.dataLt (toPy (keyD b)) (toPy (keyD a))
    rw [lt_key]; rfl
  rw [← e, List.map_map]
  rfl
theorem run_in_order {f fk : Nat} (hk : Has T fk 1 1 L_stay_key) (h : Has T f 1 1 (L_in_order fk)) (bs : List Bk) (hs : ∀ b ∈ bs, b.ok) (hl : bs.length ≤ 1000) : Cal T sub fuel 2 f [.lst (bs.map bkD)] (.lst ((inOrder bs).map bkD)) := by
  refine cal_of (k := 1) h rfl fun n hn M => ?_
  have e : srkE (callF T sub fuel n fk) (.lst (bs.map bkD)) M = .ok (.lst ((inOrder bs).map bkD)) M := by
    unfold srkE sview
    simp only [lview]
    rw [if_pos (big_le (by rw [List.length_map]; exact hl))]
    unfold calm
    rw [keys_run (fun b M => run_stay_key hk b n hn M) M bs]
    simp only [bind_ok]
    rw [if_pos (keys_ok bs hs), sortK_bk]
  unfold L_in_order
  simp only [ends_rt, ends_nx, ends_exc, bind_ok, bind_exc, ret_some, retB_some, retL_some, retE_some, ev_var, ev_cst, ev_gint, ev_gstr, ev_gfn, ev_bin, ev_neg, ev_not, ev_bop, ev_cmp, ev_chain, ev_ite, ev_call, ev_isi, ev_blt, ev_mth, ev_sub, ev_slc, ev_tup, ev_lst, ev_lc, ev_live, ev_srt, ev_srk, evs_nil, evs_cons, evx_nil, evx_cons, evO_none, evO_some, evB_one, evB_and, evB_or, evT_nil, evT_one, exs_nil, exs_cons, nxt_nx, nxt_rt, nxt_exc, ex_asg, ex_own, ex_par, ex_app, ex_exn, ex_sti, ex_sto, ex_aug, ex_exp, ex_ret, ex_ifs, ex_fors, ex_whl, ex_rse, ex_tri, ex_frz, cstD, Tg.put, Tg.puts, startD, wipeD, kept_int, kept_bl, kept_str, kept_non, kept_tup, kept_lst, kept_ext, kept_ref, kept_fn, kept_exc, cmp_eq_int, cmp_ne_int, cmp_lt_int, cmp_le_int, cmp_gt_int, cmp_ge_int, List.map_cons, List.map_nil, List.length_cons, List.length_nil, Nat.reduceAdd, Nat.reduceSub, Nat.reduceLeDiff, List.replicate, List.cons_append, List.nil_append, List.append_nil, List.getElem?_cons_zero, List.getElem?_cons_succ, List.getElem?_nil, List.set_cons_zero, List.set_cons_succ, List.all_cons, List.all_nil, nown, Bool.and_true, Bool.true_and, Bool.and_false, Bool.false_and, if_true, if_false, Bool.false_eq_true, Bool.not_true, Bool.not_false, reduceIte, len6, Int.cast_ofNat_Int, beq_self_eq_true, Int.reduceBEq, Int.reduceAdd, Int.reduceNeg, decide_true, decide_false, Int.reduceLT, Int.reduceLE, Int.reduceToNat, e]
end
end L2.Z
set_option Elab.async false
set_option linter.all false
set_option maxRecDepth 100000
set_option maxHeartbeats 1000000
set_option exponentiation.threshold 9000
/-! ### sums of numbers by portions; who stays -/
namespace L2.Z
open PySem
def signedQ (l : List (Int × Rat)) : Rat := l.foldl (fun s p => s + (p.1 : Rat) * p.2) 0
def numD (p : Int × Rat) : D := .tup [.int p.1, rd p.2]
theorem signed_step (s q : Rat) (n : Int) : mkRat (s.num * q.den + n * q.num * s.den) (s.den * q.den) = s + (n : Rat) * q := by
  rw [Rat.mkRat_eq_div]
  have e1 := rat_nd s
  have e2 := rat_nd q
  have n1 := den_ne s
  have n2 := den_ne q
  rw [Rat.intCast_add, Rat.intCast_mul, Rat.intCast_mul, Rat.intCast_mul, Rat.intCast_natCast, Rat.intCast_natCast, Rat.natCast_mul]
  generalize (s.num : Rat) = sn at *
  generalize (s.den : Rat) = sd at *
  generalize (q.num : Rat) = qn at *
  generalize (q.den : Rat) = qd at *
  subst e1 e2
  grind
def L_signed_sum (share : Nat) : List S := [
  .asg (.tp [(.nm 1 x0 p0), (.nm 2 x0 p0)] 0 p0) (.tup [(.cst (.int 0) 0 p0), (.cst (.int 1) 0 p0)] 0 p0) p0,
  .fors (.tp [(.nm 3 x0 p0), (.nm 4 x0 p0)] 0 p0) .one [(.var 0 x0 p0)] [.asg (.tp [(.nm 1 x0 p0), (.nm 2 x0 p0)] 0 p0) (.call share x0 p0 [(.bin .Add (.bin .Mult (.var 1 x0 p0) (.sub (.var 4 x0 p0) (.cst (.int 1) 0 p0) p0) p0) (.bin .Mult (.bin .Mult (.var 3 x0 p0) (.sub (.var 4 x0 p0) (.cst (.int 0) 0 p0) p0) p0) (.var 2 x0 p0) p0) p0), (.bin .Mult (.var 2 x0 p0) (.sub (.var 4 x0 p0) (.cst (.int 1) 0 p0) p0) p0)] p0) p0] p0,
  .ret (.tup [(.var 1 x0 p0), (.var 2 x0 p0)] 0 p0) p0]
section
variable {T : Nat → Option Fn} {sub : Nat → Nat → Bool} {fc fs : Nat}
theorem signed_loop (P : Port T fc fs) {D B N A : Nat} (hA : A < 2 ^ 500) (hz : (A * B * N + B + 1) * D < 2 ^ 2000) (xs : L2.Z.D) (n : Nat) (hn : 2 ≤ n) (M : Mem) : ∀ (l : List (Int × Rat)) (k : Nat) (s : Rat) (o3 o4 : Option L2.Z.D), Sz D (A * B * k) s → (∀ p ∈ l, Sz D B p.2 ∧ p.1.natAbs ≤ A) → k + l.length ≤ N →
    ∃ o3' o4', forW ⟨callF T sub FUEL n, sub, FUEL⟩ [some xs, some (.int s.num), some (.int s.den), o3, o4] M (.tp [(.nm 3 x0 p0), (.nm 4 x0 p0)] 0 p0) [.asg (.tp [(.nm 1 x0 p0), (.nm 2 x0 p0)] 0 p0) (.call fs x0 p0 [(.bin .Add (.bin .Mult (.var 1 x0 p0) (.sub (.var 4 x0 p0) (.cst (.int 1) 0 p0) p0) p0) (.bin .Mult (.bin .Mult (.var 3 x0 p0) (.sub (.var 4 x0 p0) (.cst (.int 0) 0 p0) p0) p0) (.var 2 x0 p0) p0) p0), (.bin .Mult (.var 2 x0 p0) (.sub (.var 4 x0 p0) (.cst (.int 1) 0 p0) p0) p0)] p0) p0] (l.map numD)
      = .ok (.nx [some xs, some (.int (l.foldl (fun s p => s + (p.1 : Rat) * p.2) s).num), some (.int (l.foldl (fun s p => s + (p.1 : Rat) * p.2) s).den), o3', o4']) M
  | [], k, s, o3, o4, _, _, _ => ⟨o3, o4, rfl⟩
  | p :: l, k, s, o3, o4, h, hl, hk => by
    have hk : k + (l.length + 1) ≤ N := hk
    obtain ⟨hq, ha⟩ := hl p List.mem_cons_self
    have le1 : A * B * k ≤ A * B * N := Nat.mul_le_mul_left _ (by omega)
    have t1 : Tame s := h.tame (Nat.lt_of_le_of_lt (Nat.mul_le_mul_right _ (by omega)) hz)
    have t2 : Tame p.2 := hq.tame (Nat.lt_of_le_of_lt (Nat.mul_le_mul_right _ (by omega)) hz)
    have hi : Sz 1 A (p.1 : Rat) := Sz.int (by decide) ha
    have hprod : Sz D (A * B) ((p.1 : Rat) * p.2) := by
      have := hi.mul hq
      rw [Nat.one_mul] at this
      exact this
    obtain ⟨o3', o4', ih⟩ := signed_loop P hA hz xs n hn M l (k + 1) (s + (p.1 : Rat) * p.2) (some (.int p.1)) (some (rd p.2)) (by rw [Nat.mul_add, Nat.mul_one]; exact h.add hprod) (fun q hq => hl q (List.mem_cons_of_mem _ hq)) (by omega)
    refine ⟨o3', o4', ?_⟩
    have e := run_share (sub := sub) P.c P.s (s.num * p.2.den + p.1 * p.2.num * s.den) (s.den * p.2.den) (Nat.mul_pos s.den_pos p.2.den_pos) (t1.dd t2) n hn M
    rw [Int.natCast_mul, signed_step] at e
    have b1 : p.1.natAbs < 2 ^ 100000 := Nat.lt_of_le_of_lt ha (Nat.lt_of_lt_of_le hA (pow_le' (by decide)))
    have b2 : (p.1 * p.2.num).natAbs < 2 ^ 100000 := by
      rw [Int.natAbs_mul]
      have h1 : p.1.natAbs * p.2.num.natAbs < 2 ^ 500 * 2 ^ 2000 := Nat.mul_lt_mul'' (Nat.lt_of_le_of_lt ha hA) t2.num
      rw [← Nat.pow_add] at h1
      exact Nat.lt_of_lt_of_le h1 (pow_le' (by decide))
    show forW _ _ _ _ _ (numD p :: l.map numD) = _
    rw [forW_cons]
    simp only [ends_rt, ends_nx, ends_exc, bind_ok, bind_exc, ret_some, retB_some, retL_some, retE_some, ev_var, ev_cst, ev_gint, ev_gstr, ev_gfn, ev_bin, ev_neg, ev_not, ev_bop, ev_cmp, ev_chain, ev_ite, ev_call, ev_isi, ev_blt, ev_mth, ev_sub, ev_slc, ev_tup, ev_lst, ev_lc, ev_live, ev_srt, ev_srk, evs_nil, evs_cons, evx_nil, evx_cons, evO_none, evO_some, evB_one, evB_and, evB_or, evT_nil, evT_one, exs_nil, exs_cons, nxt_nx, nxt_rt, nxt_exc, ex_asg, ex_own, ex_par, ex_app, ex_exn, ex_sti, ex_sto, ex_aug, ex_exp, ex_ret, ex_ifs, ex_fors, ex_whl, ex_rse, ex_tri, ex_frz, cstD, Tg.put, Tg.puts, startD, wipeD, kept_int, kept_bl, kept_str, kept_non, kept_tup, kept_lst, kept_ext, kept_ref, kept_fn, kept_exc, cmp_eq_int, cmp_ne_int, cmp_lt_int, cmp_le_int, cmp_gt_int, cmp_ge_int, List.map_cons, List.map_nil, List.length_cons, List.length_nil, Nat.reduceAdd, Nat.reduceSub, Nat.reduceLeDiff, List.replicate, List.cons_append, List.nil_append, List.append_nil, List.getElem?_cons_zero, List.getElem?_cons_succ, List.getElem?_nil, List.set_cons_zero, List.set_cons_succ, List.all_cons, List.all_nil, nown, Bool.and_true, Bool.true_and, Bool.and_false, Bool.false_and, if_true, if_false, Bool.false_eq_true, Bool.not_true, Bool.not_false, reduceIte, len6, Int.cast_ofNat_Int, beq_self_eq_true, Int.reduceBEq, Int.reduceAdd, Int.reduceNeg, decide_true, decide_false, Int.reduceLT, Int.reduceLE, Int.reduceToNat, numD, sub_rd0, sub_rd1, mul_int _ _ _ t1.n1 t2.d1, mul_int _ _ _ b1 t2.n1, mul_int _ _ _ b2 t1.d1, mul_int _ _ _ t1.d1 t2.d1, add_int, e, kept_rd, List.foldl_cons]
    simp only [ends_rt, ends_nx, ends_exc, bind_ok, bind_exc, ret_some, retB_some, retL_some, retE_some, ev_var, ev_cst, ev_gint, ev_gstr, ev_gfn, ev_bin, ev_neg, ev_not, ev_bop, ev_cmp, ev_chain, ev_ite, ev_call, ev_isi, ev_blt, ev_mth, ev_sub, ev_slc, ev_tup, ev_lst, ev_lc, ev_live, ev_srt, ev_srk, evs_nil, evs_cons, evx_nil, evx_cons, evO_none, evO_some, evB_one, evB_and, evB_or, evT_nil, evT_one, exs_nil, exs_cons, nxt_nx, nxt_rt, nxt_exc, ex_asg, ex_own, ex_par, ex_app, ex_exn, ex_sti, ex_sto, ex_aug, ex_exp, ex_ret, ex_ifs, ex_fors, ex_whl, ex_rse, ex_tri, ex_frz, cstD, Tg.put, Tg.puts, startD, wipeD, kept_int, kept_bl, kept_str, kept_non, kept_tup, kept_lst, kept_ext, kept_ref, kept_fn, kept_exc, cmp_eq_int, cmp_ne_int, cmp_lt_int, cmp_le_int, cmp_gt_int, cmp_ge_int, List.map_cons, List.map_nil, List.length_cons, List.length_nil, Nat.reduceAdd, Nat.reduceSub, Nat.reduceLeDiff, List.replicate, List.cons_append, List.nil_append, List.append_nil, List.getElem?_cons_zero, List.getElem?_cons_succ, List.getElem?_nil, List.set_cons_zero, List.set_cons_succ, List.all_cons, List.all_nil, nown, Bool.and_true, Bool.true_and, Bool.and_false, Bool.false_and, if_true, if_false, Bool.false_eq_true, Bool.not_true, Bool.not_false, reduceIte, len6, Int.cast_ofNat_Int, beq_self_eq_true, Int.reduceBEq, Int.reduceAdd, Int.reduceNeg, decide_true, decide_false, Int.reduceLT, Int.reduceLE, Int.reduceToNat, rd]
    exact ih
theorem run_signed_sum (P : Port T fc fs) {f : Nat} (h : Has T f 1 5 (L_signed_sum fs)) {D B A : Nat} {l : List (Int × Rat)} (hD : 0 < D) (hA : A < 2 ^ 500) (hl : ∀ p ∈ l, Sz D B p.2 ∧ p.1.natAbs ≤ A) (hz : (A * B * l.length + B + 1) * D < 2 ^ 2000) : Cal T sub FUEL 3 f [.lst (l.map numD)] (rd (signedQ l)) := by
  refine cal_of (k := 2) h rfl fun n hn M => ?_
  obtain ⟨o3, o4, e⟩ := signed_loop (sub := sub) P hA hz (.lst (l.map numD)) n hn M l 0 0 none none (Sz.zero _ hD) hl (by omega)
  unfold L_signed_sum
  simp only [ends_rt, ends_nx, ends_exc, bind_ok, bind_exc, ret_some, retB_some, retL_some, retE_some, ev_var, ev_cst, ev_gint, ev_gstr, ev_gfn, ev_bin, ev_neg, ev_not, ev_bop, ev_cmp, ev_chain, ev_ite, ev_call, ev_isi, ev_blt, ev_mth, ev_sub, ev_slc, ev_tup, ev_lst, ev_lc, ev_live, ev_srt, ev_srk, evs_nil, evs_cons, evx_nil, evx_cons, evO_none, evO_some, evB_one, evB_and, evB_or, evT_nil, evT_one, exs_nil, exs_cons, nxt_nx, nxt_rt, nxt_exc, ex_asg, ex_own, ex_par, ex_app, ex_exn, ex_sti, ex_sto, ex_aug, ex_exp, ex_ret, ex_ifs, ex_fors, ex_whl, ex_rse, ex_tri, ex_frz, cstD, Tg.put, Tg.puts, startD, wipeD, kept_int, kept_bl, kept_str, kept_non, kept_tup, kept_lst, kept_ext, kept_ref, kept_fn, kept_exc, cmp_eq_int, cmp_ne_int, cmp_lt_int, cmp_le_int, cmp_gt_int, cmp_ge_int, List.map_cons, List.map_nil, List.length_cons, List.length_nil, Nat.reduceAdd, Nat.reduceSub, Nat.reduceLeDiff, List.replicate, List.cons_append, List.nil_append, List.append_nil, List.getElem?_cons_zero, List.getElem?_cons_succ, List.getElem?_nil, List.set_cons_zero, List.set_cons_succ, List.all_cons, List.all_nil, nown, Bool.and_true, Bool.true_and, Bool.and_false, Bool.false_and, if_true, if_false, Bool.false_eq_true, Bool.not_true, Bool.not_false, reduceIte, len6, Int.cast_ofNat_Int, beq_self_eq_true, Int.reduceBEq, Int.reduceAdd, Int.reduceNeg, decide_true, decide_false, Int.reduceLT, Int.reduceLE, Int.reduceToNat, src_one_lst]
  rw [show ((0 : Rat).num) = 0 from rfl, show (((0 : Rat).den : Nat) : Int) = 1 from rfl] at e
  rw [e]
  simp only [ends_rt, ends_nx, ends_exc, bind_ok, bind_exc, ret_some, retB_some, retL_some, retE_some, ev_var, ev_cst, ev_gint, ev_gstr, ev_gfn, ev_bin, ev_neg, ev_not, ev_bop, ev_cmp, ev_chain, ev_ite, ev_call, ev_isi, ev_blt, ev_mth, ev_sub, ev_slc, ev_tup, ev_lst, ev_lc, ev_live, ev_srt, ev_srk, evs_nil, evs_cons, evx_nil, evx_cons, evO_none, evO_some, evB_one, evB_and, evB_or, evT_nil, evT_one, exs_nil, exs_cons, nxt_nx, nxt_rt, nxt_exc, ex_asg, ex_own, ex_par, ex_app, ex_exn, ex_sti, ex_sto, ex_aug, ex_exp, ex_ret, ex_ifs, ex_fors, ex_whl, ex_rse, ex_tri, ex_frz, cstD, Tg.put, Tg.puts, startD, wipeD, kept_int, kept_bl, kept_str, kept_non, kept_tup, kept_lst, kept_ext, kept_ref, kept_fn, kept_exc, cmp_eq_int, cmp_ne_int, cmp_lt_int, cmp_le_int, cmp_gt_int, cmp_ge_int, List.map_cons, List.map_nil, List.length_cons, List.length_nil, Nat.reduceAdd, Nat.reduceSub, Nat.reduceLeDiff, List.replicate, List.cons_append, List.nil_append, List.append_nil, List.getElem?_cons_zero, List.getElem?_cons_succ, List.getElem?_nil, List.set_cons_zero, List.set_cons_succ, List.all_cons, List.all_nil, nown, Bool.and_true, Bool.true_and, Bool.and_false, Bool.false_and, if_true, if_false, Bool.false_eq_true, Bool.not_true, Bool.not_false, reduceIte, len6, Int.cast_ofNat_Int, beq_self_eq_true, Int.reduceBEq, Int.reduceAdd, Int.reduceNeg, decide_true, decide_false, Int.reduceLT, Int.reduceLE, Int.reduceToNat]
  rfl
end
end L2.Z
set_option Elab.async false
set_option linter.all false
set_option maxRecDepth 100000
set_option maxHeartbeats 1000000
set_option exponentiation.threshold 9000
/-! ### who stays, by their chances -/
namespace L2.Z
open PySem
def staysQ (seats : Nat) : List Bk → List (Bk × Rat)
  | [] => []
  | b :: r => (b, b.ch * sumQ ((cntQ (r.map (·.ch))).drop seats)) :: staysQ seats r
def pairD (p : Bk × Rat) : D := .tup [bkD p.1, rd p.2]
theorem cntQ_len (cs : List Rat) : (cntQ cs).length = cs.length + 1 := by
  have : ∀ (cs f : List Rat), (cs.foldl stepQ f).length = f.length + cs.length := by
    intro cs
    induction cs with
    | nil => intro f; rfl
    | cons c cs ih => intro f; rw [List.foldl_cons, ih, stepQ_len, List.length_cons]; omega
  unfold cntQ
  rw [this]
  simp; omega
def L_stays_by (counted times total : Nat) : List S := [
  .own 2 x0 p0 (.lst [] p0) p0,
  .fors (.tp [(.nm 3 x0 p0), (.nm 4 x0 p0)] 0 p0) (.enm p0 p0) [(.var 0 x0 p0)] [.asg (.nm 5 x0 p0) (.call counted x0 p0 [(.lc (.sub (.var 7 x0 p0) (.cst (.int 3) 0 p0) p0) (.nm 7 x0 p0) .one [(.slc (.var 0 x0 p0) (some (.bin .Add (.var 3 x0 p0) (.cst (.int 1) 0 p0) p0)) none p0 p0)] [] sc0 [(x0, 6), (x0, 7)] p0)] p0) p0, .app 2 x0 p0 p0 (.tup [(.var 4 x0 p0), (.call times x0 p0 [(.sub (.var 4 x0 p0) (.cst (.int 3) 0 p0) p0), (.call total x0 p0 [(.slc (.var 5 x0 p0) (some (.var 1 x0 p0)) none p0 p0)] p0)] p0)] 0 p0) p0 p0] p0,
  .frz [2] (.ret (.var 2 x0 p0) p0)]
/-- the defs of portions -/
structure Ports (T : Nat → Option Fn) (fc fs fp ft fr fo fn : Nat) : Prop where
  p : Port T fc fs
  plus : Has T fp 2 2 (L_plus fs)
  times : Has T ft 2 2 (L_times fs)
  rest : Has T fr 1 1 L_rest
  total : Has T fo 1 3 (L_total fp)
  counted : Has T fn 1 7 (L_counted ft fr fp)
theorem enm_bk (bs : List Bk) (i : Nat) : ((bs.zipIdx i).map fun p => D.tup [.int (p.2 : Nat), bkD p.1]) = match bs with
  | [] => []
  | b :: r => .tup [.int (i : Nat), bkD b] :: ((r.zipIdx (i + 1)).map fun p => D.tup [.int (p.2 : Nat), bkD p.1]) := by
  cases bs <;> rfl
theorem enm_map {α : Type} (e : α → D) (l : List α) : enmD (l.map e) = (l.zipIdx 0).map fun p => .tup [.int (p.2 : Nat), e p.1] := by
  unfold enmD
  apply List.ext_getElem
  · simp
  · intro i h1 h2
    simp
section
variable {T : Nat → Option Fn} {sub : Nat → Nat → Bool} {fc fs fp ft fr fo fn : Nat}
theorem stay_one {D' : Nat} (hD' : 0 < D') {r : List Bk} (hc : ∀ b ∈ r, Un1 D' b.ch) (seats : Nat) : (∀ q ∈ (cntQ (r.map (·.ch))), Un1 (D' ^ r.length) q) → Sz (D' ^ r.length) (r.length + 1) (sumQ ((cntQ (r.map (·.ch))).drop seats)) := fun h => by
  have h1 := sumQ_sz (D := D' ^ r.length) (B := 1) (qs := (cntQ (r.map (·.ch))).drop seats) (Nat.pow_pos hD') fun q hq => (h q (List.mem_of_mem_drop hq)).sz
  rw [Nat.one_mul] at h1
  refine h1.mono ?_
  rw [List.length_drop, cntQ_len, List.length_map]
  omega
theorem stays_loop (P : Ports T fc fs fp ft fr fo fn) {D' : Nat} (hD' : 0 < D') (bs : List Bk) (hc : ∀ b ∈ bs, Un1 D' b.ch) (hz : (bs.length + 3) * D' ^ (bs.length + 1) < 2 ^ 1900) (hl : bs.length ≤ 60) (seats : Nat) (n : Nat) (hn : 4 ≤ n) (M : Mem) : ∀ (r pre : List Bk) (done : List L2.Z.D) (o3 o4 o5 : Option L2.Z.D), bs = pre ++ r → done.length = pre.length →
    ∃ o3' o4' o5', forW ⟨callF T sub FUEL n, sub, FUEL⟩ [some (.lst (bs.map bkD)), some (.int seats), some (.own done), o3, o4, o5, none, none] M (.tp [(.nm 3 x0 p0), (.nm 4 x0 p0)] 0 p0) [.asg (.nm 5 x0 p0) (.call fn x0 p0 [(.lc (.sub (.var 7 x0 p0) (.cst (.int 3) 0 p0) p0) (.nm 7 x0 p0) .one [(.slc (.var 0 x0 p0) (some (.bin .Add (.var 3 x0 p0) (.cst (.int 1) 0 p0) p0)) none p0 p0)] [] sc0 [(x0, 6), (x0, 7)] p0)] p0) p0, .app 2 x0 p0 p0 (.tup [(.var 4 x0 p0), (.call ft x0 p0 [(.sub (.var 4 x0 p0) (.cst (.int 3) 0 p0) p0), (.call fo x0 p0 [(.slc (.var 5 x0 p0) (some (.var 1 x0 p0)) none p0 p0)] p0)] p0)] 0 p0) p0 p0] ((r.zipIdx pre.length).map fun p => .tup [.int (p.2 : Nat), bkD p.1])
      = .ok (.nx [some (.lst (bs.map bkD)), some (.int seats), some (.own (done ++ (staysQ seats r).map pairD)), o3', o4', o5', none, none]) M
  | [], pre, done, o3, o4, o5, _, _ => ⟨o3, o4, o5, by simp [forW_nil, staysQ]⟩
  | b :: r, pre, done, o3, o4, o5, hb, hdl => by
    have hlen : bs.length = pre.length + (r.length + 1) := by rw [hb]; simp
    have hcr : ∀ c ∈ r.map (·.ch), Un1 D' c := fun c hc' => by
      obtain ⟨x, hx, rfl⟩ := List.mem_map.mp hc'
      exact hc x (by rw [hb]; simp [hx])
    have hpow : D' ^ r.length ≤ D' ^ (bs.length + 1) := Nat.pow_le_pow_right hD' (by omega)
    have big : (bs.length + 3) * D' ^ r.length < 2 ^ 1900 := Nat.lt_of_le_of_lt (Nat.mul_le_mul_left _ hpow) hz
    have le19 : (2 : Nat) ^ 1900 ≤ 2 ^ 2000 := pow_le' (by decide)
    obtain ⟨rc, ru⟩ := run_counted (sub := sub) P.p P.times P.rest P.plus P.counted hD' hcr (by
      rw [List.length_map]
      have : 2 * D' ^ r.length ≤ (bs.length + 3) * D' ^ r.length := Nat.mul_le_mul_right _ (by omega)
      omega) (by rw [List.length_map]; omega)
    rw [List.length_map] at ru
    have hs := stay_one hD' (fun x hx => hc x (by rw [hb]; simp [hx])) seats ru
    have rt := run_total (sub := sub) P.p P.plus P.total (D := D' ^ r.length) (B := 1) (qs := (cntQ (r.map (·.ch))).drop seats) (Nat.pow_pos hD') (fun q hq => (ru q (List.mem_of_mem_drop hq)).sz) (by
      rw [Nat.one_mul, List.length_drop, cntQ_len, List.length_map]
      have : (r.length + 1 - seats + 1) * D' ^ r.length ≤ (bs.length + 3) * D' ^ r.length := Nat.mul_le_mul_right _ (by omega)
      omega)
    have ub := hc b (by rw [hb]; simp)
    have hD1 : D' ≤ D' ^ (bs.length + 1) := by
      have : D' ^ 1 ≤ D' ^ (bs.length + 1) := Nat.pow_le_pow_right hD' (by omega)
      rwa [Nat.pow_one] at this
    have tb : Tame b.ch := ub.sz.tame (by
      have : (1 + 1) * D' ≤ (bs.length + 3) * D' ^ (bs.length + 1) := Nat.mul_le_mul (by omega) hD1
      omega)
    have ts : Tame (sumQ ((cntQ (r.map (·.ch))).drop seats)) := hs.tame (by
      have : (r.length + 1 + 1) * D' ^ r.length ≤ (bs.length + 3) * D' ^ r.length := Nat.mul_le_mul_right _ (by omega)
      omega)
    have rm := run_times (sub := sub) P.p P.times tb ts
    obtain ⟨o3', o4', o5', ih⟩ := stays_loop P hD' bs hc hz hl seats n hn M r (pre ++ [b]) (done ++ [pairD (b, b.ch * sumQ ((cntQ (r.map (·.ch))).drop seats))]) (some (.int (pre.length : Nat))) (some (bkD b)) (some (.lst (rds (cntQ (r.map (·.ch)))))) (by rw [hb]; simp) (by simp [hdl])
    refine ⟨o3', o4', o5', ?_⟩
    have e1 : ((pre.length : Nat) : Int) + 1 = ((pre.length + 1 : Nat) : Int) := by omega
    have ecut : cutD (bs.map bkD) (some ((pre.length + 1 : Nat) : Int)) none = r.map bkD := by
      rw [cut_from, ← List.map_drop, hb]
      congr 1
      rw [show pre ++ b :: r = (pre ++ [b]) ++ r by simp, List.drop_left' (by simp)]
    have ecut2 : cutD (rds (cntQ (r.map (·.ch)))) (some (seats : Int)) none = rds ((cntQ (r.map (·.ch))).drop seats) := by
      rw [cut_from]; unfold rds; rw [List.map_drop]
    have lc : ∀ M, lcW ⟨callF T sub FUEL n, sub, FUEL⟩ [some (.lst (bs.map bkD)), some (.int seats), some (.own done), some (.int (pre.length : Nat)), some (bkD b), o5, none, none] M (.sub (.var 7 x0 p0) (.cst (.int 3) 0 p0) p0) (.nm 7 x0 p0) [] [6, 7] (r.map bkD) = .ok (rds (r.map (·.ch))) M := fun M => by
      have := lcW_mapE (C := ⟨callF T sub FUEL n, sub, FUEL⟩) (r := [some (.lst (bs.map bkD)), some (.int seats), some (.own done), some (.int (pre.length : Nat)), some (bkD b), o5, none, none]) (M := M) (elt := .sub (.var 7 x0 p0) (.cst (.int 3) 0 p0) p0) (tg := .nm 7 x0 p0) (ifs := []) (own := [6, 7]) bkD (fun x => rd x.ch) r fun x _ => ⟨_, rfl, by rw [evT_nil], by simp only [ends_rt, ends_nx, ends_exc, bind_ok, bind_exc, ret_some, retB_some, retL_some, retE_some, ev_var, ev_cst, ev_gint, ev_gstr, ev_gfn, ev_bin, ev_neg, ev_not, ev_bop, ev_cmp, ev_chain, ev_ite, ev_call, ev_isi, ev_blt, ev_mth, ev_sub, ev_slc, ev_tup, ev_lst, ev_lc, ev_live, ev_srt, ev_srk, evs_nil, evs_cons, evx_nil, evx_cons, evO_none, evO_some, evB_one, evB_and, evB_or, evT_nil, evT_one, exs_nil, exs_cons, nxt_nx, nxt_rt, nxt_exc, ex_asg, ex_own, ex_par, ex_app, ex_exn, ex_sti, ex_sto, ex_aug, ex_exp, ex_ret, ex_ifs, ex_fors, ex_whl, ex_rse, ex_tri, ex_frz, cstD, Tg.put, Tg.puts, startD, wipeD, kept_int, kept_bl, kept_str, kept_non, kept_tup, kept_lst, kept_ext, kept_ref, kept_fn, kept_exc, cmp_eq_int, cmp_ne_int, cmp_lt_int, cmp_le_int, cmp_gt_int, cmp_ge_int, List.map_cons, List.map_nil, List.length_cons, List.length_nil, Nat.reduceAdd, Nat.reduceSub, Nat.reduceLeDiff, List.replicate, List.cons_append, List.nil_append, List.append_nil, List.getElem?_cons_zero, List.getElem?_cons_succ, List.getElem?_nil, List.set_cons_zero, List.set_cons_succ, List.all_cons, List.all_nil, nown, Bool.and_true, Bool.true_and, Bool.and_false, Bool.false_and, if_true, if_false, Bool.false_eq_true, Bool.not_true, Bool.not_false, reduceIte, len6, Int.cast_ofNat_Int, beq_self_eq_true, Int.reduceBEq, Int.reduceAdd, Int.reduceNeg, decide_true, decide_false, Int.reduceLT, Int.reduceLE, Int.reduceToNat, bkD, sub_t3], rfl⟩
      rw [this]
      simp [rds]
    have bl : (rds (r.map (·.ch))).length ≤ sizeLine := big_le (by rw [rds_len, List.length_map]; omega)
    have dl : done.length < sizeLine := Nat.lt_of_lt_of_le (by omega : done.length < 1000) (by decide)
    have kb : ∀ M, kept (bkD b) M = .ok (bkD b) M := fun _ => rfl
    have s3 : ∀ M, subD M (bkD b) (.int 3) = some (rd b.ch) := fun M => sub_t3 M _ _ _ _ _
    rw [List.zipIdx_cons, List.map_cons, forW_cons]
    simp only [ends_rt, ends_nx, ends_exc, bind_ok, bind_exc, ret_some, retB_some, retL_some, retE_some, ev_var, ev_cst, ev_gint, ev_gstr, ev_gfn, ev_bin, ev_neg, ev_not, ev_bop, ev_cmp, ev_chain, ev_ite, ev_call, ev_isi, ev_blt, ev_mth, ev_sub, ev_slc, ev_tup, ev_lst, ev_lc, ev_live, ev_srt, ev_srk, evs_nil, evs_cons, evx_nil, evx_cons, evO_none, evO_some, evB_one, evB_and, evB_or, evT_nil, evT_one, exs_nil, exs_cons, nxt_nx, nxt_rt, nxt_exc, ex_asg, ex_own, ex_par, ex_app, ex_exn, ex_sti, ex_sto, ex_aug, ex_exp, ex_ret, ex_ifs, ex_fors, ex_whl, ex_rse, ex_tri, ex_frz, cstD, Tg.put, Tg.puts, startD, wipeD, kept_int, kept_bl, kept_str, kept_non, kept_tup, kept_lst, kept_ext, kept_ref, kept_fn, kept_exc, cmp_eq_int, cmp_ne_int, cmp_lt_int, cmp_le_int, cmp_gt_int, cmp_ge_int, List.map_cons, List.map_nil, List.length_cons, List.length_nil, Nat.reduceAdd, Nat.reduceSub, Nat.reduceLeDiff, List.replicate, List.cons_append, List.nil_append, List.append_nil, List.getElem?_cons_zero, List.getElem?_cons_succ, List.getElem?_nil, List.set_cons_zero, List.set_cons_succ, List.all_cons, List.all_nil, nown, Bool.and_true, Bool.true_and, Bool.and_false, Bool.false_and, if_true, if_false, Bool.false_eq_true, Bool.not_true, Bool.not_false, reduceIte, len6, Int.cast_ofNat_Int, beq_self_eq_true, Int.reduceBEq, Int.reduceAdd, Int.reduceNeg, decide_true, decide_false, Int.reduceLT, Int.reduceLE, Int.reduceToNat, add_int, e1, slc_lst, ecut, src_one_lst, lc, bl, rc n hn, s3, kb, ecut2, rt n hn, rm n (by omega), kept_rd, dl]
    rw [show pre.length + 1 = (pre ++ [b]).length by simp]
    have e9 : done ++ [D.tup [bkD b, rd (b.ch * sumQ ((cntQ (r.map (·.ch))).drop seats))]] = done ++ [pairD (b, b.ch * sumQ ((cntQ (r.map (·.ch))).drop seats))] := rfl
    rw [e9, ih]
    simp [staysQ]
theorem run_stays_by (P : Ports T fc fs fp ft fr fo fn) {f : Nat} (h : Has T f 2 8 (L_stays_by fn ft fo)) {D' : Nat} (hD' : 0 < D') (bs : List Bk) (hc : ∀ b ∈ bs, Un1 D' b.ch) (hz : (bs.length + 3) * D' ^ (bs.length + 1) < 2 ^ 1900) (hl : bs.length ≤ 60) (seats : Nat) :
    Cal T sub FUEL 5 f [.lst (bs.map bkD), .int seats] (.lst ((staysQ seats bs).map pairD)) := by
  refine cal_of (k := 4) h rfl fun n hn M => ?_
  obtain ⟨o3, o4, o5, e⟩ := stays_loop (sub := sub) P hD' bs hc hz hl seats n hn M bs [] [] none none none rfl rfl
  unfold L_stays_by
  simp only [ends_rt, ends_nx, ends_exc, bind_ok, bind_exc, ret_some, retB_some, retL_some, retE_some, ev_var, ev_cst, ev_gint, ev_gstr, ev_gfn, ev_bin, ev_neg, ev_not, ev_bop, ev_cmp, ev_chain, ev_ite, ev_call, ev_isi, ev_blt, ev_mth, ev_sub, ev_slc, ev_tup, ev_lst, ev_lc, ev_live, ev_srt, ev_srk, evs_nil, evs_cons, evx_nil, evx_cons, evO_none, evO_some, evB_one, evB_and, evB_or, evT_nil, evT_one, exs_nil, exs_cons, nxt_nx, nxt_rt, nxt_exc, ex_asg, ex_own, ex_par, ex_app, ex_exn, ex_sti, ex_sto, ex_aug, ex_exp, ex_ret, ex_ifs, ex_fors, ex_whl, ex_rse, ex_tri, ex_frz, cstD, Tg.put, Tg.puts, startD, wipeD, kept_int, kept_bl, kept_str, kept_non, kept_tup, kept_lst, kept_ext, kept_ref, kept_fn, kept_exc, cmp_eq_int, cmp_ne_int, cmp_lt_int, cmp_le_int, cmp_gt_int, cmp_ge_int, List.map_cons, List.map_nil, List.length_cons, List.length_nil, Nat.reduceAdd, Nat.reduceSub, Nat.reduceLeDiff, List.replicate, List.cons_append, List.nil_append, List.append_nil, List.getElem?_cons_zero, List.getElem?_cons_succ, List.getElem?_nil, List.set_cons_zero, List.set_cons_succ, List.all_cons, List.all_nil, nown, Bool.and_true, Bool.true_and, Bool.and_false, Bool.false_and, if_true, if_false, Bool.false_eq_true, Bool.not_true, Bool.not_false, reduceIte, len6, Int.cast_ofNat_Int, beq_self_eq_true, Int.reduceBEq, Int.reduceAdd, Int.reduceNeg, decide_true, decide_false, Int.reduceLT, Int.reduceLE, Int.reduceToNat, isNew, srcD, litems, Option.map_some, enm_map]
  rw [show ([] : List Bk).length = 0 from rfl] at e
  rw [e]
  simp only [ends_rt, ends_nx, ends_exc, bind_ok, bind_exc, ret_some, retB_some, retL_some, retE_some, ev_var, ev_cst, ev_gint, ev_gstr, ev_gfn, ev_bin, ev_neg, ev_not, ev_bop, ev_cmp, ev_chain, ev_ite, ev_call, ev_isi, ev_blt, ev_mth, ev_sub, ev_slc, ev_tup, ev_lst, ev_lc, ev_live, ev_srt, ev_srk, evs_nil, evs_cons, evx_nil, evx_cons, evO_none, evO_some, evB_one, evB_and, evB_or, evT_nil, evT_one, exs_nil, exs_cons, nxt_nx, nxt_rt, nxt_exc, ex_asg, ex_own, ex_par, ex_app, ex_exn, ex_sti, ex_sto, ex_aug, ex_exp, ex_ret, ex_ifs, ex_fors, ex_whl, ex_rse, ex_tri, ex_frz, cstD, Tg.put, Tg.puts, startD, wipeD, kept_int, kept_bl, kept_str, kept_non, kept_tup, kept_lst, kept_ext, kept_ref, kept_fn, kept_exc, cmp_eq_int, cmp_ne_int, cmp_lt_int, cmp_le_int, cmp_gt_int, cmp_ge_int, List.map_cons, List.map_nil, List.length_cons, List.length_nil, Nat.reduceAdd, Nat.reduceSub, Nat.reduceLeDiff, List.replicate, List.cons_append, List.nil_append, List.append_nil, List.getElem?_cons_zero, List.getElem?_cons_succ, List.getElem?_nil, List.set_cons_zero, List.set_cons_succ, List.all_cons, List.all_nil, nown, Bool.and_true, Bool.true_and, Bool.and_false, Bool.false_and, if_true, if_false, Bool.false_eq_true, Bool.not_true, Bool.not_false, reduceIte, len6, Int.cast_ofNat_Int, beq_self_eq_true, Int.reduceBEq, Int.reduceAdd, Int.reduceNeg, decide_true, decide_false, Int.reduceLT, Int.reduceLE, Int.reduceToNat, fzs]
end
end L2.Z
set_option Elab.async false
set_option linter.all false
set_option maxRecDepth 100000
set_option maxHeartbeats 1000000
set_option exponentiation.threshold 9000
/-! ### what willing ones are paid at the mean, by their own asks -/
namespace L2.Z
open PySem
def askQ (b : Bk) : Rat := match b.ask with
  | some a => (a : Rat)
  | none => 0
def meanOwnQ (seats : Nat) (bs : List Bk) : Rat := sumQ (((staysQ seats bs).filter fun p => p.1.ask.isSome).map fun p => p.2 * askQ p.1)
theorem rd_int (a : Int) : rd (a : Rat) = .tup [.int a, .int 1] := rfl
theorem isnot_none (M : Mem) (d : D) : cmpD .IsNot M d .non = some (!isNon d) := rfl
theorem isNon_ask (o : Option Int) : isNon (askD o) = !o.isSome := by cases o <;> rfl
theorem staysQ_len (seats : Nat) : ∀ bs : List Bk, (staysQ seats bs).length = bs.length
  | [] => rfl
  | b :: r => by rw [staysQ, List.length_cons, List.length_cons, staysQ_len seats r]
def L_mean_own (stays total times : Nat) : List S := [
  .asg (.nm 2 x0 p0) (.call stays x0 p0 [(.var 0 x0 p0), (.var 1 x0 p0)] p0) p0,
  .ret (.call total x0 p0 [(.lc (.call times x0 p0 [(.var 5 x0 p0), (.tup [(.sub (.var 4 x0 p0) (.cst (.int 5) 0 p0) p0), (.cst (.int 1) 0 p0)] 0 p0)] p0) (.tp [(.nm 4 x0 p0), (.nm 5 x0 p0)] 0 p0) .one [(.var 2 x0 p0)] [(.cmp .IsNot (.sub (.var 4 x0 p0) (.cst (.int 5) 0 p0) p0) (.cst .none 0 p0) p0)] sc0 [(x0, 3), (x0, 4), (x0, 5)] p0)] p0) p0]
section
variable {T : Nat → Option Fn} {sub : Nat → Nat → Bool} {fc fs fp ft fr fo fn : Nat}
/-- what all of them come to: how great -/
theorem cnt_un {D' : Nat} (hD' : 0 < D') : ∀ (cs f : List Rat) (D : Nat), 0 < D → (∀ c ∈ cs, Un1 D' c) → (∀ q ∈ f, Un1 D q) → ∀ q ∈ cs.foldl stepQ f, Un1 (D * D' ^ cs.length) q
  | [], f, D, _, _, hf => by simpa using hf
  | c :: cs, f, D, hD, hc, hf => by
    have := cnt_un hD' cs (stepQ f c) (D * D') (Nat.mul_pos hD hD') (fun c hc' => hc c (List.mem_cons_of_mem _ hc')) (stepQ_un hD hf (hc c List.mem_cons_self))
    rw [List.foldl_cons, List.length_cons, Nat.pow_succ, Nat.mul_comm (D' ^ cs.length) D', ← Nat.mul_assoc]
    exact this
theorem cntQ_un {D' : Nat} (hD' : 0 < D') {cs : List Rat} (hc : ∀ c ∈ cs, Un1 D' c) : ∀ q ∈ cntQ cs, Un1 (D' ^ cs.length) q := by
  have := cnt_un hD' cs [1] 1 (by decide) hc (fun q hq => by
    have : q = 1 := by simpa using hq
    rw [this]; exact Un1.one (by decide))
  rw [Nat.one_mul] at this
  exact this
theorem staysQ_sz {D' : Nat} (hD' : 0 < D') (seats N : Nat) : ∀ (bs : List Bk), (∀ b ∈ bs, Un1 D' b.ch) → bs.length ≤ N → ∀ p ∈ staysQ seats bs, Sz (D' ^ N) N p.2 ∧ p.1 ∈ bs
  | [], _, _, p, hp => by cases hp
  | b :: r, hc, hN, p, hp => by
    have hN : r.length + 1 ≤ N := hN
    rcases List.mem_cons.mp hp with e | hp
    · subst e
      refine ⟨?_, List.mem_cons_self⟩
      have ru := cntQ_un hD' (cs := r.map (·.ch)) fun c hc' => by
        obtain ⟨x, hx, rfl⟩ := List.mem_map.mp hc'
        exact hc x (List.mem_cons_of_mem _ hx)
      rw [List.length_map] at ru
      have hs := stay_one hD' (fun x hx => hc x (List.mem_cons_of_mem _ hx)) seats ru
      have h2 := (hc b List.mem_cons_self).sz.mul hs
      rw [Nat.one_mul, Nat.mul_comm D', ← Nat.pow_succ] at h2
      exact (h2.up (Nat.pow_dvd_pow _ hN) (Nat.pow_pos hD')).mono hN
    · obtain ⟨h1, h2⟩ := staysQ_sz hD' seats N r (fun b hb => hc b (List.mem_cons_of_mem _ hb)) (by omega) p hp
      exact ⟨h1, List.mem_cons_of_mem _ h2⟩
theorem run_mean_own (P : Ports T fc fs fp ft fr fo fn) {f fy : Nat} (hy : Has T fy 2 8 (L_stays_by fn ft fo)) (h : Has T f 2 6 (L_mean_own fy fo ft)) {D' A : Nat} (hD' : 0 < D') (bs : List Bk) (hc : ∀ b ∈ bs, Un1 D' b.ch) (ha : ∀ b ∈ bs, ∀ a, b.ask = some a → a.natAbs ≤ A) (hA : A < 2 ^ 100)
    (hz : D' ^ (bs.length + 1) < 2 ^ 1700) (hl : bs.length ≤ 60) (seats : Nat) : Cal T sub FUEL 6 f [.lst (bs.map bkD), .int seats] (rd (meanOwnQ seats bs)) := by
  refine cal_of (k := 5) h rfl fun n hn M => ?_
  have hz1 : (bs.length + 3) * D' ^ (bs.length + 1) < 2 ^ 1900 := by
    have h1 : (bs.length + 3) * D' ^ (bs.length + 1) < 2 ^ 100 * 2 ^ 1700 := Nat.mul_lt_mul'' (Nat.lt_of_le_of_lt (by omega : bs.length + 3 ≤ 63) (by decide)) hz
    rw [← Nat.pow_add] at h1
    exact Nat.lt_of_lt_of_le h1 (pow_le' (by decide))
  have hle : D' ^ bs.length ≤ D' ^ (bs.length + 1) := Nat.pow_le_pow_right hD' (by omega)
  have ry := run_stays_by (sub := sub) P hy hD' bs hc hz1 hl seats n hn
  have sz := staysQ_sz hD' seats bs.length bs hc (Nat.le_refl _)
  have szq : ∀ p ∈ staysQ seats bs, Sz 1 A (askQ p.1) := fun p hp => by
    unfold askQ
    split
    · rename_i a hq
      exact Sz.int (by decide) (ha p.1 (sz p hp).2 a hq)
    · exact Sz.zero _ (by decide)
  have fin : ∀ p ∈ staysQ seats bs, Sz (D' ^ bs.length) (bs.length * A) (p.2 * askQ p.1) := fun p hp => by
    have := (sz p hp).1.mul (szq p hp)
    rwa [Nat.mul_one] at this
  have bd : ∀ k : Nat, k ≤ 2 ^ 200 → k * D' ^ bs.length < 2 ^ 2000 := fun k hk => by
    have h1 : k * D' ^ bs.length ≤ 2 ^ 200 * D' ^ (bs.length + 1) := Nat.mul_le_mul hk hle
    have h2 : 2 ^ 200 * D' ^ (bs.length + 1) < 2 ^ 200 * 2 ^ 1700 := Nat.mul_lt_mul_of_pos_left hz (by decide)
    rw [← Nat.pow_add] at h2
    exact Nat.lt_of_le_of_lt h1 (Nat.lt_of_lt_of_le h2 (pow_le' (by decide)))
  have A2 : (2 : Nat) ^ 100 ≤ 2 ^ 150 := pow_le' (by decide)
  have bA : bs.length * A ≤ 2 ^ 150 := by
    have h1 : bs.length * A ≤ 2 ^ 6 * 2 ^ 100 := Nat.mul_le_mul (by omega) (Nat.le_of_lt hA)
    rw [← Nat.pow_add] at h1
    exact Nat.le_trans h1 (pow_le' (by decide))
  have e150 : (2 : Nat) ^ 150 + 1 ≤ 2 ^ 200 := by decide
  have lc : ∀ M, lcW ⟨callF T sub FUEL n, sub, FUEL⟩ [some (.lst (bs.map bkD)), some (.int seats), some (.lst ((staysQ seats bs).map pairD)), none, none, none] M (.call ft x0 p0 [(.var 5 x0 p0), (.tup [(.sub (.var 4 x0 p0) (.cst (.int 5) 0 p0) p0), (.cst (.int 1) 0 p0)] 0 p0)] p0) (.tp [(.nm 4 x0 p0), (.nm 5 x0 p0)] 0 p0) [(.cmp .IsNot (.sub (.var 4 x0 p0) (.cst (.int 5) 0 p0) p0) (.cst .none 0 p0) p0)] [3, 4, 5] ((staysQ seats bs).map pairD)
      = .ok (rds (((staysQ seats bs).filter fun p => p.1.ask.isSome).map fun p => p.2 * askQ p.1)) M := fun M => by
    have := lcW_filtE (C := ⟨callF T sub FUEL n, sub, FUEL⟩) (r := [some (.lst (bs.map bkD)), some (.int seats), some (.lst ((staysQ seats bs).map pairD)), none, none, none]) (M := M) (elt := .call ft x0 p0 [(.var 5 x0 p0), (.tup [(.sub (.var 4 x0 p0) (.cst (.int 5) 0 p0) p0), (.cst (.int 1) 0 p0)] 0 p0)] p0) (tg := .tp [(.nm 4 x0 p0), (.nm 5 x0 p0)] 0 p0) (ifs := [(.cmp .IsNot (.sub (.var 4 x0 p0) (.cst (.int 5) 0 p0) p0) (.cst .none 0 p0) p0)]) (own := [3, 4, 5]) pairD (fun p => rd (p.2 * askQ p.1)) (fun p => p.1.ask.isSome) (staysQ seats bs) fun p hp => by
      have s5 : ∀ M, subD M (bkD p.1) (.int 5) = some (askD p.1.ask) := fun M => sub_t5 M _ _ _ _ _ _ _
      refine ⟨_, rfl, ?_, fun hs => ⟨?_, rfl⟩⟩
      · simp only [ends_rt, ends_nx, ends_exc, bind_ok, bind_exc, ret_some, retB_some, retL_some, retE_some, ev_var, ev_cst, ev_gint, ev_gstr, ev_gfn, ev_bin, ev_neg, ev_not, ev_bop, ev_cmp, ev_chain, ev_ite, ev_call, ev_isi, ev_blt, ev_mth, ev_sub, ev_slc, ev_tup, ev_lst, ev_lc, ev_live, ev_srt, ev_srk, evs_nil, evs_cons, evx_nil, evx_cons, evO_none, evO_some, evB_one, evB_and, evB_or, evT_nil, evT_one, exs_nil, exs_cons, nxt_nx, nxt_rt, nxt_exc, ex_asg, ex_own, ex_par, ex_app, ex_exn, ex_sti, ex_sto, ex_aug, ex_exp, ex_ret, ex_ifs, ex_fors, ex_whl, ex_rse, ex_tri, ex_frz, cstD, Tg.put, Tg.puts, startD, wipeD, kept_int, kept_bl, kept_str, kept_non, kept_tup, kept_lst, kept_ext, kept_ref, kept_fn, kept_exc, cmp_eq_int, cmp_ne_int, cmp_lt_int, cmp_le_int, cmp_gt_int, cmp_ge_int, List.map_cons, List.map_nil, List.length_cons, List.length_nil, Nat.reduceAdd, Nat.reduceSub, Nat.reduceLeDiff, List.replicate, List.cons_append, List.nil_append, List.append_nil, List.getElem?_cons_zero, List.getElem?_cons_succ, List.getElem?_nil, List.set_cons_zero, List.set_cons_succ, List.all_cons, List.all_nil, nown, Bool.and_true, Bool.true_and, Bool.and_false, Bool.false_and, if_true, if_false, Bool.false_eq_true, Bool.not_true, Bool.not_false, reduceIte, len6, Int.cast_ofNat_Int, beq_self_eq_true, Int.reduceBEq, Int.reduceAdd, Int.reduceNeg, decide_true, decide_false, Int.reduceLT, Int.reduceLE, Int.reduceToNat, pairD, s5, isnot_none, isNon_ask, Bool.not_not]
      · obtain ⟨a, hq⟩ := Option.isSome_iff_exists.mp hs
        have eq1 : askQ p.1 = (a : Rat) := by unfold askQ; rw [hq]
        have t1 : Tame p.2 := (sz p hp).1.tame (bd _ (by have : bs.length + 1 ≤ 2 ^ 150 := Nat.le_trans (by omega : bs.length + 1 ≤ 61) (by decide); omega))
        have t2 : Tame (a : Rat) := by
          have := szq p hp
          rw [eq1] at this
          exact this.tame (by
            have : (A + 1) * 1 < 2 ^ 200 := by have : (2 : Nat) ^ 150 < 2 ^ 200 := by decide
                                               omega
            exact Nat.lt_of_lt_of_le this (pow_le' (by decide)))
        simp only [ends_rt, ends_nx, ends_exc, bind_ok, bind_exc, ret_some, retB_some, retL_some, retE_some, ev_var, ev_cst, ev_gint, ev_gstr, ev_gfn, ev_bin, ev_neg, ev_not, ev_bop, ev_cmp, ev_chain, ev_ite, ev_call, ev_isi, ev_blt, ev_mth, ev_sub, ev_slc, ev_tup, ev_lst, ev_lc, ev_live, ev_srt, ev_srk, evs_nil, evs_cons, evx_nil, evx_cons, evO_none, evO_some, evB_one, evB_and, evB_or, evT_nil, evT_one, exs_nil, exs_cons, nxt_nx, nxt_rt, nxt_exc, ex_asg, ex_own, ex_par, ex_app, ex_exn, ex_sti, ex_sto, ex_aug, ex_exp, ex_ret, ex_ifs, ex_fors, ex_whl, ex_rse, ex_tri, ex_frz, cstD, Tg.put, Tg.puts, startD, wipeD, kept_int, kept_bl, kept_str, kept_non, kept_tup, kept_lst, kept_ext, kept_ref, kept_fn, kept_exc, cmp_eq_int, cmp_ne_int, cmp_lt_int, cmp_le_int, cmp_gt_int, cmp_ge_int, List.map_cons, List.map_nil, List.length_cons, List.length_nil, Nat.reduceAdd, Nat.reduceSub, Nat.reduceLeDiff, List.replicate, List.cons_append, List.nil_append, List.append_nil, List.getElem?_cons_zero, List.getElem?_cons_succ, List.getElem?_nil, List.set_cons_zero, List.set_cons_succ, List.all_cons, List.all_nil, nown, Bool.and_true, Bool.true_and, Bool.and_false, Bool.false_and, if_true, if_false, Bool.false_eq_true, Bool.not_true, Bool.not_false, reduceIte, len6, Int.cast_ofNat_Int, beq_self_eq_true, Int.reduceBEq, Int.reduceAdd, Int.reduceNeg, decide_true, decide_false, Int.reduceLT, Int.reduceLE, Int.reduceToNat, pairD, s5, hq, askD, ← rd_int, kept_rd, run_times P.p P.times t1 t2 n (by omega), eq1]
    rw [this]
    simp [rds]
  have rt := run_total (sub := sub) P.p P.plus P.total (D := D' ^ bs.length) (B := bs.length * A) (qs := ((staysQ seats bs).filter fun p => p.1.ask.isSome).map fun p => p.2 * askQ p.1) (Nat.pow_pos hD') (fun q hq => by
    obtain ⟨p, hp, rfl⟩ := List.mem_map.mp hq
    exact fin p (List.mem_filter.mp hp).1) (bd _ (by
    have h1 : ((((staysQ seats bs).filter fun p => p.1.ask.isSome).map fun p => p.2 * askQ p.1)).length ≤ 60 := by
      rw [List.length_map]
      have := List.length_filter_le (fun p : Bk × Rat => p.1.ask.isSome) (staysQ seats bs)
      rw [staysQ_len] at this
      omega
    have h2 : bs.length * A * ((((staysQ seats bs).filter fun p => p.1.ask.isSome).map fun p => p.2 * askQ p.1)).length ≤ 2 ^ 150 * 2 ^ 6 := Nat.mul_le_mul bA (Nat.le_trans h1 (by decide))
    rw [← Nat.pow_add] at h2
    have h3 : (2 : Nat) ^ (150 + 6) + 1 ≤ 2 ^ 200 := by decide
    omega))
  have bl : (rds (((staysQ seats bs).filter fun p => p.1.ask.isSome).map fun p => p.2 * askQ p.1)).length ≤ sizeLine := big_le (by
    rw [rds_len, List.length_map]
    have := List.length_filter_le (fun p : Bk × Rat => p.1.ask.isSome) (staysQ seats bs)
    rw [staysQ_len] at this
    omega)
  unfold L_mean_own meanOwnQ
  simp only [ends_rt, ends_nx, ends_exc, bind_ok, bind_exc, ret_some, retB_some, retL_some, retE_some, ev_var, ev_cst, ev_gint, ev_gstr, ev_gfn, ev_bin, ev_neg, ev_not, ev_bop, ev_cmp, ev_chain, ev_ite, ev_call, ev_isi, ev_blt, ev_mth, ev_sub, ev_slc, ev_tup, ev_lst, ev_lc, ev_live, ev_srt, ev_srk, evs_nil, evs_cons, evx_nil, evx_cons, evO_none, evO_some, evB_one, evB_and, evB_or, evT_nil, evT_one, exs_nil, exs_cons, nxt_nx, nxt_rt, nxt_exc, ex_asg, ex_own, ex_par, ex_app, ex_exn, ex_sti, ex_sto, ex_aug, ex_exp, ex_ret, ex_ifs, ex_fors, ex_whl, ex_rse, ex_tri, ex_frz, cstD, Tg.put, Tg.puts, startD, wipeD, kept_int, kept_bl, kept_str, kept_non, kept_tup, kept_lst, kept_ext, kept_ref, kept_fn, kept_exc, cmp_eq_int, cmp_ne_int, cmp_lt_int, cmp_le_int, cmp_gt_int, cmp_ge_int, List.map_cons, List.map_nil, List.length_cons, List.length_nil, Nat.reduceAdd, Nat.reduceSub, Nat.reduceLeDiff, List.replicate, List.cons_append, List.nil_append, List.append_nil, List.getElem?_cons_zero, List.getElem?_cons_succ, List.getElem?_nil, List.set_cons_zero, List.set_cons_succ, List.all_cons, List.all_nil, nown, Bool.and_true, Bool.true_and, Bool.and_false, Bool.false_and, if_true, if_false, Bool.false_eq_true, Bool.not_true, Bool.not_false, reduceIte, len6, Int.cast_ofNat_Int, beq_self_eq_true, Int.reduceBEq, Int.reduceAdd, Int.reduceNeg, decide_true, decide_false, Int.reduceLT, Int.reduceLE, Int.reduceToNat, ry, src_one_lst, lc, bl, rt n (by omega), kept_rd]
end
end L2.Z
set_option Elab.async false
set_option linter.all false
set_option maxRecDepth 100000
set_option maxHeartbeats 1000000
set_option exponentiation.threshold 9000
/-! ### what willing ones are paid at the mean, by the last ask -/
namespace L2.Z
open PySem
def moreQ (l : List Rat) (many : Nat) : Rat := sumQ (l.drop (many + 1))
def chsQ (bs : List Bk) : List Rat := bs.map (·.ch)
def wil (bs : List Bk) : List Bk := bs.filter fun b => b.ask.isSome
def unw (bs : List Bk) : List Bk := bs.filter fun b => !b.ask.isSome
def lastQ (seats : Nat) (un later : List Bk) : Rat := (cntQ (chsQ later ++ chsQ un)).getD seats 0 + (cntQ (chsQ later)).getD 0 0 * moreQ (cntQ (chsQ un)) seats
def meanQ (ahead : List Bk) : Rat := sumQ (((cntQ (chsQ ahead)).zipIdx 0).map fun p => p.1 * ((p.2 : Int) + 1 : Int))
def lastOne (seats : Nat) (un : List Bk) (ahead later : List Bk) (b : Bk) : Rat := b.ch * lastQ seats un later * meanQ ahead * askQ b
/-- from the one at hand on -/
def lastSum (seats : Nat) (un : List Bk) : List Bk → List Bk → Rat → Rat
  | _, [], s => s
  | ahead, b :: r, s => lastSum seats un (ahead ++ [b]) r (s + lastOne seats un ahead r b)
def meanLastQ (seats : Nat) (bs : List Bk) : Rat := lastSum seats (unw bs) [] (wil bs) 0
def L_more_than (total : Nat) : List S := [
  .ret (.call total x0 p0 [(.slc (.var 0 x0 p0) (some (.blt .max2 p0 [(.cst (.int 0) 0 p0), (.bin .Add (.var 1 x0 p0) (.cst (.int 1) 0 p0) p0)] p0)) none p0 p0)] p0) p0]
theorem max_int (M : Mem) (i j : Int) : bltD .max2 M [.int i, .int j] = some (.int (if j > i then j else i)) := rfl
section
variable {T : Nat → Option Fn} {sub : Nat → Nat → Bool} {fc fs fp ft fr fo fn : Nat}
theorem run_more_than (P : Ports T fc fs fp ft fr fo fn) {f : Nat} (h : Has T f 2 2 (L_more_than fo)) {D : Nat} {qs : List Rat} (hD : 0 < D) (hq : ∀ q ∈ qs, Un1 D q) (hz : (qs.length + 1) * D < 2 ^ 2000) (many : Nat) : Cal T sub FUEL 5 f [.lst (rds qs), .int many] (rd (moreQ qs many)) := by
  refine cal_of (k := 4) h rfl fun n hn M => ?_
  have rt := run_total (sub := sub) P.p P.plus P.total (D := D) (B := 1) (qs := qs.drop (many + 1)) hD (fun q hq' => (hq q (List.mem_of_mem_drop hq')).sz) (by
    rw [Nat.one_mul, List.length_drop]
    exact Nat.lt_of_le_of_lt (Nat.mul_le_mul_right _ (by omega)) hz)
  have e1 : (if (many : Int) + 1 > 0 then (many : Int) + 1 else 0) = ((many + 1 : Nat) : Int) := by
    rw [if_pos (by omega)]; omega
  have ecut : cutD (rds qs) (some ((many + 1 : Nat) : Int)) none = rds (qs.drop (many + 1)) := by
    rw [cut_from]; unfold rds; rw [List.map_drop]
  unfold L_more_than moreQ
  simp only [ends_rt, ends_nx, ends_exc, bind_ok, bind_exc, ret_some, retB_some, retL_some, retE_some, ev_var, ev_cst, ev_gint, ev_gstr, ev_gfn, ev_bin, ev_neg, ev_not, ev_bop, ev_cmp, ev_chain, ev_ite, ev_call, ev_isi, ev_blt, ev_mth, ev_sub, ev_slc, ev_tup, ev_lst, ev_lc, ev_live, ev_srt, ev_srk, evs_nil, evs_cons, evx_nil, evx_cons, evO_none, evO_some, evB_one, evB_and, evB_or, evT_nil, evT_one, exs_nil, exs_cons, nxt_nx, nxt_rt, nxt_exc, ex_asg, ex_own, ex_par, ex_app, ex_exn, ex_sti, ex_sto, ex_aug, ex_exp, ex_ret, ex_ifs, ex_fors, ex_whl, ex_rse, ex_tri, ex_frz, cstD, Tg.put, Tg.puts, startD, wipeD, kept_int, kept_bl, kept_str, kept_non, kept_tup, kept_lst, kept_ext, kept_ref, kept_fn, kept_exc, cmp_eq_int, cmp_ne_int, cmp_lt_int, cmp_le_int, cmp_gt_int, cmp_ge_int, List.map_cons, List.map_nil, List.length_cons, List.length_nil, Nat.reduceAdd, Nat.reduceSub, Nat.reduceLeDiff, List.replicate, List.cons_append, List.nil_append, List.append_nil, List.getElem?_cons_zero, List.getElem?_cons_succ, List.getElem?_nil, List.set_cons_zero, List.set_cons_succ, List.all_cons, List.all_nil, nown, Bool.and_true, Bool.true_and, Bool.and_false, Bool.false_and, if_true, if_false, Bool.false_eq_true, Bool.not_true, Bool.not_false, reduceIte, len6, Int.cast_ofNat_Int, beq_self_eq_true, Int.reduceBEq, Int.reduceAdd, Int.reduceNeg, decide_true, decide_false, Int.reduceLT, Int.reduceLE, Int.reduceToNat, add_int, max_int, e1, slc_lst, ecut, rt n hn, kept_rd]
end
end L2.Z
set_option Elab.async false
set_option linter.all false
set_option maxRecDepth 100000
set_option maxHeartbeats 2000000
set_option exponentiation.threshold 9000
/-! ### mean_last: one turn -/
namespace L2.Z
open PySem
def L_last_turn (fn ft fp fo fm : Nat) : List S := [.asg (.nm 7 x0 p0) (.call fn x0 p0 [(.lc (.sub (.var 13 x0 p0) (.cst (.int 3) 0 p0) p0) (.nm 13 x0 p0) .one [(.slc (.var 3 x0 p0) none (some (.var 6 x0 p0)) p0 p0)] [] sc0 [(x0, 12), (x0, 13)] p0)] p0) p0, .asg (.nm 8 x0 p0) (.call fn x0 p0 [(.lc (.sub (.var 13 x0 p0) (.cst (.int 3) 0 p0) p0) (.nm 13 x0 p0) .one [(.slc (.var 3 x0 p0) (some (.bin .Add (.var 6 x0 p0) (.cst (.int 1) 0 p0) p0)) none p0 p0)] [] sc0 [(x0, 12), (x0, 13)] p0)] p0) p0, .asg (.nm 9 x0 p0) (.call fn x0 p0 [(.bin .Add (.lc (.sub (.var 13 x0 p0) (.cst (.int 3) 0 p0) p0) (.nm 13 x0 p0) .one [(.slc (.var 3 x0 p0) (some (.bin .Add (.var 6 x0 p0) (.cst (.int 1) 0 p0) p0)) none p0 p0)] [] sc0 [(x0, 12), (x0, 13)] p0) (.lc (.sub (.var 13 x0 p0) (.cst (.int 3) 0 p0) p0) (.nm 13 x0 p0) .one [(.var 0 x0 p0)] [(.cmp .Is (.sub (.var 13 x0 p0) (.cst (.int 5) 0 p0) p0) (.cst .none 0 p0) p0)] sc0 [(x0, 12), (x0, 13)] p0) p0)] p0) p0, .asg (.nm 10 x0 p0) (.ite (.cmp .Lt (.var 1 x0 p0) (.blt .len p0 [(.var 9 x0 p0)] p0) p0) (.sub (.var 9 x0 p0) (.var 1 x0 p0) p0) (.tup [(.cst (.int 0) 0 p0), (.cst (.int 1) 0 p0)] 0 p0) p0) p0, .asg (.nm 10 x0 p0) (.call fp x0 p0 [(.var 10 x0 p0), (.call ft x0 p0 [(.sub (.var 8 x0 p0) (.cst (.int 0) 0 p0) p0), (.call fm x0 p0 [(.var 4 x0 p0), (.var 1 x0 p0)] p0)] p0)] p0) p0, .asg (.nm 11 x0 p0) (.call fo x0 p0 [(.lc (.call ft x0 p0 [(.var 15 x0 p0), (.tup [(.bin .Add (.var 14 x0 p0) (.cst (.int 1) 0 p0) p0), (.cst (.int 1) 0 p0)] 0 p0)] p0) (.tp [(.nm 14 x0 p0), (.nm 15 x0 p0)] 0 p0) (.enm p0 p0) [(.var 7 x0 p0)] [] sc0 [(x0, 12), (x0, 14), (x0, 15)] p0)] p0) p0, .asg (.nm 5 x0 p0) (.call fp x0 p0 [(.var 5 x0 p0), (.call ft x0 p0 [(.call ft x0 p0 [(.call ft x0 p0 [(.sub (.var 2 x0 p0) (.cst (.int 3) 0 p0) p0), (.var 10 x0 p0)] p0), (.var 11 x0 p0)] p0), (.tup [(.sub (.var 2 x0 p0) (.cst (.int 5) 0 p0) p0), (.cst (.int 1) 0 p0)] 0 p0)] p0)] p0) p0]
section
variable {T : Nat → Option Fn} {sub : Nat → Nat → Bool} {fc fs fp ft fr fo fn fm : Nat}
/-- chances of rows -/
theorem ch_lc {C : Cfg} {r : Env} {M : Mem} {own : List Nat} {i : Nat} {r1 : Bk → Env} (l : List Bk) (hr : ∀ x ∈ l, (Tg.nm i x0 p0).put (bkD x) (wipeD r own) = some (r1 x) ∧ (r1 x)[i]? = some (some (bkD x))) :
    lcW C r M (.sub (.var i x0 p0) (.cst (.int 3) 0 p0) p0) (.nm i x0 p0) [] own (l.map bkD) = .ok (rds (chsQ l)) M := by
  have := lcW_mapE (C := C) (r := r) (M := M) (elt := .sub (.var i x0 p0) (.cst (.int 3) 0 p0) p0) (tg := .nm i x0 p0) (ifs := []) (own := own) bkD (fun x => rd x.ch) l fun x hx' => by
    obtain ⟨h1, h2⟩ := hr x hx'
    have s3 : ∀ M, subD M (bkD x) (.int 3) = some (rd x.ch) := fun M => sub_t3 M _ _ _ _ _
    exact ⟨r1 x, h1, by rw [evT_nil], by simp only [ev_sub, ev_var, ev_cst, h2, bind_ok, cstD, ret_some, s3], rfl⟩
  rw [this]
  simp [rds, chsQ]
theorem ch_lcU {C : Cfg} {r : Env} {M : Mem} {own : List Nat} {i : Nat} {r1 : Bk → Env} (l : List Bk) (hr : ∀ x ∈ l, (Tg.nm i x0 p0).put (bkD x) (wipeD r own) = some (r1 x) ∧ (r1 x)[i]? = some (some (bkD x))) :
    lcW C r M (.sub (.var i x0 p0) (.cst (.int 3) 0 p0) p0) (.nm i x0 p0) [(.cmp .Is (.sub (.var i x0 p0) (.cst (.int 5) 0 p0) p0) (.cst .none 0 p0) p0)] own (l.map bkD) = .ok (rds (chsQ (unw l))) M := by
  have := lcW_filtE (C := C) (r := r) (M := M) (elt := .sub (.var i x0 p0) (.cst (.int 3) 0 p0) p0) (tg := .nm i x0 p0) (ifs := [(.cmp .Is (.sub (.var i x0 p0) (.cst (.int 5) 0 p0) p0) (.cst .none 0 p0) p0)]) (own := own) bkD (fun x => rd x.ch) (fun b => !b.ask.isSome) l fun x hx' => by
    obtain ⟨h1, h2⟩ := hr x hx'
    have s3 : ∀ M, subD M (bkD x) (.int 3) = some (rd x.ch) := fun M => sub_t3 M _ _ _ _ _
    have s5 : ∀ M, subD M (bkD x) (.int 5) = some (askD x.ask) := fun M => sub_t5 M _ _ _ _ _ _ _
    exact ⟨r1 x, h1, by simp only [evT_one, ev_cmp, ev_sub, ev_var, ev_cst, h2, bind_ok, cstD, ret_some, s5, is_none, isNon_ask, retB_some], fun _ => ⟨by simp only [ev_sub, ev_var, ev_cst, h2, bind_ok, cstD, ret_some, s3], rfl⟩⟩
  rw [this]
  simp [rds, chsQ, unw]
theorem Un1.getD {D : Nat} {l : List Rat} (hD : 0 < D) (h : ∀ q ∈ l, Un1 D q) (i : Nat) : Un1 D (l.getD i 0) := by
  rw [List.getD_eq_getElem?_getD]
  cases e : l[i]? with
  | none => exact Un1.zero hD
  | some q => exact h q (List.mem_of_getElem? e)
end
end L2.Z
set_option Elab.async false
set_option linter.all false
set_option maxRecDepth 100000
set_option maxHeartbeats 2000000
set_option exponentiation.threshold 9000
/-! ### mean_last: one turn, run -/
namespace L2.Z
open PySem
section
variable {T : Nat → Option Fn} {sub : Nat → Nat → Bool} {fc fs fp ft fr fo fn fm : Nat}
def mul1 (p : Rat × Nat) : Rat := p.1 * ((p.2 : Int) + 1 : Int)
theorem sub_lst (M : Mem) (xs : List D) (k : Nat) : subD M (.lst xs) (.int (k : Int)) = xs[k]? := by
  show (some xs).bind (fun xs => atI xs (k : Int)) = _
  exact atI_nat xs k
theorem last_turn (P : Ports T fc fs fp ft fr fo fn) (bs w pre r : List Bk) (b : Bk) (a : Int) (seats : Nat) (s : Rat) (hw : w = pre ++ b :: r) (hask : b.ask = some a) (hl : bs.length ≤ 60) (hwl : w.length ≤ 60)
    (h7 : Cal T sub FUEL 4 fn [.lst (rds (chsQ pre))] (.lst (rds (cntQ (chsQ pre))))) (h8 : Cal T sub FUEL 4 fn [.lst (rds (chsQ r))] (.lst (rds (cntQ (chsQ r))))) (h9 : Cal T sub FUEL 4 fn [.lst (rds (chsQ r ++ chsQ (unw bs)))] (.lst (rds (cntQ (chsQ r ++ chsQ (unw bs))))))
    (hmore : Cal T sub FUEL 5 fm [.lst (rds (cntQ (chsQ (unw bs)))), .int seats] (rd (moreQ (cntQ (chsQ (unw bs))) seats)))
    (hmean : Cal T sub FUEL 4 fo [.lst (rds (((cntQ (chsQ pre)).zipIdx 0).map mul1))] (rd (meanQ pre)))
    (ti : ∀ p ∈ (cntQ (chsQ pre)).zipIdx 0, Tame p.1 ∧ Tame (((p.2 : Int) + 1 : Int) : Rat))
    (t0 : Tame ((cntQ (chsQ r ++ chsQ (unw bs))).getD seats 0)) (tl : Tame ((cntQ (chsQ r)).getD 0 0)) (tm : Tame (moreQ (cntQ (chsQ (unw bs))) seats)) (tlm : Tame ((cntQ (chsQ r)).getD 0 0 * moreQ (cntQ (chsQ (unw bs))) seats))
    (tq : Tame (lastQ seats (unw bs) r)) (tn : Tame (meanQ pre)) (tc : Tame b.ch) (tcq : Tame (b.ch * lastQ seats (unw bs) r)) (tcn : Tame (b.ch * lastQ seats (unw bs) r * meanQ pre)) (ta : Tame (a : Rat)) (tt : Tame (lastOne seats (unw bs) pre r b)) (ts : Tame s)
    (n : Nat) (hn : 5 ≤ n) (M : Mem) (o7 o8 o9 o10 o11 : Option L2.Z.D) :
    exs ⟨callF T sub FUEL n, sub, FUEL⟩ (L_last_turn fn ft fp fo fm) [some (.lst (bs.map bkD)), some (.int seats), some (bkD b), some (.lst (w.map bkD)), some (.lst (rds (cntQ (chsQ (unw bs))))), some (rd s), some (.int (pre.length : Nat)), o7, o8, o9, o10, o11, none, none, none, none] M
      = .ok (.nx [some (.lst (bs.map bkD)), some (.int seats), some (bkD b), some (.lst (w.map bkD)), some (.lst (rds (cntQ (chsQ (unw bs))))), some (rd (s + lastOne seats (unw bs) pre r b)), some (.int (pre.length : Nat)), some (.lst (rds (cntQ (chsQ pre)))), some (.lst (rds (cntQ (chsQ r)))), some (.lst (rds (cntQ (chsQ r ++ chsQ (unw bs))))), some (rd (lastQ seats (unw bs) r)), some (rd (meanQ pre)), none, none, none, none]) M := by
  have n4 : 4 ≤ n := by omega
  have n3 : 3 ≤ n := by omega
  have lw : w.length = pre.length + (r.length + 1) := by rw [hw]; simp
  have ul : (unw bs).length ≤ 60 := Nat.le_trans (List.length_filter_le _ _) hl
  have e1 : ((pre.length : Nat) : Int) + 1 = ((pre.length + 1 : Nat) : Int) := by omega
  have ec1 : cutD (w.map bkD) none (some ((pre.length : Nat) : Int)) = pre.map bkD := by
    rw [cut_to, ← List.map_take, hw, List.take_left' rfl]
  have ec2 : cutD (w.map bkD) (some ((pre.length + 1 : Nat) : Int)) none = r.map bkD := by
    rw [cut_from, ← List.map_drop, hw, show pre ++ b :: r = (pre ++ [b]) ++ r by simp, List.drop_left' (by simp)]
  have lcA : ∀ (l : List Bk) (q0 q1 q2 q3 q4 q5 q6 q7 q8 q9 q10 q11 : Option L2.Z.D) M, lcW ⟨callF T sub FUEL n, sub, FUEL⟩ [q0, q1, q2, q3, q4, q5, q6, q7, q8, q9, q10, q11, none, none, none, none] M (.sub (.var 13 x0 p0) (.cst (.int 3) 0 p0) p0) (.nm 13 x0 p0) [] [12, 13] (l.map bkD) = .ok (rds (chsQ l)) M := fun l q0 q1 q2 q3 q4 q5 q6 q7 q8 q9 q10 q11 M =>
    ch_lc (r1 := fun x => [q0, q1, q2, q3, q4, q5, q6, q7, q8, q9, q10, q11, none, some (bkD x), none, none]) l fun x _ => ⟨rfl, rfl⟩
  have lcU : ∀ (l : List Bk) (q0 q1 q2 q3 q4 q5 q6 q7 q8 q9 q10 q11 : Option L2.Z.D) M, lcW ⟨callF T sub FUEL n, sub, FUEL⟩ [q0, q1, q2, q3, q4, q5, q6, q7, q8, q9, q10, q11, none, none, none, none] M (.sub (.var 13 x0 p0) (.cst (.int 3) 0 p0) p0) (.nm 13 x0 p0) [(.cmp .Is (.sub (.var 13 x0 p0) (.cst (.int 5) 0 p0) p0) (.cst .none 0 p0) p0)] [12, 13] (l.map bkD) = .ok (rds (chsQ (unw l))) M := fun l q0 q1 q2 q3 q4 q5 q6 q7 q8 q9 q10 q11 M =>
    ch_lcU (r1 := fun x => [q0, q1, q2, q3, q4, q5, q6, q7, q8, q9, q10, q11, none, some (bkD x), none, none]) l fun x _ => ⟨rfl, rfl⟩
  have lcM : ∀ (q0 q1 q2 q3 q4 q5 q6 q7 q8 q9 q10 q11 : Option L2.Z.D) M, lcW ⟨callF T sub FUEL n, sub, FUEL⟩ [q0, q1, q2, q3, q4, q5, q6, q7, q8, q9, q10, q11, none, none, none, none] M (.call ft x0 p0 [(.var 15 x0 p0), (.tup [(.bin .Add (.var 14 x0 p0) (.cst (.int 1) 0 p0) p0), (.cst (.int 1) 0 p0)] 0 p0)] p0) (.tp [(.nm 14 x0 p0), (.nm 15 x0 p0)] 0 p0) [] [12, 14, 15] (((cntQ (chsQ pre)).zipIdx 0).map fun p => .tup [.int (p.2 : Nat), rd p.1]) = .ok (rds (((cntQ (chsQ pre)).zipIdx 0).map mul1)) M := fun q0 q1 q2 q3 q4 q5 q6 q7 q8 q9 q10 q11 M => by
    have := lcW_mapE (C := ⟨callF T sub FUEL n, sub, FUEL⟩) (r := [q0, q1, q2, q3, q4, q5, q6, q7, q8, q9, q10, q11, none, none, none, none]) (M := M) (elt := .call ft x0 p0 [(.var 15 x0 p0), (.tup [(.bin .Add (.var 14 x0 p0) (.cst (.int 1) 0 p0) p0), (.cst (.int 1) 0 p0)] 0 p0)] p0) (tg := .tp [(.nm 14 x0 p0), (.nm 15 x0 p0)] 0 p0) (ifs := []) (own := [12, 14, 15]) (fun p : Rat × Nat => D.tup [.int (p.2 : Nat), rd p.1]) (fun p => rd (mul1 p)) ((cntQ (chsQ pre)).zipIdx 0) fun p hp => by
      obtain ⟨u1, u2⟩ := ti p hp
      refine ⟨_, rfl, by rw [evT_nil], ?_, rfl⟩
      simp only [ends_rt, ends_nx, ends_exc, bind_ok, bind_exc, ret_some, retB_some, retL_some, retE_some, ev_var, ev_cst, ev_gint, ev_gstr, ev_gfn, ev_bin, ev_neg, ev_not, ev_bop, ev_cmp, ev_chain, ev_ite, ev_call, ev_isi, ev_blt, ev_mth, ev_sub, ev_slc, ev_tup, ev_lst, ev_lc, ev_live, ev_srt, ev_srk, evs_nil, evs_cons, evx_nil, evx_cons, evO_none, evO_some, evB_one, evB_and, evB_or, evT_nil, evT_one, exs_nil, exs_cons, nxt_nx, nxt_rt, nxt_exc, ex_asg, ex_own, ex_par, ex_app, ex_exn, ex_sti, ex_sto, ex_aug, ex_exp, ex_ret, ex_ifs, ex_fors, ex_whl, ex_rse, ex_tri, ex_frz, cstD, Tg.put, Tg.puts, startD, wipeD, kept_int, kept_bl, kept_str, kept_non, kept_tup, kept_lst, kept_ext, kept_ref, kept_fn, kept_exc, cmp_eq_int, cmp_ne_int, cmp_lt_int, cmp_le_int, cmp_gt_int, cmp_ge_int, List.map_cons, List.map_nil, List.length_cons, List.length_nil, Nat.reduceAdd, Nat.reduceSub, Nat.reduceLeDiff, List.replicate, List.cons_append, List.nil_append, List.append_nil, List.getElem?_cons_zero, List.getElem?_cons_succ, List.getElem?_nil, List.set_cons_zero, List.set_cons_succ, List.all_cons, List.all_nil, nown, Bool.and_true, Bool.true_and, Bool.and_false, Bool.false_and, if_true, if_false, Bool.false_eq_true, Bool.not_true, Bool.not_false, reduceIte, len6, Int.cast_ofNat_Int, beq_self_eq_true, Int.reduceBEq, Int.reduceAdd, Int.reduceNeg, decide_true, decide_false, Int.reduceLT, Int.reduceLE, Int.reduceToNat, add_int, kept_rd, ← rd_int, run_times P.p P.times u1 u2 n n3]
      rfl
    rw [this]
    simp [rds]
  have cl : ∀ l : List Bk, (chsQ l).length = l.length := fun l => by simp [chsQ]
  have b1 : (rds (chsQ pre)).length ≤ sizeLine := big_le (by rw [rds_len, cl]; omega)
  have b2 : (rds (chsQ r)).length ≤ sizeLine := big_le (by rw [rds_len, cl]; omega)
  have b3 : (rds (chsQ (unw bs))).length ≤ sizeLine := big_le (by rw [rds_len, cl]; omega)
  have b4 : (rds (chsQ r)).length + (rds (chsQ (unw bs))).length ≤ sizeLine := big_le (by rw [rds_len, rds_len, cl, cl]; omega)
  have b5 : (rds (((cntQ (chsQ pre)).zipIdx 0).map mul1)).length ≤ sizeLine := big_le (by rw [rds_len, List.length_map, List.length_zipIdx, cntQ_len, cl]; omega)
  have eapp : rds (chsQ r) ++ rds (chsQ (unw bs)) = rds (chsQ r ++ chsQ (unw bs)) := by simp [rds]
  have s8 : ∀ M, subD M (.lst (rds (cntQ (chsQ r)))) (.int 0) = some (rd ((cntQ (chsQ r)).getD 0 0)) := fun M => by
    rw [show (0 : Int) = ((0 : Nat) : Int) from rfl, sub_lst]
    unfold rds
    have h0 : 0 < (cntQ (chsQ r)).length := by rw [cntQ_len]; omega
    rw [List.getElem?_map, List.getD_eq_getElem?_getD, List.getElem?_eq_getElem h0]
    rfl
  have s3 : ∀ M, subD M (bkD b) (.int 3) = some (rd b.ch) := fun M => sub_t3 M _ _ _ _ _
  have s5 : ∀ M, subD M (bkD b) (.int 5) = some (.int a) := fun M => by
    have := sub_t5 M (.str b.name) (.str b.going) (.int b.fare) (rd b.ch) (.int b.rank) (askD b.ask) []
    rw [hask] at this
    unfold bkD
    rw [hask]
    exact this
  have eone : b.ch * lastQ seats (unw bs) r * meanQ pre * (a : Rat) = lastOne seats (unw bs) pre r b := by
    unfold lastOne askQ; rw [hask]
  unfold L_last_turn
  by_cases hse : seats < (cntQ (chsQ r ++ chsQ (unw bs))).length
  · have hse' : ((seats : Int) < ((rds (cntQ (chsQ r ++ chsQ (unw bs)))).length : Int)) := by rw [rds_len]; omega
    have s9 : ∀ M, subD M (.lst (rds (cntQ (chsQ r ++ chsQ (unw bs))))) (.int (seats : Int)) = some (rd ((cntQ (chsQ r ++ chsQ (unw bs))).getD seats 0)) := fun M => by
      rw [sub_lst]
      unfold rds
      rw [List.getElem?_map, List.getD_eq_getElem?_getD, List.getElem?_eq_getElem hse]
      rfl
    simp only [ends_rt, ends_nx, ends_exc, bind_ok, bind_exc, ret_some, retB_some, retL_some, retE_some, ev_var, ev_cst, ev_gint, ev_gstr, ev_gfn, ev_bin, ev_neg, ev_not, ev_bop, ev_cmp, ev_chain, ev_ite, ev_call, ev_isi, ev_blt, ev_mth, ev_sub, ev_slc, ev_tup, ev_lst, ev_lc, ev_live, ev_srt, ev_srk, evs_nil, evs_cons, evx_nil, evx_cons, evO_none, evO_some, evB_one, evB_and, evB_or, evT_nil, evT_one, exs_nil, exs_cons, nxt_nx, nxt_rt, nxt_exc, ex_asg, ex_own, ex_par, ex_app, ex_exn, ex_sti, ex_sto, ex_aug, ex_exp, ex_ret, ex_ifs, ex_fors, ex_whl, ex_rse, ex_tri, ex_frz, cstD, Tg.put, Tg.puts, startD, wipeD, kept_int, kept_bl, kept_str, kept_non, kept_tup, kept_lst, kept_ext, kept_ref, kept_fn, kept_exc, cmp_eq_int, cmp_ne_int, cmp_lt_int, cmp_le_int, cmp_gt_int, cmp_ge_int, List.map_cons, List.map_nil, List.length_cons, List.length_nil, Nat.reduceAdd, Nat.reduceSub, Nat.reduceLeDiff, List.replicate, List.cons_append, List.nil_append, List.append_nil, List.getElem?_cons_zero, List.getElem?_cons_succ, List.getElem?_nil, List.set_cons_zero, List.set_cons_succ, List.all_cons, List.all_nil, nown, Bool.and_true, Bool.true_and, Bool.and_false, Bool.false_and, if_true, if_false, Bool.false_eq_true, Bool.not_true, Bool.not_false, reduceIte, len6, Int.cast_ofNat_Int, beq_self_eq_true, Int.reduceBEq, Int.reduceAdd, Int.reduceNeg, decide_true, decide_false, Int.reduceLT, Int.reduceLE, Int.reduceToNat, e1, add_int, slc_lst, ec1, ec2, src_one_lst, lcA, lcU, b1, b2, b3, h7 n n4, h8 n n4, add_lst _ _ _ b4, eapp, h9 n n4, len_lst, hse', s9, kept_rd, s8, hmore n hn, run_times P.p P.times tl tm n n3, run_plus P.p P.plus t0 tlm n n3, srcD, items, litems, Option.map_some, enm_rds, lcM, b5, hmean n n4, s3, s5, ← rd_int]
    rw [show (cntQ (chsQ r ++ chsQ (unw bs))).getD seats 0 + (cntQ (chsQ r)).getD 0 0 * moreQ (cntQ (chsQ (unw bs))) seats = lastQ seats (unw bs) r from rfl]
    simp only [ends_rt, ends_nx, ends_exc, bind_ok, bind_exc, ret_some, retB_some, retL_some, retE_some, ev_var, ev_cst, ev_gint, ev_gstr, ev_gfn, ev_bin, ev_neg, ev_not, ev_bop, ev_cmp, ev_chain, ev_ite, ev_call, ev_isi, ev_blt, ev_mth, ev_sub, ev_slc, ev_tup, ev_lst, ev_lc, ev_live, ev_srt, ev_srk, evs_nil, evs_cons, evx_nil, evx_cons, evO_none, evO_some, evB_one, evB_and, evB_or, evT_nil, evT_one, exs_nil, exs_cons, nxt_nx, nxt_rt, nxt_exc, ex_asg, ex_own, ex_par, ex_app, ex_exn, ex_sti, ex_sto, ex_aug, ex_exp, ex_ret, ex_ifs, ex_fors, ex_whl, ex_rse, ex_tri, ex_frz, cstD, Tg.put, Tg.puts, startD, wipeD, kept_int, kept_bl, kept_str, kept_non, kept_tup, kept_lst, kept_ext, kept_ref, kept_fn, kept_exc, cmp_eq_int, cmp_ne_int, cmp_lt_int, cmp_le_int, cmp_gt_int, cmp_ge_int, List.map_cons, List.map_nil, List.length_cons, List.length_nil, Nat.reduceAdd, Nat.reduceSub, Nat.reduceLeDiff, List.replicate, List.cons_append, List.nil_append, List.append_nil, List.getElem?_cons_zero, List.getElem?_cons_succ, List.getElem?_nil, List.set_cons_zero, List.set_cons_succ, List.all_cons, List.all_nil, nown, Bool.and_true, Bool.true_and, Bool.and_false, Bool.false_and, if_true, if_false, Bool.false_eq_true, Bool.not_true, Bool.not_false, reduceIte, len6, Int.cast_ofNat_Int, beq_self_eq_true, Int.reduceBEq, Int.reduceAdd, Int.reduceNeg, decide_true, decide_false, Int.reduceLT, Int.reduceLE, Int.reduceToNat, kept_rd, run_times P.p P.times tc tq n n3, run_times P.p P.times tcq tn n n3, run_times P.p P.times tcn ta n n3, eone, run_plus P.p P.plus ts tt n n3]
  · have hse' : ¬ ((seats : Int) < ((rds (cntQ (chsQ r ++ chsQ (unw bs)))).length : Int)) := by rw [rds_len]; omega
    have eg : (cntQ (chsQ r ++ chsQ (unw bs))).getD seats 0 = 0 := by
      rw [List.getD_eq_getElem?_getD, List.getElem?_eq_none (by omega)]
      rfl
    rw [eg] at t0
    have e00 : rd (((0 : Int)) : Rat) = rd 0 := rfl
    simp only [ends_rt, ends_nx, ends_exc, bind_ok, bind_exc, ret_some, retB_some, retL_some, retE_some, ev_var, ev_cst, ev_gint, ev_gstr, ev_gfn, ev_bin, ev_neg, ev_not, ev_bop, ev_cmp, ev_chain, ev_ite, ev_call, ev_isi, ev_blt, ev_mth, ev_sub, ev_slc, ev_tup, ev_lst, ev_lc, ev_live, ev_srt, ev_srk, evs_nil, evs_cons, evx_nil, evx_cons, evO_none, evO_some, evB_one, evB_and, evB_or, evT_nil, evT_one, exs_nil, exs_cons, nxt_nx, nxt_rt, nxt_exc, ex_asg, ex_own, ex_par, ex_app, ex_exn, ex_sti, ex_sto, ex_aug, ex_exp, ex_ret, ex_ifs, ex_fors, ex_whl, ex_rse, ex_tri, ex_frz, cstD, Tg.put, Tg.puts, startD, wipeD, kept_int, kept_bl, kept_str, kept_non, kept_tup, kept_lst, kept_ext, kept_ref, kept_fn, kept_exc, cmp_eq_int, cmp_ne_int, cmp_lt_int, cmp_le_int, cmp_gt_int, cmp_ge_int, List.map_cons, List.map_nil, List.length_cons, List.length_nil, Nat.reduceAdd, Nat.reduceSub, Nat.reduceLeDiff, List.replicate, List.cons_append, List.nil_append, List.append_nil, List.getElem?_cons_zero, List.getElem?_cons_succ, List.getElem?_nil, List.set_cons_zero, List.set_cons_succ, List.all_cons, List.all_nil, nown, Bool.and_true, Bool.true_and, Bool.and_false, Bool.false_and, if_true, if_false, Bool.false_eq_true, Bool.not_true, Bool.not_false, reduceIte, len6, Int.cast_ofNat_Int, beq_self_eq_true, Int.reduceBEq, Int.reduceAdd, Int.reduceNeg, decide_true, decide_false, Int.reduceLT, Int.reduceLE, Int.reduceToNat, e1, add_int, slc_lst, ec1, ec2, src_one_lst, lcA, lcU, b1, b2, b3, h7 n n4, h8 n n4, add_lst _ _ _ b4, eapp, h9 n n4, len_lst, hse', e00, kept_rd, s8, hmore n hn, run_times P.p P.times tl tm n n3, run_plus P.p P.plus t0 tlm n n3, srcD, items, litems, Option.map_some, enm_rds, lcM, b5, hmean n n4, s3, s5, ← rd_int]
    rw [show (0 : Rat) + (cntQ (chsQ r)).getD 0 0 * moreQ (cntQ (chsQ (unw bs))) seats = lastQ seats (unw bs) r by unfold lastQ; rw [eg]]
    simp only [ends_rt, ends_nx, ends_exc, bind_ok, bind_exc, ret_some, retB_some, retL_some, retE_some, ev_var, ev_cst, ev_gint, ev_gstr, ev_gfn, ev_bin, ev_neg, ev_not, ev_bop, ev_cmp, ev_chain, ev_ite, ev_call, ev_isi, ev_blt, ev_mth, ev_sub, ev_slc, ev_tup, ev_lst, ev_lc, ev_live, ev_srt, ev_srk, evs_nil, evs_cons, evx_nil, evx_cons, evO_none, evO_some, evB_one, evB_and, evB_or, evT_nil, evT_one, exs_nil, exs_cons, nxt_nx, nxt_rt, nxt_exc, ex_asg, ex_own, ex_par, ex_app, ex_exn, ex_sti, ex_sto, ex_aug, ex_exp, ex_ret, ex_ifs, ex_fors, ex_whl, ex_rse, ex_tri, ex_frz, cstD, Tg.put, Tg.puts, startD, wipeD, kept_int, kept_bl, kept_str, kept_non, kept_tup, kept_lst, kept_ext, kept_ref, kept_fn, kept_exc, cmp_eq_int, cmp_ne_int, cmp_lt_int, cmp_le_int, cmp_gt_int, cmp_ge_int, List.map_cons, List.map_nil, List.length_cons, List.length_nil, Nat.reduceAdd, Nat.reduceSub, Nat.reduceLeDiff, List.replicate, List.cons_append, List.nil_append, List.append_nil, List.getElem?_cons_zero, List.getElem?_cons_succ, List.getElem?_nil, List.set_cons_zero, List.set_cons_succ, List.all_cons, List.all_nil, nown, Bool.and_true, Bool.true_and, Bool.and_false, Bool.false_and, if_true, if_false, Bool.false_eq_true, Bool.not_true, Bool.not_false, reduceIte, len6, Int.cast_ofNat_Int, beq_self_eq_true, Int.reduceBEq, Int.reduceAdd, Int.reduceNeg, decide_true, decide_false, Int.reduceLT, Int.reduceLE, Int.reduceToNat, kept_rd, run_times P.p P.times tc tq n n3, run_times P.p P.times tcq tn n n3, run_times P.p P.times tcn ta n n3, eone, run_plus P.p P.plus ts tt n n3]
end
end L2.Z
set_option Elab.async false
set_option linter.all false
set_option maxRecDepth 100000
set_option maxHeartbeats 2000000
set_option exponentiation.threshold 9000
/-! ### mean_last: how great all is -/
namespace L2.Z
open PySem
theorem cntQ_unN {D' N : Nat} (hD' : 0 < D') {cs : List Rat} (hc : ∀ c ∈ cs, Un1 D' c) (hl : cs.length ≤ N) : ∀ q ∈ cntQ cs, Un1 (D' ^ N) q := fun q hq => (cntQ_un hD' hc q hq).up (Nat.pow_dvd_pow _ hl) (Nat.pow_pos hD')
theorem moreQ_sz {D N : Nat} {l : List Rat} (hD : 0 < D) (h : ∀ q ∈ l, Un1 D q) (hl : l.length ≤ N) (many : Nat) : Sz D N (moreQ l many) := by
  have h1 := sumQ_sz (D := D) (B := 1) (qs := l.drop (many + 1)) hD fun q hq => (h q (List.mem_of_mem_drop hq)).sz
  rw [Nat.one_mul] at h1
  exact h1.mono (by rw [List.length_drop]; omega)
theorem mul1_sz {D N : Nat} {l : List Rat} (h : ∀ q ∈ l, Un1 D q) (hl : l.length ≤ N) : ∀ p ∈ l.zipIdx 0, Un1 D p.1 ∧ Sz 1 N (((p.2 : Int) + 1 : Int) : Rat) ∧ Sz D N (mul1 p) := fun p hp => by
  have h1 : p.2 < l.length := by
    have := List.snd_lt_of_mem_zipIdx hp
    simpa using this
  have h2 : p.1 ∈ l := List.fst_mem_of_mem_zipIdx hp
  have s2 : Sz 1 N (((p.2 : Int) + 1 : Int) : Rat) := Sz.int (by decide) (by omega)
  refine ⟨h _ h2, s2, ?_⟩
  have := (h _ h2).sz.mul s2
  rw [Nat.mul_one, Nat.one_mul] at this
  exact this
theorem meanQ_sz {D N : Nat} {pre : List Bk} (hD : 0 < D) (h : ∀ q ∈ cntQ (chsQ pre), Un1 D q) (hl : (cntQ (chsQ pre)).length ≤ N) : Sz D (N * N) (meanQ pre) := by
  have h1 := sumQ_sz (D := D) (B := N) (qs := ((cntQ (chsQ pre)).zipIdx 0).map mul1) hD fun q hq => by
    obtain ⟨p, hp, rfl⟩ := List.mem_map.mp hq
    exact (mul1_sz h hl p hp).2.2
  refine h1.mono (Nat.mul_le_mul_left _ ?_)
  rw [List.length_map, List.length_zipIdx]
  exact hl
theorem lastQ_sz {D N : Nat} {seats : Nat} {un r : List Bk} (hD : 0 < D) (h9 : ∀ q ∈ cntQ (chsQ r ++ chsQ un), Un1 D q) (h8 : ∀ q ∈ cntQ (chsQ r), Un1 D q) (hu : ∀ q ∈ cntQ (chsQ un), Un1 D q) (hl : (cntQ (chsQ un)).length ≤ N) : Sz (D * D) (N + 1) (lastQ seats un r) := by
  have h1 := (Un1.getD hD h9 seats).sz.up (Nat.dvd_mul_left D D) (Nat.mul_pos hD hD)
  have h2 := (Un1.getD hD h8 0).sz.mul (moreQ_sz hD hu hl seats)
  rw [Nat.one_mul] at h2
  have h3 := h1.add h2
  rw [Nat.add_comm] at h3
  exact h3
end L2.Z
set_option Elab.async false
set_option linter.all false
set_option maxRecDepth 100000
set_option maxHeartbeats 2000000
set_option exponentiation.threshold 9000
/-! ### mean_last: the whole -/
namespace L2.Z
open PySem
def L_mean_last (fn ft fp fo fm : Nat) : List S := [
  .asg (.nm 3 x0 p0) (.lc (.var 2 x0 p0) (.nm 2 x0 p0) .one [(.var 0 x0 p0)] [(.cmp .IsNot (.sub (.var 2 x0 p0) (.cst (.int 5) 0 p0) p0) (.cst .none 0 p0) p0)] sc0 [(x0, 12), (x0, 2)] p0) p0,
  .asg (.nm 4 x0 p0) (.call fn x0 p0 [(.lc (.sub (.var 2 x0 p0) (.cst (.int 3) 0 p0) p0) (.nm 2 x0 p0) .one [(.var 0 x0 p0)] [(.cmp .Is (.sub (.var 2 x0 p0) (.cst (.int 5) 0 p0) p0) (.cst .none 0 p0) p0)] sc0 [(x0, 12), (x0, 2)] p0)] p0) p0,
  .asg (.nm 5 x0 p0) (.tup [(.cst (.int 0) 0 p0), (.cst (.int 1) 0 p0)] 0 p0) p0,
  .fors (.tp [(.nm 6 x0 p0), (.nm 2 x0 p0)] 0 p0) (.enm p0 p0) [(.var 3 x0 p0)] (L_last_turn fn ft fp fo fm) p0,
  .ret (.var 5 x0 p0) p0]
section
variable {T : Nat → Option Fn} {sub : Nat → Nat → Bool} {fc fs fp ft fr fo fn fm : Nat}
theorem chs_un {D' : Nat} {bs l : List Bk} (hc : ∀ b ∈ bs, Un1 D' b.ch) (hl : ∀ b ∈ l, b ∈ bs) : ∀ c ∈ chsQ l, Un1 D' c := fun c h => by
  obtain ⟨x, hx, rfl⟩ := List.mem_map.mp h
  exact hc x (hl x hx)
theorem chs_len (l : List Bk) : (chsQ l).length = l.length := by simp [chsQ]
/-- bounds: D-th parts all through -/
structure LB (D' N A : Nat) : Prop where
  d : 0 < D'
  n : N ≤ 60
  a : A < 2 ^ 100
  z : D' ^ (4 * N + 4) < 2 ^ 1500
theorem LB.tame {D' N A : Nat} (L : LB D' N A) {E B : Nat} {q : Rat} (h : Sz E B q) (hE : E ≤ D' ^ (4 * N + 4)) (hB : B + 1 ≤ 2 ^ 300) : Tame q := h.tame (by
  have h1 : (B + 1) * E ≤ 2 ^ 300 * D' ^ (4 * N + 4) := Nat.mul_le_mul hB hE
  have h2 : 2 ^ 300 * D' ^ (4 * N + 4) < 2 ^ 300 * 2 ^ 1500 := Nat.mul_lt_mul_of_pos_left L.z (by decide)
  rw [← Nat.pow_add] at h2
  exact Nat.lt_of_le_of_lt h1 (Nat.lt_of_lt_of_le h2 (pow_le' (by decide))))
theorem LB.pw {D' N A : Nat} (L : LB D' N A) {k : Nat} (h : k ≤ 4 * N + 4) : D' ^ k ≤ D' ^ (4 * N + 4) := Nat.pow_le_pow_right L.d h
theorem last_loop (P : Ports T fc fs fp ft fr fo fn) (hm : Has T fm 2 2 (L_more_than fo)) {D' N A : Nat} (L : LB D' N A) (bs : List Bk) (hN : bs.length ≤ N) (hc : ∀ b ∈ bs, Un1 D' b.ch) (ha : ∀ b ∈ bs, ∀ a, b.ask = some a → a.natAbs ≤ A) (seats : Nat) (n : Nat) (hn : 5 ≤ n) (M : Mem) (w : List Bk) (hwb : ∀ b ∈ w, b ∈ bs ∧ ∃ a, b.ask = some a) (hwl : w.length + (unw bs).length ≤ N) :
    ∀ (r pre : List Bk) (s : Rat) (k : Nat) (o2 o6 o7 o8 o9 o10 o11 : Option L2.Z.D), w = pre ++ r → k = pre.length → Sz (D' ^ (3 * N + 1)) ((N + 2) * ((N + 1) * (N + 1)) * A * k) s →
    ∃ o2' o6' o7' o8' o9' o10' o11', forW ⟨callF T sub FUEL n, sub, FUEL⟩ [some (.lst (bs.map bkD)), some (.int seats), o2, some (.lst (w.map bkD)), some (.lst (rds (cntQ (chsQ (unw bs))))), some (rd s), o6, o7, o8, o9, o10, o11, none, none, none, none] M (.tp [(.nm 6 x0 p0), (.nm 2 x0 p0)] 0 p0) (L_last_turn fn ft fp fo fm) ((r.zipIdx pre.length).map fun p => .tup [.int (p.2 : Nat), bkD p.1])
      = .ok (.nx [some (.lst (bs.map bkD)), some (.int seats), o2', some (.lst (w.map bkD)), some (.lst (rds (cntQ (chsQ (unw bs))))), some (rd (lastSum seats (unw bs) pre r s)), o6', o7', o8', o9', o10', o11', none, none, none, none]) M ∧ Sz (D' ^ (3 * N + 1)) ((N + 2) * ((N + 1) * (N + 1)) * A * (k + r.length)) (lastSum seats (unw bs) pre r s)
  | [], pre, s, k, o2, o6, o7, o8, o9, o10, o11, _, _, hs => ⟨o2, o6, o7, o8, o9, o10, o11, rfl, hs⟩
  | b :: r, pre, s, k, o2, o6, o7, o8, o9, o10, o11, hw, hk, hs => by
    have hD := L.d
    have lw : w.length = pre.length + (r.length + 1) := by rw [hw]; simp
    have mem : ∀ x ∈ pre ++ b :: r, x ∈ bs := fun x hx => (hwb x (by rw [hw]; exact hx)).1
    have mpre : ∀ x ∈ pre, x ∈ bs := fun x hx => mem x (by simp [hx])
    have mr : ∀ x ∈ r, x ∈ bs := fun x hx => mem x (by simp [hx])
    have mb : b ∈ bs := mem b (by simp)
    have mu : ∀ x ∈ unw bs, x ∈ bs := fun x hx => (List.mem_filter.mp hx).1
    obtain ⟨a, hask⟩ := (hwb b (by rw [hw]; simp)).2
    have haA := ha b mb a hask
    have c1 := chs_un hc mpre
    have c2 := chs_un hc mr
    have c3 := chs_un hc mu
    have c4 : ∀ c ∈ chsQ r ++ chsQ (unw bs), Un1 D' c := fun c h => (List.mem_append.mp h).elim (c2 c) (c3 c)
    have l1 : (chsQ pre).length ≤ N := by rw [chs_len]; omega
    have l2 : (chsQ r).length ≤ N := by rw [chs_len]; omega
    have l3 : (chsQ (unw bs)).length ≤ N := by rw [chs_len]; omega
    have l4 : (chsQ r ++ chsQ (unw bs)).length ≤ N := by rw [List.length_append, chs_len, chs_len]; omega
    have u1 := cntQ_unN hD c1 l1
    have u2 := cntQ_unN hD c2 l2
    have u3 := cntQ_unN hD c3 l3
    have u4 := cntQ_unN hD c4 l4
    have pN : 0 < D' ^ N := Nat.pow_pos hD
    have n60 := L.n
    have cb : ∀ {cs : List Rat}, cs.length ≤ N → 2 * D' ^ cs.length < 2 ^ 1900 := fun {cs} h => by
      have h1 : 2 * D' ^ cs.length ≤ 2 * D' ^ (4 * N + 4) := Nat.mul_le_mul_left _ (L.pw (by omega))
      have h2 : 2 * D' ^ (4 * N + 4) < 2 * 2 ^ 1500 := Nat.mul_lt_mul_of_pos_left L.z (by decide)
      rw [← Nat.pow_succ'] at h2
      exact Nat.lt_of_le_of_lt h1 (Nat.lt_of_lt_of_le h2 (pow_le' (by decide)))
    have h7 := (run_counted (sub := sub) P.p P.times P.rest P.plus P.counted hD c1 (cb l1) (by omega)).1
    have h8 := (run_counted (sub := sub) P.p P.times P.rest P.plus P.counted hD c2 (cb l2) (by omega)).1
    have h9 := (run_counted (sub := sub) P.p P.times P.rest P.plus P.counted hD c4 (cb l4) (by omega)).1
    have k1 : (cntQ (chsQ pre)).length ≤ N + 1 := by rw [cntQ_len]; omega
    have k3 : (cntQ (chsQ (unw bs))).length ≤ N + 1 := by rw [cntQ_len]; omega
    have small : ∀ {x : Nat}, x ≤ 2 ^ 200 → x + 1 ≤ 2 ^ 300 := fun {x} h => by
      have : (2 : Nat) ^ 200 + 1 ≤ 2 ^ 300 := by decide
      omega
    have bd : ∀ x : Nat, x ≤ 2 ^ 300 → x * D' ^ N < 2 ^ 2000 := fun x hx => by
      have h1 : x * D' ^ N ≤ 2 ^ 300 * D' ^ (4 * N + 4) := Nat.mul_le_mul hx (L.pw (by omega))
      have h2 : 2 ^ 300 * D' ^ (4 * N + 4) < 2 ^ 300 * 2 ^ 1500 := Nat.mul_lt_mul_of_pos_left L.z (by decide)
      rw [← Nat.pow_add] at h2
      exact Nat.lt_of_le_of_lt h1 (Nat.lt_of_lt_of_le h2 (pow_le' (by decide)))
    have hmore := run_more_than (sub := sub) P hm (D := D' ^ N) (qs := cntQ (chsQ (unw bs))) pN u3 (bd _ (Nat.le_trans (by omega : (cntQ (chsQ (unw bs))).length + 1 ≤ 62) (by decide))) seats
    have m1 := mul1_sz (D := D' ^ N) (N := N + 1) u1 k1
    have hmean := run_total (sub := sub) P.p P.plus P.total (D := D' ^ N) (B := N + 1) (qs := ((cntQ (chsQ pre)).zipIdx 0).map mul1) pN (fun q hq => by
      obtain ⟨p, hp, rfl⟩ := List.mem_map.mp hq
      exact (m1 p hp).2.2) (bd _ (by
      rw [List.length_map, List.length_zipIdx]
      have : (N + 1) * (cntQ (chsQ pre)).length ≤ 61 * 61 := Nat.mul_le_mul (by omega) (by omega)
      exact Nat.le_trans (by omega : (N + 1) * (cntQ (chsQ pre)).length + 1 ≤ 4000) (by decide)))
    have e2 : D' ^ N * D' ^ N = D' ^ (2 * N) := by rw [← Nat.pow_add]; congr 1; omega
    have e3 : D' * (D' ^ N * D' ^ N) = D' ^ (2 * N + 1) := by rw [e2, Nat.pow_succ, Nat.mul_comm]
    have e4 : D' * (D' ^ N * D' ^ N) * D' ^ N = D' ^ (3 * N + 1) := by rw [e3, ← Nat.pow_add]; congr 1; omega
    have z0 := (Un1.getD pN u4 seats).sz
    have zl := (Un1.getD pN u2 0).sz
    have zm := moreQ_sz pN u3 k3 seats
    have zlm := zl.mul zm
    have zq : Sz (D' ^ N * D' ^ N) (N + 2) (lastQ seats (unw bs) r) := lastQ_sz (seats := seats) pN u4 u2 u3 k3
    have zn := meanQ_sz pN u1 k1
    have zc := (hc b mb).sz
    have zcq := zc.mul zq
    have zcn := zcq.mul zn
    have za : Sz 1 A (a : Rat) := Sz.int (by decide) haA
    have zt := zcn.mul za
    have eone : b.ch * lastQ seats (unw bs) r * meanQ pre * (a : Rat) = lastOne seats (unw bs) pre r b := by
      unfold lastOne askQ; rw [hask]
    rw [eone, Nat.mul_one, e4, Nat.one_mul] at zt
    rw [e4, Nat.one_mul] at zcn
    rw [e3, Nat.one_mul] at zcq
    rw [e2, Nat.one_mul] at zlm
    rw [e2] at zq
    have nn : (N + 2) * ((N + 1) * (N + 1)) ≤ 2 ^ 20 := by
      have h1 : (N + 1) * (N + 1) ≤ 61 * 61 := Nat.mul_le_mul (by omega) (by omega)
      have h2 : (N + 2) * ((N + 1) * (N + 1)) ≤ 62 * (61 * 61) := Nat.mul_le_mul (by omega) h1
      exact Nat.le_trans h2 (by decide)
    have nA : (N + 2) * ((N + 1) * (N + 1)) * A ≤ 2 ^ 120 := by
      have h1 : (N + 2) * ((N + 1) * (N + 1)) * A ≤ 2 ^ 20 * 2 ^ 100 := Nat.mul_le_mul nn (Nat.le_of_lt L.a)
      rwa [← Nat.pow_add] at h1
    have nk : ∀ j : Nat, j ≤ 64 → (N + 2) * ((N + 1) * (N + 1)) * A * j ≤ 2 ^ 126 := fun j hj => by
      have h1 : (N + 2) * ((N + 1) * (N + 1)) * A * j ≤ 2 ^ 120 * 2 ^ 6 := Nat.mul_le_mul nA hj
      rwa [← Nat.pow_add] at h1
    have p126 : (2 : Nat) ^ 126 ≤ 2 ^ 200 := pow_le' (by decide)
    have p120 : (2 : Nat) ^ 120 ≤ 2 ^ 200 := pow_le' (by decide)
    have p100 : (2 : Nat) ^ 100 ≤ 2 ^ 200 := pow_le' (by decide)
    have p20 : (2 : Nat) ^ 20 ≤ 2 ^ 200 := pow_le' (by decide)
    have p64 : 4000 ≤ 2 ^ 200 := by decide
    have n11 : (N + 1) * (N + 1) ≤ 61 * 61 := Nat.mul_le_mul (by omega) (by omega)
    have dP : D' ≤ D' ^ (4 * N + 4) := by
      have := L.pw (k := 1) (by omega)
      rwa [Nat.pow_one] at this
    have d1 : 1 ≤ D' ^ (4 * N + 4) := Nat.pow_pos hD
    have turn := last_turn (sub := sub) P bs w pre r b a seats s hw hask (by omega) (by omega) h7 h8 h9 hmore hmean
      (fun p hp => ⟨L.tame (m1 p hp).1.sz (L.pw (by omega)) (small (by omega)), L.tame (m1 p hp).2.1 d1 (small (by omega))⟩)
      (L.tame z0 (L.pw (by omega)) (small (by omega))) (L.tame zl (L.pw (by omega)) (small (by omega))) (L.tame zm (L.pw (by omega)) (small (by omega))) (L.tame zlm (L.pw (by omega)) (small (by omega)))
      (L.tame zq (L.pw (by omega)) (small (by omega))) (L.tame zn (L.pw (by omega)) (small (by omega))) (L.tame zc dP (small (by omega))) (L.tame zcq (L.pw (by omega)) (small (by omega))) (L.tame zcn (L.pw (by omega)) (small (by omega)))
      (L.tame za d1 (small (by have := L.a; omega))) (L.tame zt (L.pw (by omega)) (small (by omega))) (L.tame hs (L.pw (by omega)) (small (by have := nk k (by omega); omega))) n hn M o7 o8 o9 o10 o11
    have hs' := hs.add zt
    obtain ⟨o2', o6', o7', o8', o9', o10', o11', ih, ihs⟩ := last_loop P hm L bs hN hc ha seats n hn M w hwb hwl r (pre ++ [b]) (s + lastOne seats (unw bs) pre r b) (k + 1) (some (bkD b)) (some (.int (pre.length : Nat))) (some (.lst (rds (cntQ (chsQ pre))))) (some (.lst (rds (cntQ (chsQ r))))) (some (.lst (rds (cntQ (chsQ r ++ chsQ (unw bs)))))) (some (rd (lastQ seats (unw bs) r))) (some (rd (meanQ pre))) (by rw [hw]; simp) (by simp [hk]) (by rw [Nat.mul_add, Nat.mul_one]; exact hs')
    refine ⟨o2', o6', o7', o8', o9', o10', o11', ?_, ?_⟩
    · rw [List.zipIdx_cons, List.map_cons, forW_cons]
      simp only [ends_rt, ends_nx, ends_exc, bind_ok, bind_exc, ret_some, retB_some, retL_some, retE_some, ev_var, ev_cst, ev_gint, ev_gstr, ev_gfn, ev_bin, ev_neg, ev_not, ev_bop, ev_cmp, ev_chain, ev_ite, ev_call, ev_isi, ev_blt, ev_mth, ev_sub, ev_slc, ev_tup, ev_lst, ev_lc, ev_live, ev_srt, ev_srk, evs_nil, evs_cons, evx_nil, evx_cons, evO_none, evO_some, evB_one, evB_and, evB_or, evT_nil, evT_one, exs_nil, exs_cons, nxt_nx, nxt_rt, nxt_exc, ex_asg, ex_own, ex_par, ex_app, ex_exn, ex_sti, ex_sto, ex_aug, ex_exp, ex_ret, ex_ifs, ex_fors, ex_whl, ex_rse, ex_tri, ex_frz, cstD, Tg.put, Tg.puts, startD, wipeD, kept_int, kept_bl, kept_str, kept_non, kept_tup, kept_lst, kept_ext, kept_ref, kept_fn, kept_exc, cmp_eq_int, cmp_ne_int, cmp_lt_int, cmp_le_int, cmp_gt_int, cmp_ge_int, List.map_cons, List.map_nil, List.length_cons, List.length_nil, Nat.reduceAdd, Nat.reduceSub, Nat.reduceLeDiff, List.replicate, List.cons_append, List.nil_append, List.append_nil, List.getElem?_cons_zero, List.getElem?_cons_succ, List.getElem?_nil, List.set_cons_zero, List.set_cons_succ, List.all_cons, List.all_nil, nown, Bool.and_true, Bool.true_and, Bool.and_false, Bool.false_and, if_true, if_false, Bool.false_eq_true, Bool.not_true, Bool.not_false, reduceIte, len6, Int.cast_ofNat_Int, beq_self_eq_true, Int.reduceBEq, Int.reduceAdd, Int.reduceNeg, decide_true, decide_false, Int.reduceLT, Int.reduceLE, Int.reduceToNat, turn]
      rw [show pre.length + 1 = (pre ++ [b]).length by simp]
      exact ih
    · rw [lastSum, List.length_cons, show k + (r.length + 1) = k + 1 + r.length by omega]
      exact ihs
theorem wil_unw (bs : List Bk) : (wil bs).length + (unw bs).length = bs.length := by
  unfold wil unw
  induction bs with
  | nil => rfl
  | cons b bs ih =>
    rw [List.filter_cons, List.filter_cons]
    cases h : b.ask.isSome with
    | true =>
      simp only [Bool.not_true, if_true, Bool.false_eq_true, if_false, List.length_cons]
      omega
    | false =>
      simp only [Bool.not_false, if_true, Bool.false_eq_true, if_false, List.length_cons]
      omega
theorem run_mean_last (P : Ports T fc fs fp ft fr fo fn) (hm : Has T fm 2 2 (L_more_than fo)) {f : Nat} (h : Has T f 2 16 (L_mean_last fn ft fp fo fm)) {D' N A : Nat} (L : LB D' N A) (bs : List Bk) (hN : bs.length ≤ N) (hc : ∀ b ∈ bs, Un1 D' b.ch) (ha : ∀ b ∈ bs, ∀ a, b.ask = some a → a.natAbs ≤ A) (seats : Nat) :
    Cal T sub FUEL 6 f [.lst (bs.map bkD), .int seats] (rd (meanLastQ seats bs)) ∧ Sz (D' ^ (3 * N + 1)) ((N + 2) * ((N + 1) * (N + 1)) * A * N) (meanLastQ seats bs) := by
  have hwb : ∀ b ∈ wil bs, b ∈ bs ∧ ∃ a, b.ask = some a := fun b hb => by
    obtain ⟨h1, h2⟩ := List.mem_filter.mp hb
    exact ⟨h1, Option.isSome_iff_exists.mp h2⟩
  have n60 := L.n
  have wl := wil_unw bs
  have key := fun n hn M => last_loop (sub := sub) P hm L bs hN hc ha seats n hn M (wil bs) hwb (by omega) (wil bs) [] 0 0 none none none none none none none rfl rfl (Sz.zero _ (Nat.pow_pos L.d))
  refine ⟨cal_of (k := 5) h rfl fun n hn M => ?_, ?_⟩
  · obtain ⟨o2, o6, o7, o8, o9, o10, o11, e, _⟩ := key n hn M
    have lcW1 : ∀ M, lcW ⟨callF T sub FUEL n, sub, FUEL⟩ [some (.lst (bs.map bkD)), some (.int seats), none, none, none, none, none, none, none, none, none, none, none, none, none, none] M (.var 2 x0 p0) (.nm 2 x0 p0) [(.cmp .IsNot (.sub (.var 2 x0 p0) (.cst (.int 5) 0 p0) p0) (.cst .none 0 p0) p0)] [12, 2] (bs.map bkD) = .ok ((wil bs).map bkD) M := fun M =>
      lcW_filtE bkD bkD (fun b => b.ask.isSome) bs fun x _ => by
        have s5 : ∀ M, subD M (bkD x) (.int 5) = some (askD x.ask) := fun M => sub_t5 M _ _ _ _ _ _ _
        refine ⟨_, rfl, ?_, fun _ => ⟨?_, rfl⟩⟩
        · simp only [ends_rt, ends_nx, ends_exc, bind_ok, bind_exc, ret_some, retB_some, retL_some, retE_some, ev_var, ev_cst, ev_gint, ev_gstr, ev_gfn, ev_bin, ev_neg, ev_not, ev_bop, ev_cmp, ev_chain, ev_ite, ev_call, ev_isi, ev_blt, ev_mth, ev_sub, ev_slc, ev_tup, ev_lst, ev_lc, ev_live, ev_srt, ev_srk, evs_nil, evs_cons, evx_nil, evx_cons, evO_none, evO_some, evB_one, evB_and, evB_or, evT_nil, evT_one, exs_nil, exs_cons, nxt_nx, nxt_rt, nxt_exc, ex_asg, ex_own, ex_par, ex_app, ex_exn, ex_sti, ex_sto, ex_aug, ex_exp, ex_ret, ex_ifs, ex_fors, ex_whl, ex_rse, ex_tri, ex_frz, cstD, Tg.put, Tg.puts, startD, wipeD, kept_int, kept_bl, kept_str, kept_non, kept_tup, kept_lst, kept_ext, kept_ref, kept_fn, kept_exc, cmp_eq_int, cmp_ne_int, cmp_lt_int, cmp_le_int, cmp_gt_int, cmp_ge_int, List.map_cons, List.map_nil, List.length_cons, List.length_nil, Nat.reduceAdd, Nat.reduceSub, Nat.reduceLeDiff, List.replicate, List.cons_append, List.nil_append, List.append_nil, List.getElem?_cons_zero, List.getElem?_cons_succ, List.getElem?_nil, List.set_cons_zero, List.set_cons_succ, List.all_cons, List.all_nil, nown, Bool.and_true, Bool.true_and, Bool.and_false, Bool.false_and, if_true, if_false, Bool.false_eq_true, Bool.not_true, Bool.not_false, reduceIte, len6, Int.cast_ofNat_Int, beq_self_eq_true, Int.reduceBEq, Int.reduceAdd, Int.reduceNeg, decide_true, decide_false, Int.reduceLT, Int.reduceLE, Int.reduceToNat, s5, isnot_none, isNon_ask, Bool.not_not]
        · simp only [ends_rt, ends_nx, ends_exc, bind_ok, bind_exc, ret_some, retB_some, retL_some, retE_some, ev_var, ev_cst, ev_gint, ev_gstr, ev_gfn, ev_bin, ev_neg, ev_not, ev_bop, ev_cmp, ev_chain, ev_ite, ev_call, ev_isi, ev_blt, ev_mth, ev_sub, ev_slc, ev_tup, ev_lst, ev_lc, ev_live, ev_srt, ev_srk, evs_nil, evs_cons, evx_nil, evx_cons, evO_none, evO_some, evB_one, evB_and, evB_or, evT_nil, evT_one, exs_nil, exs_cons, nxt_nx, nxt_rt, nxt_exc, ex_asg, ex_own, ex_par, ex_app, ex_exn, ex_sti, ex_sto, ex_aug, ex_exp, ex_ret, ex_ifs, ex_fors, ex_whl, ex_rse, ex_tri, ex_frz, cstD, Tg.put, Tg.puts, startD, wipeD, kept_int, kept_bl, kept_str, kept_non, kept_tup, kept_lst, kept_ext, kept_ref, kept_fn, kept_exc, cmp_eq_int, cmp_ne_int, cmp_lt_int, cmp_le_int, cmp_gt_int, cmp_ge_int, List.map_cons, List.map_nil, List.length_cons, List.length_nil, Nat.reduceAdd, Nat.reduceSub, Nat.reduceLeDiff, List.replicate, List.cons_append, List.nil_append, List.append_nil, List.getElem?_cons_zero, List.getElem?_cons_succ, List.getElem?_nil, List.set_cons_zero, List.set_cons_succ, List.all_cons, List.all_nil, nown, Bool.and_true, Bool.true_and, Bool.and_false, Bool.false_and, if_true, if_false, Bool.false_eq_true, Bool.not_true, Bool.not_false, reduceIte, len6, Int.cast_ofNat_Int, beq_self_eq_true, Int.reduceBEq, Int.reduceAdd, Int.reduceNeg, decide_true, decide_false, Int.reduceLT, Int.reduceLE, Int.reduceToNat]
    have lcU1 : ∀ M, lcW ⟨callF T sub FUEL n, sub, FUEL⟩ [some (.lst (bs.map bkD)), some (.int seats), none, some (.lst ((wil bs).map bkD)), none, none, none, none, none, none, none, none, none, none, none, none] M (.sub (.var 2 x0 p0) (.cst (.int 3) 0 p0) p0) (.nm 2 x0 p0) [(.cmp .Is (.sub (.var 2 x0 p0) (.cst (.int 5) 0 p0) p0) (.cst .none 0 p0) p0)] [12, 2] (bs.map bkD) = .ok (rds (chsQ (unw bs))) M := fun M =>
      ch_lcU (r1 := fun x => [some (.lst (bs.map bkD)), some (.int seats), some (bkD x), some (.lst ((wil bs).map bkD)), none, none, none, none, none, none, none, none, none, none, none, none]) bs fun x _ => ⟨rfl, rfl⟩
    have mu : ∀ x ∈ unw bs, x ∈ bs := fun x hx => (List.mem_filter.mp hx).1
    have b1 : ((wil bs).map bkD).length ≤ sizeLine := big_le (by rw [List.length_map]; omega)
    have b2 : (rds (chsQ (unw bs))).length ≤ sizeLine := big_le (by rw [rds_len, chs_len]; omega)
    have hcn := (run_counted (sub := sub) P.p P.times P.rest P.plus P.counted L.d (chs_un hc mu) (by
      rw [chs_len]
      have h1 : 2 * D' ^ (unw bs).length ≤ 2 * D' ^ (4 * N + 4) := Nat.mul_le_mul_left _ (L.pw (by omega))
      have h2 : 2 * D' ^ (4 * N + 4) < 2 * 2 ^ 1500 := Nat.mul_lt_mul_of_pos_left L.z (by decide)
      rw [← Nat.pow_succ'] at h2
      exact Nat.lt_of_le_of_lt h1 (Nat.lt_of_lt_of_le h2 (pow_le' (by decide)))) (by rw [chs_len]; omega)).1
    rw [show ([] : List Bk).length = 0 from rfl, rd_0] at e
    unfold L_mean_last
    simp only [ends_rt, ends_nx, ends_exc, bind_ok, bind_exc, ret_some, retB_some, retL_some, retE_some, ev_var, ev_cst, ev_gint, ev_gstr, ev_gfn, ev_bin, ev_neg, ev_not, ev_bop, ev_cmp, ev_chain, ev_ite, ev_call, ev_isi, ev_blt, ev_mth, ev_sub, ev_slc, ev_tup, ev_lst, ev_lc, ev_live, ev_srt, ev_srk, evs_nil, evs_cons, evx_nil, evx_cons, evO_none, evO_some, evB_one, evB_and, evB_or, evT_nil, evT_one, exs_nil, exs_cons, nxt_nx, nxt_rt, nxt_exc, ex_asg, ex_own, ex_par, ex_app, ex_exn, ex_sti, ex_sto, ex_aug, ex_exp, ex_ret, ex_ifs, ex_fors, ex_whl, ex_rse, ex_tri, ex_frz, cstD, Tg.put, Tg.puts, startD, wipeD, kept_int, kept_bl, kept_str, kept_non, kept_tup, kept_lst, kept_ext, kept_ref, kept_fn, kept_exc, cmp_eq_int, cmp_ne_int, cmp_lt_int, cmp_le_int, cmp_gt_int, cmp_ge_int, List.map_cons, List.map_nil, List.length_cons, List.length_nil, Nat.reduceAdd, Nat.reduceSub, Nat.reduceLeDiff, List.replicate, List.cons_append, List.nil_append, List.append_nil, List.getElem?_cons_zero, List.getElem?_cons_succ, List.getElem?_nil, List.set_cons_zero, List.set_cons_succ, List.all_cons, List.all_nil, nown, Bool.and_true, Bool.true_and, Bool.and_false, Bool.false_and, if_true, if_false, Bool.false_eq_true, Bool.not_true, Bool.not_false, reduceIte, len6, Int.cast_ofNat_Int, beq_self_eq_true, Int.reduceBEq, Int.reduceAdd, Int.reduceNeg, decide_true, decide_false, Int.reduceLT, Int.reduceLE, Int.reduceToNat, srcD, items, litems, lcW1, b1, lcU1, b2, hcn n (by omega), Option.map_some, enm_map, e, kept_rd]
    rfl
  · obtain ⟨_, _, _, _, _, _, _, _, hs⟩ := key 5 (Nat.le_refl _) []
    rw [Nat.zero_add] at hs
    exact hs.mono (Nat.mul_le_mul_left _ (by omega))
end
end L2.Z
set_option Elab.async false
set_option linter.all false
set_option maxRecDepth 100000
set_option maxHeartbeats 2000000
set_option exponentiation.threshold 9000
/-! ### selling: looking up -/
namespace L2.Z
open PySem
structure Gd where
  name : Str
  fr : Str
  to : Str
  lv : Int
  cm : Int
  seats : Int
def gdD (g : Gd) : D := .tup [.str g.name, .str g.fr, .str g.to, .int g.lv, .int g.cm, .int g.seats]
def L_booked_at : List S := [
  .ret (.lc (.var 3 x0 p0) (.nm 3 x0 p0) .one [(.sub (.var 0 x0 p0) (.cst (.int 1) 0 p0) p0)] [(.cmp .Eq (.sub (.var 3 x0 p0) (.cst (.int 1) 0 p0) p0) (.var 1 x0 p0) p0)] sc0 [(x0, 2), (x0, 3)] p0) p0]
def L_going_of : List S := [
  .ret (.sub (.lc (.var 3 x0 p0) (.nm 3 x0 p0) .one [(.sub (.var 0 x0 p0) (.cst (.int 0) 0 p0) p0)] [(.cmp .Eq (.sub (.var 3 x0 p0) (.cst (.int 0) 0 p0) p0) (.var 1 x0 p0) p0)] sc0 [(x0, 2), (x0, 3)] p0) (.cst (.int 0) 0 p0) p0) p0]
def L_willing_mean (own last : Nat) : List S := [
  .ret (.ite (.cmp .Eq (.sub (.var 0 x0 p0) (.cst (.int 0) 0 p0) p0) (.cst (.str "own") 0 p0) p0) (.call own x0 p0 [(.var 1 x0 p0), (.var 2 x0 p0)] p0) (.call last x0 p0 [(.var 1 x0 p0), (.var 2 x0 p0)] p0) p0) p0]
section
variable {T : Nat → Option Fn} {sub : Nat → Nat → Bool} {fuel : Nat}
theorem run_booked_at {f : Nat} (h : Has T f 2 4 L_booked_at) (a r : D) (bs : List Bk) (hs : ∀ b ∈ bs, b.ok) (hl : bs.length ≤ 1000) (z : Str) (hz : PyData.strOk z = true) : Cal T sub fuel 1 f [.tup [a, .tup (bs.map bkD), r], .str z] (.lst ((bs.filter fun b => b.going == z).map bkD)) := by
  refine cal_of (k := 0) h rfl fun n hn M => ?_
  have lc : ∀ M, lcW ⟨callF T sub fuel n, sub, fuel⟩ [some (.tup [a, .tup (bs.map bkD), r]), some (.str z), none, none] M (.var 3 x0 p0) (.nm 3 x0 p0) [(.cmp .Eq (.sub (.var 3 x0 p0) (.cst (.int 1) 0 p0) p0) (.var 1 x0 p0) p0)] [2, 3] (bs.map bkD) = .ok ((bs.filter fun b => b.going == z).map bkD) M := fun M =>
    lcW_filtE bkD bkD (fun b => b.going == z) bs fun x hx => by
      have s1 : ∀ M, subD M (bkD x) (.int 1) = some (.str x.going) := fun M => sub_t1 M _ _ _
      refine ⟨_, rfl, ?_, fun _ => ⟨?_, rfl⟩⟩
      · simp only [ends_rt, ends_nx, ends_exc, bind_ok, bind_exc, ret_some, retB_some, retL_some, retE_some, ev_var, ev_cst, ev_gint, ev_gstr, ev_gfn, ev_bin, ev_neg, ev_not, ev_bop, ev_cmp, ev_chain, ev_ite, ev_call, ev_isi, ev_blt, ev_mth, ev_sub, ev_slc, ev_tup, ev_lst, ev_lc, ev_live, ev_srt, ev_srk, evs_nil, evs_cons, evx_nil, evx_cons, evO_none, evO_some, evB_one, evB_and, evB_or, evT_nil, evT_one, exs_nil, exs_cons, nxt_nx, nxt_rt, nxt_exc, ex_asg, ex_own, ex_par, ex_app, ex_exn, ex_sti, ex_sto, ex_aug, ex_exp, ex_ret, ex_ifs, ex_fors, ex_whl, ex_rse, ex_tri, ex_frz, cstD, Tg.put, Tg.puts, startD, wipeD, kept_int, kept_bl, kept_str, kept_non, kept_tup, kept_lst, kept_ext, kept_ref, kept_fn, kept_exc, cmp_eq_int, cmp_ne_int, cmp_lt_int, cmp_le_int, cmp_gt_int, cmp_ge_int, List.map_cons, List.map_nil, List.length_cons, List.length_nil, Nat.reduceAdd, Nat.reduceSub, Nat.reduceLeDiff, List.replicate, List.cons_append, List.nil_append, List.append_nil, List.getElem?_cons_zero, List.getElem?_cons_succ, List.getElem?_nil, List.set_cons_zero, List.set_cons_succ, List.all_cons, List.all_nil, nown, Bool.and_true, Bool.true_and, Bool.and_false, Bool.false_and, if_true, if_false, Bool.false_eq_true, Bool.not_true, Bool.not_false, reduceIte, len6, Int.cast_ofNat_Int, beq_self_eq_true, Int.reduceBEq, Int.reduceAdd, Int.reduceNeg, decide_true, decide_false, Int.reduceLT, Int.reduceLE, Int.reduceToNat, s1, eq_str _ _ _ (hs x hx).2 hz]
      · simp only [ends_rt, ends_nx, ends_exc, bind_ok, bind_exc, ret_some, retB_some, retL_some, retE_some, ev_var, ev_cst, ev_gint, ev_gstr, ev_gfn, ev_bin, ev_neg, ev_not, ev_bop, ev_cmp, ev_chain, ev_ite, ev_call, ev_isi, ev_blt, ev_mth, ev_sub, ev_slc, ev_tup, ev_lst, ev_lc, ev_live, ev_srt, ev_srk, evs_nil, evs_cons, evx_nil, evx_cons, evO_none, evO_some, evB_one, evB_and, evB_or, evT_nil, evT_one, exs_nil, exs_cons, nxt_nx, nxt_rt, nxt_exc, ex_asg, ex_own, ex_par, ex_app, ex_exn, ex_sti, ex_sto, ex_aug, ex_exp, ex_ret, ex_ifs, ex_fors, ex_whl, ex_rse, ex_tri, ex_frz, cstD, Tg.put, Tg.puts, startD, wipeD, kept_int, kept_bl, kept_str, kept_non, kept_tup, kept_lst, kept_ext, kept_ref, kept_fn, kept_exc, cmp_eq_int, cmp_ne_int, cmp_lt_int, cmp_le_int, cmp_gt_int, cmp_ge_int, List.map_cons, List.map_nil, List.length_cons, List.length_nil, Nat.reduceAdd, Nat.reduceSub, Nat.reduceLeDiff, List.replicate, List.cons_append, List.nil_append, List.append_nil, List.getElem?_cons_zero, List.getElem?_cons_succ, List.getElem?_nil, List.set_cons_zero, List.set_cons_succ, List.all_cons, List.all_nil, nown, Bool.and_true, Bool.true_and, Bool.and_false, Bool.false_and, if_true, if_false, Bool.false_eq_true, Bool.not_true, Bool.not_false, reduceIte, len6, Int.cast_ofNat_Int, beq_self_eq_true, Int.reduceBEq, Int.reduceAdd, Int.reduceNeg, decide_true, decide_false, Int.reduceLT, Int.reduceLE, Int.reduceToNat]
  have b1 : ((bs.filter fun b => b.going == z).map bkD).length ≤ sizeLine := big_le (by
    rw [List.length_map]
    exact Nat.le_trans (List.length_filter_le _ _) hl)
  unfold L_booked_at
  simp only [ends_rt, ends_nx, ends_exc, bind_ok, bind_exc, ret_some, retB_some, retL_some, retE_some, ev_var, ev_cst, ev_gint, ev_gstr, ev_gfn, ev_bin, ev_neg, ev_not, ev_bop, ev_cmp, ev_chain, ev_ite, ev_call, ev_isi, ev_blt, ev_mth, ev_sub, ev_slc, ev_tup, ev_lst, ev_lc, ev_live, ev_srt, ev_srk, evs_nil, evs_cons, evx_nil, evx_cons, evO_none, evO_some, evB_one, evB_and, evB_or, evT_nil, evT_one, exs_nil, exs_cons, nxt_nx, nxt_rt, nxt_exc, ex_asg, ex_own, ex_par, ex_app, ex_exn, ex_sti, ex_sto, ex_aug, ex_exp, ex_ret, ex_ifs, ex_fors, ex_whl, ex_rse, ex_tri, ex_frz, cstD, Tg.put, Tg.puts, startD, wipeD, kept_int, kept_bl, kept_str, kept_non, kept_tup, kept_lst, kept_ext, kept_ref, kept_fn, kept_exc, cmp_eq_int, cmp_ne_int, cmp_lt_int, cmp_le_int, cmp_gt_int, cmp_ge_int, List.map_cons, List.map_nil, List.length_cons, List.length_nil, Nat.reduceAdd, Nat.reduceSub, Nat.reduceLeDiff, List.replicate, List.cons_append, List.nil_append, List.append_nil, List.getElem?_cons_zero, List.getElem?_cons_succ, List.getElem?_nil, List.set_cons_zero, List.set_cons_succ, List.all_cons, List.all_nil, nown, Bool.and_true, Bool.true_and, Bool.and_false, Bool.false_and, if_true, if_false, Bool.false_eq_true, Bool.not_true, Bool.not_false, reduceIte, len6, Int.cast_ofNat_Int, beq_self_eq_true, Int.reduceBEq, Int.reduceAdd, Int.reduceNeg, decide_true, decide_false, Int.reduceLT, Int.reduceLE, Int.reduceToNat, sub_t1, src_one_tup, lc, b1]
def Gd.ok (g : Gd) : Prop := PyData.strOk g.name = true
theorem run_going_of {f : Nat} (h : Has T f 2 4 L_going_of) (b r : D) (gs : List Gd) (hs : ∀ g ∈ gs, g.ok) (hl : gs.length ≤ 1000) (z : Str) (hz : PyData.strOk z = true) (g : Gd) (hg : gs.find? (fun g => g.name == z) = some g) : Cal T sub fuel 1 f [.tup [.tup (gs.map gdD), b, r], .str z] (gdD g) := by
  refine cal_of (k := 0) h rfl fun n hn M => ?_
  have lc : ∀ M, lcW ⟨callF T sub fuel n, sub, fuel⟩ [some (.tup [.tup (gs.map gdD), b, r]), some (.str z), none, none] M (.var 3 x0 p0) (.nm 3 x0 p0) [(.cmp .Eq (.sub (.var 3 x0 p0) (.cst (.int 0) 0 p0) p0) (.var 1 x0 p0) p0)] [2, 3] (gs.map gdD) = .ok ((gs.filter fun g => g.name == z).map gdD) M := fun M =>
    lcW_filtE gdD gdD (fun g => g.name == z) gs fun x hx => by
      have s0 : ∀ M, subD M (gdD x) (.int 0) = some (.str x.name) := fun M => sub_t0 M _ _
      refine ⟨_, rfl, ?_, fun _ => ⟨?_, rfl⟩⟩
      · simp only [ends_rt, ends_nx, ends_exc, bind_ok, bind_exc, ret_some, retB_some, retL_some, retE_some, ev_var, ev_cst, ev_gint, ev_gstr, ev_gfn, ev_bin, ev_neg, ev_not, ev_bop, ev_cmp, ev_chain, ev_ite, ev_call, ev_isi, ev_blt, ev_mth, ev_sub, ev_slc, ev_tup, ev_lst, ev_lc, ev_live, ev_srt, ev_srk, evs_nil, evs_cons, evx_nil, evx_cons, evO_none, evO_some, evB_one, evB_and, evB_or, evT_nil, evT_one, exs_nil, exs_cons, nxt_nx, nxt_rt, nxt_exc, ex_asg, ex_own, ex_par, ex_app, ex_exn, ex_sti, ex_sto, ex_aug, ex_exp, ex_ret, ex_ifs, ex_fors, ex_whl, ex_rse, ex_tri, ex_frz, cstD, Tg.put, Tg.puts, startD, wipeD, kept_int, kept_bl, kept_str, kept_non, kept_tup, kept_lst, kept_ext, kept_ref, kept_fn, kept_exc, cmp_eq_int, cmp_ne_int, cmp_lt_int, cmp_le_int, cmp_gt_int, cmp_ge_int, List.map_cons, List.map_nil, List.length_cons, List.length_nil, Nat.reduceAdd, Nat.reduceSub, Nat.reduceLeDiff, List.replicate, List.cons_append, List.nil_append, List.append_nil, List.getElem?_cons_zero, List.getElem?_cons_succ, List.getElem?_nil, List.set_cons_zero, List.set_cons_succ, List.all_cons, List.all_nil, nown, Bool.and_true, Bool.true_and, Bool.and_false, Bool.false_and, if_true, if_false, Bool.false_eq_true, Bool.not_true, Bool.not_false, reduceIte, len6, Int.cast_ofNat_Int, beq_self_eq_true, Int.reduceBEq, Int.reduceAdd, Int.reduceNeg, decide_true, decide_false, Int.reduceLT, Int.reduceLE, Int.reduceToNat, s0, eq_str _ _ _ (hs x hx) hz]
      · simp only [ends_rt, ends_nx, ends_exc, bind_ok, bind_exc, ret_some, retB_some, retL_some, retE_some, ev_var, ev_cst, ev_gint, ev_gstr, ev_gfn, ev_bin, ev_neg, ev_not, ev_bop, ev_cmp, ev_chain, ev_ite, ev_call, ev_isi, ev_blt, ev_mth, ev_sub, ev_slc, ev_tup, ev_lst, ev_lc, ev_live, ev_srt, ev_srk, evs_nil, evs_cons, evx_nil, evx_cons, evO_none, evO_some, evB_one, evB_and, evB_or, evT_nil, evT_one, exs_nil, exs_cons, nxt_nx, nxt_rt, nxt_exc, ex_asg, ex_own, ex_par, ex_app, ex_exn, ex_sti, ex_sto, ex_aug, ex_exp, ex_ret, ex_ifs, ex_fors, ex_whl, ex_rse, ex_tri, ex_frz, cstD, Tg.put, Tg.puts, startD, wipeD, kept_int, kept_bl, kept_str, kept_non, kept_tup, kept_lst, kept_ext, kept_ref, kept_fn, kept_exc, cmp_eq_int, cmp_ne_int, cmp_lt_int, cmp_le_int, cmp_gt_int, cmp_ge_int, List.map_cons, List.map_nil, List.length_cons, List.length_nil, Nat.reduceAdd, Nat.reduceSub, Nat.reduceLeDiff, List.replicate, List.cons_append, List.nil_append, List.append_nil, List.getElem?_cons_zero, List.getElem?_cons_succ, List.getElem?_nil, List.set_cons_zero, List.set_cons_succ, List.all_cons, List.all_nil, nown, Bool.and_true, Bool.true_and, Bool.and_false, Bool.false_and, if_true, if_false, Bool.false_eq_true, Bool.not_true, Bool.not_false, reduceIte, len6, Int.cast_ofNat_Int, beq_self_eq_true, Int.reduceBEq, Int.reduceAdd, Int.reduceNeg, decide_true, decide_false, Int.reduceLT, Int.reduceLE, Int.reduceToNat]
  have b1 : ((gs.filter fun g => g.name == z).map gdD).length ≤ sizeLine := big_le (by
    rw [List.length_map]
    exact Nat.le_trans (List.length_filter_le _ _) hl)
  have e0 : ∀ M, subD M (.lst ((gs.filter fun g => g.name == z).map gdD)) (.int 0) = some (gdD g) := fun M => by
    rw [show (0 : Int) = ((0 : Nat) : Int) from rfl, sub_lst, List.getElem?_map]
    have : (gs.filter fun g => g.name == z)[0]? = some g := by
      rw [← List.head?_eq_getElem?, List.head?_filter]
      exact hg
    rw [this]; rfl
  have kg : ∀ M, kept (gdD g) M = .ok (gdD g) M := fun _ => rfl
  unfold L_going_of
  simp only [ends_rt, ends_nx, ends_exc, bind_ok, bind_exc, ret_some, retB_some, retL_some, retE_some, ev_var, ev_cst, ev_gint, ev_gstr, ev_gfn, ev_bin, ev_neg, ev_not, ev_bop, ev_cmp, ev_chain, ev_ite, ev_call, ev_isi, ev_blt, ev_mth, ev_sub, ev_slc, ev_tup, ev_lst, ev_lc, ev_live, ev_srt, ev_srk, evs_nil, evs_cons, evx_nil, evx_cons, evO_none, evO_some, evB_one, evB_and, evB_or, evT_nil, evT_one, exs_nil, exs_cons, nxt_nx, nxt_rt, nxt_exc, ex_asg, ex_own, ex_par, ex_app, ex_exn, ex_sti, ex_sto, ex_aug, ex_exp, ex_ret, ex_ifs, ex_fors, ex_whl, ex_rse, ex_tri, ex_frz, cstD, Tg.put, Tg.puts, startD, wipeD, kept_int, kept_bl, kept_str, kept_non, kept_tup, kept_lst, kept_ext, kept_ref, kept_fn, kept_exc, cmp_eq_int, cmp_ne_int, cmp_lt_int, cmp_le_int, cmp_gt_int, cmp_ge_int, List.map_cons, List.map_nil, List.length_cons, List.length_nil, Nat.reduceAdd, Nat.reduceSub, Nat.reduceLeDiff, List.replicate, List.cons_append, List.nil_append, List.append_nil, List.getElem?_cons_zero, List.getElem?_cons_succ, List.getElem?_nil, List.set_cons_zero, List.set_cons_succ, List.all_cons, List.all_nil, nown, Bool.and_true, Bool.true_and, Bool.and_false, Bool.false_and, if_true, if_false, Bool.false_eq_true, Bool.not_true, Bool.not_false, reduceIte, len6, Int.cast_ofNat_Int, beq_self_eq_true, Int.reduceBEq, Int.reduceAdd, Int.reduceNeg, decide_true, decide_false, Int.reduceLT, Int.reduceLE, Int.reduceToNat, sub_t0, src_one_tup, lc, b1, e0, kg]
theorem run_willing {f fo fl : Nat} (h : Has T f 3 3 (L_willing_mean fo fl)) (w : Str) (rows : D) (hw : PyData.strOk w = true) (xs : List D) (seats : Int) (k : Nat) (q : D) (hn : nown q = true) (ho : (w == "own") = true → Cal T sub fuel k fo [.lst xs, .int seats] q) (hl : (w == "own") = false → Cal T sub fuel k fl [.lst xs, .int seats] q) : Cal T sub fuel (k + 1) f [.tup [.str w, rows], .lst xs, .int seats] q := by
  refine cal_of (k := k) h rfl fun n hk M => ?_
  have hs : PyData.strOk ("own" : Str) = true := by decide +kernel
  unfold L_willing_mean
  cases e : (w == "own") with
  | true => simp only [ends_rt, ends_nx, ends_exc, bind_ok, bind_exc, ret_some, retB_some, retL_some, retE_some, ev_var, ev_cst, ev_gint, ev_gstr, ev_gfn, ev_bin, ev_neg, ev_not, ev_bop, ev_cmp, ev_chain, ev_ite, ev_call, ev_isi, ev_blt, ev_mth, ev_sub, ev_slc, ev_tup, ev_lst, ev_lc, ev_live, ev_srt, ev_srk, evs_nil, evs_cons, evx_nil, evx_cons, evO_none, evO_some, evB_one, evB_and, evB_or, evT_nil, evT_one, exs_nil, exs_cons, nxt_nx, nxt_rt, nxt_exc, ex_asg, ex_own, ex_par, ex_app, ex_exn, ex_sti, ex_sto, ex_aug, ex_exp, ex_ret, ex_ifs, ex_fors, ex_whl, ex_rse, ex_tri, ex_frz, cstD, Tg.put, Tg.puts, startD, wipeD, kept_int, kept_bl, kept_str, kept_non, kept_tup, kept_lst, kept_ext, kept_ref, kept_fn, kept_exc, cmp_eq_int, cmp_ne_int, cmp_lt_int, cmp_le_int, cmp_gt_int, cmp_ge_int, List.map_cons, List.map_nil, List.length_cons, List.length_nil, Nat.reduceAdd, Nat.reduceSub, Nat.reduceLeDiff, List.replicate, List.cons_append, List.nil_append, List.append_nil, List.getElem?_cons_zero, List.getElem?_cons_succ, List.getElem?_nil, List.set_cons_zero, List.set_cons_succ, List.all_cons, List.all_nil, nown, Bool.and_true, Bool.true_and, Bool.and_false, Bool.false_and, if_true, if_false, Bool.false_eq_true, Bool.not_true, Bool.not_false, reduceIte, len6, Int.cast_ofNat_Int, beq_self_eq_true, Int.reduceBEq, Int.reduceAdd, Int.reduceNeg, decide_true, decide_false, Int.reduceLT, Int.reduceLE, Int.reduceToNat, sub_t0, eq_str _ _ _ hw hs, e, ho e n hk, kept_ok hn]
  | false => simp only [ends_rt, ends_nx, ends_exc, bind_ok, bind_exc, ret_some, retB_some, retL_some, retE_some, ev_var, ev_cst, ev_gint, ev_gstr, ev_gfn, ev_bin, ev_neg, ev_not, ev_bop, ev_cmp, ev_chain, ev_ite, ev_call, ev_isi, ev_blt, ev_mth, ev_sub, ev_slc, ev_tup, ev_lst, ev_lc, ev_live, ev_srt, ev_srk, evs_nil, evs_cons, evx_nil, evx_cons, evO_none, evO_some, evB_one, evB_and, evB_or, evT_nil, evT_one, exs_nil, exs_cons, nxt_nx, nxt_rt, nxt_exc, ex_asg, ex_own, ex_par, ex_app, ex_exn, ex_sti, ex_sto, ex_aug, ex_exp, ex_ret, ex_ifs, ex_fors, ex_whl, ex_rse, ex_tri, ex_frz, cstD, Tg.put, Tg.puts, startD, wipeD, kept_int, kept_bl, kept_str, kept_non, kept_tup, kept_lst, kept_ext, kept_ref, kept_fn, kept_exc, cmp_eq_int, cmp_ne_int, cmp_lt_int, cmp_le_int, cmp_gt_int, cmp_ge_int, List.map_cons, List.map_nil, List.length_cons, List.length_nil, Nat.reduceAdd, Nat.reduceSub, Nat.reduceLeDiff, List.replicate, List.cons_append, List.nil_append, List.append_nil, List.getElem?_cons_zero, List.getElem?_cons_succ, List.getElem?_nil, List.set_cons_zero, List.set_cons_succ, List.all_cons, List.all_nil, nown, Bool.and_true, Bool.true_and, Bool.and_false, Bool.false_and, if_true, if_false, Bool.false_eq_true, Bool.not_true, Bool.not_false, reduceIte, len6, Int.cast_ofNat_Int, beq_self_eq_true, Int.reduceBEq, Int.reduceAdd, Int.reduceNeg, decide_true, decide_false, Int.reduceLT, Int.reduceLE, Int.reduceToNat, sub_t0, eq_str _ _ _ hw hs, e, hl e n hk, kept_ok hn]
end
end L2.Z
set_option Elab.async false
set_option linter.all false
set_option maxRecDepth 100000
set_option maxHeartbeats 2000000
set_option exponentiation.threshold 9000
/-! ### selling: what so many more are worth -/
namespace L2.Z
open PySem
def L_worth_with (order booked going signed stays minus willing : Nat) : List S := [
  .asg (.nm 4 x0 p0) (.lc (.bin .Add (.tup [(.bin .Add (.cst (.str "~") 0 p0) (.sub (.cst (.str "abcdefghijkl") 0 p0) (.var 11 x0 p0) p0) p0), (.var 1 x0 p0)] 0 p0) (.var 2 x0 p0) p0) (.nm 11 x0 p0) (.rng p0 p0) [(.var 3 x0 p0)] [] sc0 [(x0, 10), (x0, 11)] p0) p0,
  .asg (.nm 5 x0 p0) (.call order x0 p0 [(.bin .Add (.call booked x0 p0 [(.var 0 x0 p0), (.var 1 x0 p0)] p0) (.var 4 x0 p0) p0)] p0) p0,
  .asg (.nm 6 x0 p0) (.sub (.call going x0 p0 [(.var 0 x0 p0), (.var 1 x0 p0)] p0) (.cst (.int 5) 0 p0) p0) p0,
  .asg (.nm 7 x0 p0) (.call signed x0 p0 [(.lc (.tup [(.sub (.var 12 x0 p0) (.cst (.int 2) 0 p0) p0), (.sub (.var 12 x0 p0) (.cst (.int 3) 0 p0) p0)] 0 p0) (.nm 12 x0 p0) .one [(.var 5 x0 p0)] [] sc0 [(x0, 10), (x0, 12)] p0)] p0) p0,
  .asg (.nm 8 x0 p0) (.sub (.sub (.sub (.sub (.var 0 x0 p0) (.cst (.int 2) 0 p0) p0) (.cst (.int 1) 0 p0) p0) (.cst (.int 0) 0 p0) p0) (.cst (.int 1) 0 p0) p0) p0,
  .asg (.nm 9 x0 p0) (.call signed x0 p0 [(.lc (.tup [(.var 8 x0 p0), (.var 13 x0 p0)] 0 p0) (.tp [(.nm 12 x0 p0), (.nm 13 x0 p0)] 0 p0) .one [(.call stays x0 p0 [(.var 5 x0 p0), (.var 6 x0 p0)] p0)] [(.cmp .Is (.sub (.var 12 x0 p0) (.cst (.int 5) 0 p0) p0) (.cst .none 0 p0) p0)] sc0 [(x0, 10), (x0, 12), (x0, 13)] p0)] p0) p0,
  .ret (.call minus x0 p0 [(.call minus x0 p0 [(.var 7 x0 p0), (.call willing x0 p0 [(.sub (.var 0 x0 p0) (.cst (.int 2) 0 p0) p0), (.var 5 x0 p0), (.var 6 x0 p0)] p0)] p0), (.var 9 x0 p0)] p0) p0]
/-- further ones: by their letter -/
def moreName (k : Nat) : Str := ⟨#[126, 97 + k]⟩
def moreBk (g : Str) (fare : Int) (ch : Rat) (rank : Int) (ask : Option Int) (k : Nat) : Bk := ⟨moreName k, g, fare, ch, rank, ask⟩
def kindD (fare : Int) (ch : Rat) (rank : Int) (ask : Option Int) : D := .tup [.int fare, rd ch, .int rank, askD ask]
theorem more_letter : ∀ k : Nat, k < 12 → ∀ M, subD M (.str "abcdefghijkl") (.int (k : Int)) = some (.str ⟨#[97 + k]⟩) := by
  intro k hk M
  have : ∀ k : Fin 12, subD [] (.str "abcdefghijkl") (.int ((k : Nat) : Int)) = some (.str ⟨#[97 + (k : Nat)]⟩) := by
    intro k
    match k with
    | ⟨0, _⟩ => rfl
    | ⟨1, _⟩ => rfl
    | ⟨2, _⟩ => rfl
    | ⟨3, _⟩ => rfl
    | ⟨4, _⟩ => rfl
    | ⟨5, _⟩ => rfl
    | ⟨6, _⟩ => rfl
    | ⟨7, _⟩ => rfl
    | ⟨8, _⟩ => rfl
    | ⟨9, _⟩ => rfl
    | ⟨10, _⟩ => rfl
    | ⟨11, _⟩ => rfl
  exact this ⟨k, hk⟩
end L2.Z
set_option Elab.async false
set_option linter.all false
set_option maxRecDepth 100000
set_option maxHeartbeats 2000000
set_option exponentiation.threshold 9000
/-! ### selling: what so many more are worth, run -/
namespace L2.Z
open PySem
def allBk (bs : List Bk) (z : Str) (fare : Int) (ch : Rat) (rank : Int) (ask : Option Int) (m : Nat) : List Bk := inOrder ((bs.filter fun b => b.going == z) ++ (List.range m).map (moreBk z fare ch rank ask))
def faresQ (all : List Bk) : Rat := signedQ (all.map fun b => (b.fare, b.ch))
def othersQ (seats : Nat) (first : Int) (all : List Bk) : Rat := signedQ (((staysQ seats all).filter fun p => !p.1.ask.isSome).map fun p => (first, p.2))
def willQ (w : Str) (seats : Nat) (all : List Bk) : Rat := if w == "own" then meanOwnQ seats all else meanLastQ seats all
def worthQ (w : Str) (seats : Nat) (first : Int) (all : List Bk) : Rat := faresQ all - willQ w seats all - othersQ seats first all
theorem rng_nat (m : Nat) (h : m ≤ 1000) (px p : Pos) : srcD (.rng px p) [.int (m : Int)] = some ((List.range m).map fun k => .int (k : Nat)) := by
  simp only [srcD]
  rw [if_pos (by omega)]
  unfold rngL
  simp
theorem add_tup (M : Mem) (xs ys : List D) (h : xs.length + ys.length ≤ sizeLine) : binD .Add M (.tup xs) (.tup ys) = some (.tup (xs ++ ys)) := by
  simp only [binD, addD, h, if_true]
theorem add_tilde (M : Mem) (c : Nat) : binD .Add M (.str "~") (.str ⟨#[c]⟩) = some (.str ⟨#[126, c]⟩) := rfl
section
variable {T : Nat → Option Fn} {sub : Nat → Nat → Bool}
theorem more_lc (n : Nat) (r0 : D) (z : Str) (fare : Int) (ch : Rat) (rank : Int) (ask : Option Int) (m : Nat) (hm : m ≤ 12) (M : Mem) :
    lcW ⟨callF T sub FUEL n, sub, FUEL⟩ [some r0, some (.str z), some (kindD fare ch rank ask), some (.int (m : Nat)), none, none, none, none, none, none, none, none, none, none] M (.bin .Add (.tup [(.bin .Add (.cst (.str "~") 0 p0) (.sub (.cst (.str "abcdefghijkl") 0 p0) (.var 11 x0 p0) p0) p0), (.var 1 x0 p0)] 0 p0) (.var 2 x0 p0) p0) (.nm 11 x0 p0) [] [10, 11] ((List.range m).map fun k => .int (k : Nat)) = .ok (((List.range m).map (moreBk z fare ch rank ask)).map bkD) M := by
  rw [List.map_map]
  exact lcW_mapE (fun k : Nat => D.int (k : Nat)) (bkD ∘ moreBk z fare ch rank ask) (List.range m) fun k hk => by
    have hk12 : k < 12 := by have := List.mem_range.mp hk; omega
    refine ⟨_, rfl, by rw [evT_nil], ?_, rfl⟩
    simp only [ends_rt, ends_nx, ends_exc, bind_ok, bind_exc, ret_some, retB_some, retL_some, retE_some, ev_var, ev_cst, ev_gint, ev_gstr, ev_gfn, ev_bin, ev_neg, ev_not, ev_bop, ev_cmp, ev_chain, ev_ite, ev_call, ev_isi, ev_blt, ev_mth, ev_sub, ev_slc, ev_tup, ev_lst, ev_lc, ev_live, ev_srt, ev_srk, evs_nil, evs_cons, evx_nil, evx_cons, evO_none, evO_some, evB_one, evB_and, evB_or, evT_nil, evT_one, exs_nil, exs_cons, nxt_nx, nxt_rt, nxt_exc, ex_asg, ex_own, ex_par, ex_app, ex_exn, ex_sti, ex_sto, ex_aug, ex_exp, ex_ret, ex_ifs, ex_fors, ex_whl, ex_rse, ex_tri, ex_frz, cstD, Tg.put, Tg.puts, startD, wipeD, kept_int, kept_bl, kept_str, kept_non, kept_tup, kept_lst, kept_ext, kept_ref, kept_fn, kept_exc, cmp_eq_int, cmp_ne_int, cmp_lt_int, cmp_le_int, cmp_gt_int, cmp_ge_int, List.map_cons, List.map_nil, List.length_cons, List.length_nil, Nat.reduceAdd, Nat.reduceSub, Nat.reduceLeDiff, List.replicate, List.cons_append, List.nil_append, List.append_nil, List.getElem?_cons_zero, List.getElem?_cons_succ, List.getElem?_nil, List.set_cons_zero, List.set_cons_succ, List.all_cons, List.all_nil, nown, Bool.and_true, Bool.true_and, Bool.and_false, Bool.false_and, if_true, if_false, Bool.false_eq_true, Bool.not_true, Bool.not_false, reduceIte, len6, Int.cast_ofNat_Int, beq_self_eq_true, Int.reduceBEq, Int.reduceAdd, Int.reduceNeg, decide_true, decide_false, Int.reduceLT, Int.reduceLE, Int.reduceToNat, more_letter k hk12, add_tilde, kindD]
    rw [add_tup _ [D.str ⟨#[126, 97 + k]⟩, D.str z] [D.int fare, rd ch, D.int rank, askD ask] (show 6 ≤ sizeLine by decide)]
    rfl
end
end L2.Z
set_option Elab.async false
set_option linter.all false
set_option maxRecDepth 100000
set_option maxHeartbeats 2000000
set_option exponentiation.threshold 9000
/-! ### selling: worth_with -/
namespace L2.Z
open PySem
structure Ix where
  common : Nat
  share : Nat
  plus : Nat
  minus : Nat
  times : Nat
  total : Nat
  rest : Nat
  counted : Nat
  key : Nat
  order : Nat
  signed : Nat
  more : Nat
  stays : Nat
  own : Nat
  last : Nat
  willing : Nat
  booked : Nat
  going : Nat
  worth : Nat
structure Sell (T : Nat → Option Fn) (i : Ix) : Prop where
  p : Ports T i.common i.share i.plus i.times i.rest i.total i.counted
  minus : Has T i.minus 2 2 (L_minus i.share)
  key : Has T i.key 1 1 L_stay_key
  order : Has T i.order 1 1 (L_in_order i.key)
  signed : Has T i.signed 1 5 (L_signed_sum i.share)
  more : Has T i.more 2 2 (L_more_than i.total)
  stays : Has T i.stays 2 8 (L_stays_by i.counted i.times i.total)
  own : Has T i.own 2 6 (L_mean_own i.stays i.total i.times)
  last : Has T i.last 2 16 (L_mean_last i.counted i.times i.plus i.total i.more)
  willing : Has T i.willing 3 3 (L_willing_mean i.own i.last)
  booked : Has T i.booked 2 4 L_booked_at
  going : Has T i.going 2 4 L_going_of
  worth : Has T i.worth 4 14 (L_worth_with i.order i.booked i.going i.signed i.stays i.minus i.willing)
theorem inOrder_perm (l : List Bk) : (inOrder l).Perm l := List.mergeSort_perm _ _
theorem inOrder_len (l : List Bk) : (inOrder l).length = l.length := (inOrder_perm l).length_eq
theorem inOrder_mem {l : List Bk} {b : Bk} (h : b ∈ inOrder l) : b ∈ l := (inOrder_perm l).mem_iff.mp h
end L2.Z
set_option Elab.async false
set_option linter.all false
set_option maxRecDepth 100000
set_option maxHeartbeats 2000000
set_option exponentiation.threshold 9000
/-! ### selling: how great worths are -/
namespace L2.Z
open PySem
theorem signed_fold_sz {D B A : Nat} : ∀ (l : List (Int × Rat)) (k : Nat) (s : Rat), Sz D (A * B * k) s → (∀ p ∈ l, Sz D B p.2 ∧ p.1.natAbs ≤ A) → Sz D (A * B * (k + l.length)) (l.foldl (fun s p => s + (p.1 : Rat) * p.2) s)
  | [], k, s, h, _ => h
  | p :: l, k, s, h, hl => by
    obtain ⟨hq, ha⟩ := hl p List.mem_cons_self
    have hi : Sz 1 A (p.1 : Rat) := Sz.int (by decide) ha
    have hprod := hi.mul hq
    rw [Nat.one_mul] at hprod
    have := signed_fold_sz l (k + 1) (s + (p.1 : Rat) * p.2) (by rw [Nat.mul_add, Nat.mul_one]; exact h.add hprod) fun q hq => hl q (List.mem_cons_of_mem _ hq)
    rw [List.foldl_cons, List.length_cons, show k + (l.length + 1) = k + 1 + l.length by omega]
    exact this
theorem signedQ_sz {D B A : Nat} {l : List (Int × Rat)} (hD : 0 < D) (hl : ∀ p ∈ l, Sz D B p.2 ∧ p.1.natAbs ≤ A) : Sz D (A * B * l.length) (signedQ l) := by
  have := signed_fold_sz (D := D) (B := B) (A := A) l 0 0 (Sz.zero _ hD) hl
  rw [Nat.zero_add] at this
  exact this
theorem meanOwnQ_sz {D' A : Nat} (hD' : 0 < D') (seats : Nat) (bs : List Bk) (hc : ∀ b ∈ bs, Un1 D' b.ch) (ha : ∀ b ∈ bs, ∀ a, b.ask = some a → a.natAbs ≤ A) : Sz (D' ^ bs.length) (bs.length * A * bs.length) (meanOwnQ seats bs) := by
  have sz := staysQ_sz hD' seats bs.length bs hc (Nat.le_refl _)
  have h1 := sumQ_sz (D := D' ^ bs.length) (B := bs.length * A) (qs := ((staysQ seats bs).filter fun p => p.1.ask.isSome).map fun p => p.2 * askQ p.1) (Nat.pow_pos hD') fun q hq => by
    obtain ⟨p, hp, rfl⟩ := List.mem_map.mp hq
    have hp := (List.mem_filter.mp hp).1
    have s2 : Sz 1 A (askQ p.1) := by
      unfold askQ
      split
      · rename_i a hq
        exact Sz.int (by decide) (ha p.1 (sz p hp).2 a hq)
      · exact Sz.zero _ (by decide)
    have := (sz p hp).1.mul s2
    rwa [Nat.mul_one] at this
  refine h1.mono (Nat.mul_le_mul_left _ ?_)
  rw [List.length_map]
  have := List.length_filter_le (fun p : Bk × Rat => p.1.ask.isSome) (staysQ seats bs)
  rwa [staysQ_len] at this
end L2.Z
set_option Elab.async false
set_option linter.all false
/-! ### the same rules, not by definition alone (the kernel checks them one by one) -/
namespace L2.Z
open PySem
theorem bind_okN {α β : Type} (a : α) (M : Mem) (f : α → Ev β) : (R.ok a M).bind f = f a M := Eq.trans rfl rfl
theorem bind_excN {α β : Type} (c : Nat) (M : Mem) (f : α → Ev β) : (R.exc c M : R α).bind f = .exc c M := Eq.trans rfl rfl
theorem ret_someN (d : D) (M : Mem) : ret (some d) M = .ok d M := Eq.trans rfl rfl
theorem retB_someN (b : Bool) (M : Mem) : retB (some b) M = .ok (.bl b) M := Eq.trans rfl rfl
theorem retL_someN (d : List D) (M : Mem) : retL (some d) M = .ok d M := Eq.trans rfl rfl
theorem retE_someN (r : Env) (M : Mem) : retE (some r) M = .ok (.nx r) M := Eq.trans rfl rfl
theorem ends_rtN (d : D) (M : Mem) : ends (.ok (.rt d) M) = .ok d M := Eq.trans rfl rfl
theorem ends_nxN (r : Env) (M : Mem) : ends (.ok (.nx r) M) = .ok .non M := Eq.trans rfl rfl
theorem ends_excN (c : Nat) (M : Mem) : ends (.exc c M) = .exc c M := Eq.trans rfl rfl
section
variable (C : Cfg) (r : Env) (M : Mem)
theorem nxt_nxN (ss) : nxt C ss (.ok (.nx r) M) = exs C ss r M := Eq.trans rfl rfl
theorem nxt_rtN (ss d) : nxt C ss (.ok (.rt d) M) = .ok (.rt d) M := Eq.trans rfl rfl
theorem nxt_excN (ss c) : nxt C ss (.exc c M) = .exc c M := Eq.trans rfl rfl
theorem kept_intN (i) : kept (.int i) M = .ok (.int i) M := Eq.trans rfl rfl
theorem kept_blN (i) : kept (.bl i) M = .ok (.bl i) M := Eq.trans rfl rfl
theorem kept_strN (i) : kept (.str i) M = .ok (.str i) M := Eq.trans rfl rfl
theorem kept_nonN : kept .non M = .ok .non M := Eq.trans rfl rfl
theorem kept_tupN (i) : kept (.tup i) M = .ok (.tup i) M := Eq.trans rfl rfl
theorem kept_lstN (i) : kept (.lst i) M = .ok (.lst i) M := Eq.trans rfl rfl
theorem kept_extN (i) : kept (.ext i) M = .ok (.ext i) M := Eq.trans rfl rfl
theorem kept_refN (i) : kept (.ref i) M = .ok (.ref i) M := Eq.trans rfl rfl
theorem kept_fnN (i) : kept (.fn i) M = .ok (.fn i) M := Eq.trans rfl rfl
theorem kept_excN (i) : kept (.exc i) M = .ok (.exc i) M := Eq.trans rfl rfl
theorem cmp_lt_intN (i j) : cmpD .Lt M (.int i) (.int j) = some (decide (i < j)) := Eq.trans rfl rfl
theorem cmp_le_intN (i j) : cmpD .LtE M (.int i) (.int j) = some (decide (i ≤ j)) := Eq.trans rfl rfl
theorem cmp_gt_intN (i j) : cmpD .Gt M (.int i) (.int j) = some (decide (j < i)) := Eq.trans rfl rfl
theorem cmp_ge_intN (i j) : cmpD .GtE M (.int i) (.int j) = some (decide (j ≤ i)) := Eq.trans rfl rfl
end
end L2.Z
set_option Elab.async false
set_option linter.all false
set_option maxRecDepth 100000
set_option maxHeartbeats 2000000
set_option exponentiation.threshold 9000
/-! ### selling: worth_with: how great all is -/
namespace L2.Z
open PySem
def houseD (gs : List Gd) (bs : List Bk) (w : Str) (rows : List (Int × Int)) : D := .tup [.tup (gs.map gdD), .tup (bs.map bkD), .tup [.str w, .tup (rows.map rowD)]]
theorem ww_126 {A : Nat} (hA : A < 2 ^ 100) {x y : Nat} (hx : x ≤ 2 ^ 20) (hy : y ≤ 64) : A * x * y ≤ 2 ^ 126 := by
  have h1 : A * x * y ≤ 2 ^ 100 * 2 ^ 20 * 2 ^ 6 := Nat.mul_le_mul (Nat.mul_le_mul (Nat.le_of_lt hA) hx) hy
  rw [← Nat.pow_add, ← Nat.pow_add] at h1
  exact h1
theorem ww_p1 : (2 : Nat) ^ 126 + 2 ^ 20 + 1 ≤ 2 ^ 300 := by decide +kernel
theorem ww_p2 : (2 : Nat) ^ 126 + 2 ^ 200 + 1 ≤ 2 ^ 300 := by decide +kernel
theorem ww_p3 : (2 : Nat) ^ 200 + 1 ≤ 2 ^ 300 := by decide +kernel
theorem ww_p4 : (2 : Nat) ^ 126 + 1 ≤ 2 ^ 300 := by decide +kernel
theorem ww_p5 : (63 : Nat) ≤ 2 ^ 100 := by decide +kernel
theorem ww_p6 : (64 : Nat) ≤ 2 ^ 20 := by decide +kernel
theorem ww_p7 : (1 : Nat) ≤ 2 ^ 20 := by decide +kernel
section
variable {D' N A : Nat} (L : LB D' N A)
include L
theorem ww_lb : (N + 3) * D' ^ (N + 1) < 2 ^ 1900 := by
  have n60 := L.n
  have h1 : (N + 3) * D' ^ (N + 1) ≤ 2 ^ 100 * D' ^ (4 * N + 4) := Nat.mul_le_mul (Nat.le_trans (show N + 3 ≤ 63 by omega) ww_p5) (L.pw (by omega))
  have h2 : 2 ^ 100 * D' ^ (4 * N + 4) < 2 ^ 100 * 2 ^ 1500 := Nat.mul_lt_mul_of_pos_left L.z (Nat.pow_pos (by decide))
  rw [← Nat.pow_add] at h2
  exact Nat.lt_of_le_of_lt h1 (Nat.lt_of_lt_of_le h2 (pow_le' (by decide)))
theorem ww_a500 : A < 2 ^ 500 := Nat.lt_of_lt_of_le L.a (pow_le' (by decide))
theorem ww_bd {x E : Nat} (hx : x ≤ 2 ^ 300) (hE : E ≤ D' ^ (4 * N + 4)) : x * E < 2 ^ 2000 := by
  have h1 : x * E ≤ 2 ^ 300 * D' ^ (4 * N + 4) := Nat.mul_le_mul hx hE
  have h2 : 2 ^ 300 * D' ^ (4 * N + 4) < 2 ^ 300 * 2 ^ 1500 := Nat.mul_lt_mul_of_pos_left L.z (Nat.pow_pos (by decide))
  rw [← Nat.pow_add] at h2
  exact Nat.lt_of_le_of_lt h1 (Nat.lt_of_lt_of_le h2 (pow_le' (by decide)))
theorem ww_dP : D' ≤ D' ^ (4 * N + 4) := by
  have := L.pw (k := 1) (by omega)
  rwa [Nat.pow_one] at this
theorem ww_17 : D' ^ (N + 1) < 2 ^ 1700 := Nat.lt_of_le_of_lt (L.pw (by omega)) (Nat.lt_of_lt_of_le L.z (pow_le' (by decide)))
/-- what is summed, weighed by D'-th parts -/
theorem ww_sum {x y : Nat} (hx : x ≤ 64) (hy : y ≤ 64) : A * x * y + x + 1 ≤ 2 ^ 300 := by
  have h := ww_126 L.a (Nat.le_trans hx ww_p6) hy
  have := ww_p1
  have := ww_p6
  exact Nat.le_trans (Nat.add_le_add_right (Nat.add_le_add h (Nat.le_trans hx ww_p6)) 1) ww_p1
theorem ww_own : N * A * N ≤ 2 ^ 200 := by
  have n60 := L.n
  have h1 : N * A * N ≤ 2 ^ 6 * 2 ^ 100 * 2 ^ 6 := Nat.mul_le_mul (Nat.mul_le_mul (show N ≤ 2 ^ 6 by omega) (Nat.le_of_lt L.a)) (show N ≤ 2 ^ 6 by omega)
  rw [← Nat.pow_add, ← Nat.pow_add] at h1
  exact Nat.le_trans h1 (pow_le' (by decide))
theorem ww_last {k : Nat} (hk : k ≤ N) : (N + 2) * ((N + 1) * (N + 1)) * A * k ≤ 2 ^ 200 := by
  have n60 := L.n
  have h0 : (N + 1) * (N + 1) ≤ 2 ^ 6 * 2 ^ 6 := Nat.mul_le_mul (show N + 1 ≤ 2 ^ 6 by omega) (show N + 1 ≤ 2 ^ 6 by omega)
  have h1 : (N + 2) * ((N + 1) * (N + 1)) * A * k ≤ 2 ^ 6 * (2 ^ 6 * 2 ^ 6) * 2 ^ 100 * 2 ^ 6 := Nat.mul_le_mul (Nat.mul_le_mul (Nat.mul_le_mul (show N + 2 ≤ 2 ^ 6 by omega) h0) (Nat.le_of_lt L.a)) (show k ≤ 2 ^ 6 by omega)
  rw [← Nat.pow_add, ← Nat.pow_add, ← Nat.pow_add, ← Nat.pow_add] at h1
  exact Nat.le_trans h1 (pow_le' (by decide))
theorem ww_tame200 {E : Nat} {q : Rat} (h : Sz E (2 ^ 200) q) (hE : E ≤ D' ^ (4 * N + 4)) : Tame q := L.tame h hE ww_p3
end
theorem LB.nn {D' N A : Nat} (L : LB D' N A) : N ≤ 60 := L.n
end L2.Z
set_option Elab.async false
set_option linter.all false
set_option maxRecDepth 100000
set_option maxHeartbeats 2000000
set_option exponentiation.threshold 9000
/-! ### selling: worth_with: sizes -/
namespace L2.Z
open PySem
theorem ww_p8 : (2 : Nat) ^ 126 + 2 ^ 200 + 2 ^ 126 + 1 ≤ 2 ^ 300 := by decide +kernel
section
variable {D' N A : Nat} (L : LB D' N A) (all : List Bk) (hN : all.length ≤ N) (hc : ∀ b ∈ all, Un1 D' b.ch) (ha : ∀ b ∈ all, (∀ a, b.ask = some a → a.natAbs ≤ A) ∧ b.fare.natAbs ≤ A)
include L hN hc ha
theorem ww_fz : ∀ q ∈ all.map (fun b => (b.fare, b.ch)), Sz D' 1 q.2 ∧ q.1.natAbs ≤ A := fun q hq => by
  obtain ⟨b, hb, rfl⟩ := List.mem_map.mp hq
  exact ⟨(hc b hb).sz, (ha b hb).2⟩
theorem ww_oz {first : Int} (hf : first.natAbs ≤ A) (seats : Nat) : ∀ q ∈ ((staysQ seats all).filter fun q => !q.1.ask.isSome).map (fun q => (first, q.2)), Sz (D' ^ N) N q.2 ∧ q.1.natAbs ≤ A := fun q hq => by
  obtain ⟨b, hb, rfl⟩ := List.mem_map.mp hq
  exact ⟨(staysQ_sz L.d seats N all hc hN b (List.mem_filter.mp hb).1).1, hf⟩
omit ha hc in
theorem ww_ol (first : Int) (seats : Nat) : (((staysQ seats all).filter fun q => !q.1.ask.isSome).map (fun q => (first, q.2))).length ≤ 60 := by
  rw [List.length_map]
  have h := List.length_filter_le (fun q : Bk × Rat => !q.1.ask.isSome) (staysQ seats all)
  rw [staysQ_len] at h
  have := L.nn
  omega
theorem ww_fares : Sz D' (2 ^ 126) (faresQ all) := by
  have h := signedQ_sz L.d (ww_fz L all hN hc ha)
  rw [List.length_map] at h
  have := L.nn
  exact h.mono (ww_126 L.a ww_p7 (by omega))
theorem ww_others {first : Int} (hf : first.natAbs ≤ A) (seats : Nat) : Sz (D' ^ N) (2 ^ 126) (othersQ seats first all) := by
  have h := signedQ_sz (Nat.pow_pos L.d) (ww_oz L all hN hc ha hf seats)
  have := ww_ol L all hN first seats
  have := L.nn
  exact h.mono (ww_126 L.a (Nat.le_trans (by omega) ww_p6) (by omega))
theorem ww_will (w : Str) (seats : Nat) (hml : Sz (D' ^ (3 * N + 1)) ((N + 2) * ((N + 1) * (N + 1)) * A * N) (meanLastQ seats all)) : Sz (D' ^ (3 * N + 1)) (2 ^ 200) (willQ w seats all) := by
  have ha1 : ∀ b ∈ all, ∀ a, b.ask = some a → a.natAbs ≤ A := fun b hb => (ha b hb).1
  unfold willQ
  split
  · have h := meanOwnQ_sz L.d seats all hc ha1
    refine (h.up (Nat.pow_dvd_pow _ (by omega)) (Nat.pow_pos L.d)).mono ?_
    exact Nat.le_trans (Nat.mul_le_mul (Nat.mul_le_mul_right _ hN) hN) (ww_own L)
  · exact hml.mono (ww_last L (Nat.le_refl _))
theorem ww_fares' : Sz (D' ^ (3 * N + 1)) (2 ^ 126) (faresQ all) := (ww_fares L all hN hc ha).up (by
    have := Nat.pow_dvd_pow D' (show 1 ≤ 3 * N + 1 by omega)
    rwa [Nat.pow_one] at this) (Nat.pow_pos L.d)
theorem ww_worth {first : Int} (hf : first.natAbs ≤ A) (w : Str) (seats : Nat) (hml : Sz (D' ^ (3 * N + 1)) ((N + 2) * ((N + 1) * (N + 1)) * A * N) (meanLastQ seats all)) : Sz (D' ^ (3 * N + 1)) (2 ^ 126 + 2 ^ 200 + 2 ^ 126) (worthQ w seats first all) :=
  ((ww_fares' L all hN hc ha).sub (ww_will L all hN hc ha w seats hml)).sub ((ww_others L all hN hc ha hf seats).up (Nat.pow_dvd_pow _ (by omega)) (Nat.pow_pos L.d))
theorem ww_tame {first : Int} (hf : first.natAbs ≤ A) (w : Str) (seats : Nat) (hml : Sz (D' ^ (3 * N + 1)) ((N + 2) * ((N + 1) * (N + 1)) * A * N) (meanLastQ seats all)) : Tame (worthQ w seats first all) := L.tame (ww_worth L all hN hc ha hf w seats hml) (L.pw (by omega)) ww_p8
theorem ww_t1 : Tame (faresQ all) := L.tame (ww_fares L all hN hc ha) (ww_dP L) ww_p4
theorem ww_t2 (w : Str) (seats : Nat) (hml : Sz (D' ^ (3 * N + 1)) ((N + 2) * ((N + 1) * (N + 1)) * A * N) (meanLastQ seats all)) : Tame (willQ w seats all) := ww_tame200 L (ww_will L all hN hc ha w seats hml) (L.pw (by omega))
theorem ww_t3 (w : Str) (seats : Nat) (hml : Sz (D' ^ (3 * N + 1)) ((N + 2) * ((N + 1) * (N + 1)) * A * N) (meanLastQ seats all)) : Tame (faresQ all - willQ w seats all) := L.tame ((ww_fares' L all hN hc ha).sub (ww_will L all hN hc ha w seats hml)) (L.pw (by omega)) ww_p2
theorem ww_t4 {first : Int} (hf : first.natAbs ≤ A) (seats : Nat) : Tame (othersQ seats first all) := L.tame (ww_others L all hN hc ha hf seats) (L.pw (by omega)) ww_p4
end
end L2.Z
set_option Elab.async false
set_option linter.all false
set_option maxRecDepth 100000
set_option maxHeartbeats 2000000
set_option exponentiation.threshold 9000
/-! ### selling: worth_with, run -/
namespace L2.Z
open PySem
section
variable {T : Nat → Option Fn} {sub : Nat → Nat → Bool}
theorem ww_lcF (C : Cfg) (all : List Bk) : ∀ (q0 q1 q2 q3 q4 q5 q6 : Option L2.Z.D) M, lcW C [q0, q1, q2, q3, q4, q5, q6, none, none, none, none, none, none, none] M (.tup [(.sub (.var 12 x0 p0) (.cst (.int 2) 0 p0) p0), (.sub (.var 12 x0 p0) (.cst (.int 3) 0 p0) p0)] 0 p0) (.nm 12 x0 p0) [] [10, 12] (all.map bkD) = .ok ((all.map fun b => (b.fare, b.ch)).map numD) M := fun q0 q1 q2 q3 q4 q5 q6 M => by
  rw [List.map_map]
  exact lcW_mapE bkD (numD ∘ fun b => (b.fare, b.ch)) all fun b _ => by
    have s2 : ∀ M, subD M (bkD b) (.int 2) = some (.int b.fare) := fun M => sub_t2 M _ _ _ _
    have s3 : ∀ M, subD M (bkD b) (.int 3) = some (rd b.ch) := fun M => sub_t3 M _ _ _ _ _
    refine ⟨_, rfl, by rw [evT_nil], ?_, rfl⟩
    simp only [ends_rtN, ends_nxN, ends_excN, bind_okN, bind_excN, ret_someN, retB_someN, retL_someN, retE_someN, ev_var, ev_cst, ev_gint, ev_gstr, ev_gfn, ev_bin, ev_neg, ev_not, ev_bop, ev_cmp, ev_chain, ev_ite, ev_call, ev_isi, ev_blt, ev_mth, ev_sub, ev_slc, ev_tup, ev_lst, ev_lc, ev_live, ev_srt, ev_srk, evs_nil, evs_cons, evx_nil, evx_cons, evO_none, evO_some, evB_one, evB_and, evB_or, evT_nil, evT_one, exs_nil, exs_cons, nxt_nxN, nxt_rtN, nxt_excN, ex_asg, ex_own, ex_par, ex_app, ex_exn, ex_sti, ex_sto, ex_aug, ex_exp, ex_ret, ex_ifs, ex_fors, ex_whl, ex_rse, ex_tri, ex_frz, cstD, Tg.put, Tg.puts, startD, wipeD, kept_intN, kept_blN, kept_strN, kept_nonN, kept_tupN, kept_lstN, kept_extN, kept_refN, kept_fnN, kept_excN, cmp_eq_int, cmp_ne_int, cmp_lt_intN, cmp_le_intN, cmp_gt_intN, cmp_ge_intN, List.map_cons, List.map_nil, List.length_cons, List.length_nil, Nat.reduceAdd, Nat.reduceSub, Nat.reduceLeDiff, List.replicate, List.cons_append, List.nil_append, List.append_nil, List.getElem?_cons_zero, List.getElem?_cons_succ, List.getElem?_nil, List.set_cons_zero, List.set_cons_succ, List.all_cons, List.all_nil, nown, Bool.and_true, Bool.true_and, Bool.and_false, Bool.false_and, if_true, if_false, Bool.false_eq_true, Bool.not_true, Bool.not_false, reduceIte, len6, Int.cast_ofNat_Int, beq_self_eq_true, Int.reduceBEq, Int.reduceAdd, Int.reduceNeg, decide_true, decide_false, Int.reduceLT, Int.reduceLE, Int.reduceToNat, s2, s3, kept_rd]
    rfl
theorem ww_lcO (C : Cfg) (all : List Bk) (seats : Nat) (first : Int) : ∀ (q0 q1 q2 q3 q4 q5 q6 q7 : Option L2.Z.D) M, lcW C [q0, q1, q2, q3, q4, q5, q6, q7, some (.int first), none, none, none, none, none] M (.tup [(.var 8 x0 p0), (.var 13 x0 p0)] 0 p0) (.tp [(.nm 12 x0 p0), (.nm 13 x0 p0)] 0 p0) [(.cmp .Is (.sub (.var 12 x0 p0) (.cst (.int 5) 0 p0) p0) (.cst .none 0 p0) p0)] [10, 12, 13] ((staysQ seats all).map pairD) = .ok ((((staysQ seats all).filter fun q => !q.1.ask.isSome).map (fun q => (first, q.2))).map numD) M := fun q0 q1 q2 q3 q4 q5 q6 q7 M => by
  rw [List.map_map]
  exact lcW_filtE pairD (numD ∘ fun q => (first, q.2)) (fun q => !q.1.ask.isSome) (staysQ seats all) fun q _ => by
    have s5 : ∀ M, subD M (bkD q.1) (.int 5) = some (askD q.1.ask) := fun M => sub_t5 M _ _ _ _ _ _ _
    refine ⟨_, rfl, ?_, fun _ => ⟨?_, rfl⟩⟩
    · simp only [ends_rtN, ends_nxN, ends_excN, bind_okN, bind_excN, ret_someN, retB_someN, retL_someN, retE_someN, ev_var, ev_cst, ev_gint, ev_gstr, ev_gfn, ev_bin, ev_neg, ev_not, ev_bop, ev_cmp, ev_chain, ev_ite, ev_call, ev_isi, ev_blt, ev_mth, ev_sub, ev_slc, ev_tup, ev_lst, ev_lc, ev_live, ev_srt, ev_srk, evs_nil, evs_cons, evx_nil, evx_cons, evO_none, evO_some, evB_one, evB_and, evB_or, evT_nil, evT_one, exs_nil, exs_cons, nxt_nxN, nxt_rtN, nxt_excN, ex_asg, ex_own, ex_par, ex_app, ex_exn, ex_sti, ex_sto, ex_aug, ex_exp, ex_ret, ex_ifs, ex_fors, ex_whl, ex_rse, ex_tri, ex_frz, cstD, Tg.put, Tg.puts, startD, wipeD, kept_intN, kept_blN, kept_strN, kept_nonN, kept_tupN, kept_lstN, kept_extN, kept_refN, kept_fnN, kept_excN, cmp_eq_int, cmp_ne_int, cmp_lt_intN, cmp_le_intN, cmp_gt_intN, cmp_ge_intN, List.map_cons, List.map_nil, List.length_cons, List.length_nil, Nat.reduceAdd, Nat.reduceSub, Nat.reduceLeDiff, List.replicate, List.cons_append, List.nil_append, List.append_nil, List.getElem?_cons_zero, List.getElem?_cons_succ, List.getElem?_nil, List.set_cons_zero, List.set_cons_succ, List.all_cons, List.all_nil, nown, Bool.and_true, Bool.true_and, Bool.and_false, Bool.false_and, if_true, if_false, Bool.false_eq_true, Bool.not_true, Bool.not_false, reduceIte, len6, Int.cast_ofNat_Int, beq_self_eq_true, Int.reduceBEq, Int.reduceAdd, Int.reduceNeg, decide_true, decide_false, Int.reduceLT, Int.reduceLE, Int.reduceToNat, pairD, s5, is_none, isNon_ask]
    · simp only [ends_rtN, ends_nxN, ends_excN, bind_okN, bind_excN, ret_someN, retB_someN, retL_someN, retE_someN, ev_var, ev_cst, ev_gint, ev_gstr, ev_gfn, ev_bin, ev_neg, ev_not, ev_bop, ev_cmp, ev_chain, ev_ite, ev_call, ev_isi, ev_blt, ev_mth, ev_sub, ev_slc, ev_tup, ev_lst, ev_lc, ev_live, ev_srt, ev_srk, evs_nil, evs_cons, evx_nil, evx_cons, evO_none, evO_some, evB_one, evB_and, evB_or, evT_nil, evT_one, exs_nil, exs_cons, nxt_nxN, nxt_rtN, nxt_excN, ex_asg, ex_own, ex_par, ex_app, ex_exn, ex_sti, ex_sto, ex_aug, ex_exp, ex_ret, ex_ifs, ex_fors, ex_whl, ex_rse, ex_tri, ex_frz, cstD, Tg.put, Tg.puts, startD, wipeD, kept_intN, kept_blN, kept_strN, kept_nonN, kept_tupN, kept_lstN, kept_extN, kept_refN, kept_fnN, kept_excN, cmp_eq_int, cmp_ne_int, cmp_lt_intN, cmp_le_intN, cmp_gt_intN, cmp_ge_intN, List.map_cons, List.map_nil, List.length_cons, List.length_nil, Nat.reduceAdd, Nat.reduceSub, Nat.reduceLeDiff, List.replicate, List.cons_append, List.nil_append, List.append_nil, List.getElem?_cons_zero, List.getElem?_cons_succ, List.getElem?_nil, List.set_cons_zero, List.set_cons_succ, List.all_cons, List.all_nil, nown, Bool.and_true, Bool.true_and, Bool.and_false, Bool.false_and, if_true, if_false, Bool.false_eq_true, Bool.not_true, Bool.not_false, reduceIte, len6, Int.cast_ofNat_Int, beq_self_eq_true, Int.reduceBEq, Int.reduceAdd, Int.reduceNeg, decide_true, decide_false, Int.reduceLT, Int.reduceLE, Int.reduceToNat, pairD, kept_rd]
      rfl
theorem more_ok (z : Str) (hz : PyData.strOk z = true) (fare : Int) (ch : Rat) (rank : Int) (ask : Option Int) {k : Nat} (hk : k < 12) : (moreBk z fare ch rank ask k).ok := by
  refine ⟨?_, hz⟩
  have : ∀ k : Fin 12, PyData.strOk (moreName k) = true := by decide +kernel
  exact this ⟨k, hk⟩
theorem run_worth_with {i : Ix} (S : Sell T i) {D' N A : Nat} (L : LB D' N A) (gs : List Gd) (hgs : ∀ g ∈ gs, g.ok) (hgl : gs.length ≤ 1000) (bs : List Bk) (hbs : ∀ b ∈ bs, b.ok) (hbl : bs.length ≤ 30) (w : Str) (hw : PyData.strOk w = true) (p : Int × Int) (rows : List (Int × Int)) (z : Str) (hz : PyData.strOk z = true) (g : Gd) (hg : gs.find? (fun g => g.name == z) = some g) (seats : Nat) (hs : g.seats = (seats : Int))
    (fare : Int) (ch : Rat) (rank : Int) (ask : Option Int) (m : Nat) (hm : m ≤ 12) (all : List Bk) (hall : all = allBk bs z fare ch rank ask m) (hN : all.length ≤ N) (hc : ∀ b ∈ all, Un1 D' b.ch) (ha : ∀ b ∈ all, (∀ a, b.ask = some a → a.natAbs ≤ A) ∧ b.fare.natAbs ≤ A) (hf : p.2.natAbs ≤ A) :
    Cal T sub FUEL 8 i.worth [houseD gs bs w (p :: rows), .str z, kindD fare ch rank ask, .int (m : Nat)] (rd (worthQ w seats p.2 all)) ∧ Tame (worthQ w seats p.2 all) := by
  have ha1 : ∀ b ∈ all, ∀ a, b.ask = some a → a.natAbs ≤ A := fun b hb => (ha b hb).1
  have ml := run_mean_last (sub := sub) S.p S.more S.last L all hN hc ha1 seats
  have n60 := L.nn
  have al : all.length ≤ 60 := Nat.le_trans hN n60
  refine ⟨?_, ww_tame L all hN hc ha hf w seats ml.2⟩
  refine cal_of (k := 7) S.worth rfl fun n hn M => ?_
  have n1 : 1 ≤ n := by omega
  have n2 : 2 ≤ n := by omega
  have n3 : 3 ≤ n := by omega
  have n5 : 5 ≤ n := by omega
  have lc1 := more_lc (T := T) (sub := sub) n (houseD gs bs w (p :: rows)) z fare ch rank ask m hm
  have b1 : (((List.range m).map (moreBk z fare ch rank ask)).map bkD).length ≤ sizeLine := big_le (by simp; omega)
  have fl : (bs.filter fun b => b.going == z).length ≤ 30 := Nat.le_trans (List.length_filter_le _ _) hbl
  have r1 := run_booked_at (sub := sub) (fuel := FUEL) S.booked (.tup (gs.map gdD)) (.tup [.str w, .tup ((p :: rows).map rowD)]) bs hbs (by omega) z hz n n1
  have eapp : (bs.filter fun b => b.going == z).map bkD ++ ((List.range m).map (moreBk z fare ch rank ask)).map bkD = ((bs.filter fun b => b.going == z) ++ (List.range m).map (moreBk z fare ch rank ask)).map bkD := by rw [List.map_append]
  have mok : ∀ b ∈ (bs.filter fun b => b.going == z) ++ (List.range m).map (moreBk z fare ch rank ask), b.ok := fun b hb => by
    rcases List.mem_append.mp hb with h | h
    · exact hbs b (List.mem_filter.mp h).1
    · obtain ⟨k, hk, rfl⟩ := List.mem_map.mp h
      have hk : k < m := List.mem_range.mp hk
      exact more_ok z hz fare ch rank ask (by omega)
  have r2 := run_in_order (sub := sub) (fuel := FUEL) S.key S.order _ mok (by simp; omega) n n2
  rw [show inOrder ((bs.filter fun b => b.going == z) ++ (List.range m).map (moreBk z fare ch rank ask)) = all from hall.symm] at r2
  have r3 := run_going_of (sub := sub) (fuel := FUEL) S.going (.tup (bs.map bkD)) (.tup [.str w, .tup ((p :: rows).map rowD)]) gs hgs hgl z hz g hg n n1
  have r4 := run_signed_sum (sub := sub) S.p.p S.signed (D := D') (B := 1) (A := A) (l := all.map fun b => (b.fare, b.ch)) L.d (ww_a500 L) (ww_fz L all hN hc ha) (by
    rw [List.length_map]
    exact ww_bd L (ww_sum L (by decide) (by omega)) (ww_dP L))
  have lb : (all.length + 3) * D' ^ (all.length + 1) < 2 ^ 1900 := Nat.lt_of_le_of_lt (Nat.mul_le_mul (by omega) (Nat.pow_le_pow_right L.d (by omega))) (ww_lb L)
  have r5 := run_stays_by (sub := sub) S.p S.stays L.d all hc lb al seats
  have r6 := run_signed_sum (sub := sub) S.p.p S.signed (D := D' ^ N) (B := N) (A := A) (l := ((staysQ seats all).filter fun q => !q.1.ask.isSome).map (fun q => (p.2, q.2))) (Nat.pow_pos L.d) (ww_a500 L) (ww_oz L all hN hc ha hf seats) (ww_bd L (ww_sum L (by omega) (Nat.le_trans (ww_ol L all hN p.2 seats) (by decide))) (L.pw (by omega)))
  have rw1 := run_willing (sub := sub) (fuel := FUEL) S.willing w (.tup ((p :: rows).map rowD)) hw (all.map bkD) (seats : Int) 6 (rd (willQ w seats all)) rfl
    (fun e => by unfold willQ; rw [if_pos e]; exact run_mean_own (sub := sub) S.p S.stays S.own L.d all hc ha1 L.a (Nat.lt_of_le_of_lt (Nat.pow_le_pow_right L.d (by omega)) (ww_17 L)) al seats)
    (fun e => by unfold willQ; rw [e]; exact ml.1) n hn
  have kh : ∀ M, kept (houseD gs bs w (p :: rows)) M = .ok (houseD gs bs w (p :: rows)) M := fun _ => rfl
  have kg : ∀ M, kept (gdD g) M = .ok (gdD g) M := fun _ => rfl
  have g5 : ∀ M, subD M (gdD g) (.int 5) = some (.int (seats : Int)) := fun M => by
    unfold gdD
    rw [hs]
    exact sub_t5 M _ _ _ _ _ _ _
  have h2 : ∀ M, subD M (houseD gs bs w (p :: rows)) (.int 2) = some (.tup [.str w, .tup ((p :: rows).map rowD)]) := fun M => sub_t2 M _ _ _ _
  have h21 : ∀ M, subD M (.tup [.str w, .tup ((p :: rows).map rowD)]) (.int 1) = some (.tup ((p :: rows).map rowD)) := fun M => sub_t1 M _ _ _
  have h210 : ∀ M, subD M (.tup ((p :: rows).map rowD)) (.int 0) = some (rowD p) := fun M => sub_t0 M _ _
  have krr : ∀ M, kept (.tup [.str w, .tup ((p :: rows).map rowD)]) M = .ok (.tup [.str w, .tup ((p :: rows).map rowD)]) M := fun _ => rfl
  have h2101 : ∀ M, subD M (rowD p) (.int 1) = some (.int p.2) := fun M => sub_t1 M _ _ _
  have b4 : ((bs.filter fun b => b.going == z).map bkD).length + (((List.range m).map (moreBk z fare ch rank ask)).map bkD).length ≤ sizeLine := big_le (by simp; omega)
  have bF : ((all.map fun b => (b.fare, b.ch)).map numD).length ≤ sizeLine := big_le (by simp; omega)
  have bO : ((((staysQ seats all).filter fun q => !q.1.ask.isSome).map (fun q => (p.2, q.2))).map numD).length ≤ sizeLine := big_le (by rw [List.length_map]; exact Nat.le_trans (ww_ol L all hN p.2 seats) (by decide))
  have hh : houseD gs bs w (p :: rows) = .tup [.tup (gs.map gdD), .tup (bs.map bkD), .tup [.str w, .tup ((p :: rows).map rowD)]] := rfl
  rw [← hh] at r1 r3
  have rm1 := run_minus (sub := sub) S.p.p S.minus (ww_t1 L all hN hc ha) (ww_t2 L all hN hc ha w seats ml.2) n n3
  have rm2 := run_minus (sub := sub) S.p.p S.minus (ww_t3 L all hN hc ha w seats ml.2) (ww_t4 L all hN hc ha hf seats) n n3
  have eF : signedQ (all.map fun b => (b.fare, b.ch)) = faresQ all := rfl
  have eO : signedQ (((staysQ seats all).filter fun q => !q.1.ask.isSome).map (fun q => (p.2, q.2))) = othersQ seats p.2 all := rfl
  rw [eF] at r4
  rw [eO] at r6
  have r4' := r4 n n3
  have r5' := r5 n n5
  have r6' := r6 n n3
  have lcF := ww_lcF ⟨callF T sub FUEL n, sub, FUEL⟩ all
  have lcO := ww_lcO ⟨callF T sub FUEL n, sub, FUEL⟩ all seats p.2
  clear ml r4 r5 r6 lb hall mok hc ha ha1 L
  generalize houseD gs bs w (p :: rows) = HH at *
  generalize (p :: rows).map rowD = RR at *
  generalize rowD p = R1 at *
  unfold L_worth_with
  simp only [ends_rtN, ends_nxN, ends_excN, bind_okN, bind_excN, ret_someN, retB_someN, retL_someN, retE_someN, ev_var, ev_cst, ev_gint, ev_gstr, ev_gfn, ev_bin, ev_neg, ev_not, ev_bop, ev_cmp, ev_chain, ev_ite, ev_call, ev_isi, ev_blt, ev_mth, ev_sub, ev_slc, ev_tup, ev_lst, ev_lc, ev_live, ev_srt, ev_srk, evs_nil, evs_cons, evx_nil, evx_cons, evO_none, evO_some, evB_one, evB_and, evB_or, evT_nil, evT_one, exs_nil, exs_cons, nxt_nxN, nxt_rtN, nxt_excN, ex_asg, ex_own, ex_par, ex_app, ex_exn, ex_sti, ex_sto, ex_aug, ex_exp, ex_ret, ex_ifs, ex_fors, ex_whl, ex_rse, ex_tri, ex_frz, cstD, Tg.put, Tg.puts, startD, wipeD, kept_intN, kept_blN, kept_strN, kept_nonN, kept_tupN, kept_lstN, kept_extN, kept_refN, kept_fnN, kept_excN, cmp_eq_int, cmp_ne_int, cmp_lt_intN, cmp_le_intN, cmp_gt_intN, cmp_ge_intN, List.map_cons, List.map_nil, List.length_cons, List.length_nil, Nat.reduceAdd, Nat.reduceSub, Nat.reduceLeDiff, List.replicate, List.cons_append, List.nil_append, List.append_nil, List.getElem?_cons_zero, List.getElem?_cons_succ, List.getElem?_nil, List.set_cons_zero, List.set_cons_succ, List.all_cons, List.all_nil, nown, Bool.and_true, Bool.true_and, Bool.and_false, Bool.false_and, if_true, if_false, Bool.false_eq_true, Bool.not_true, Bool.not_false, reduceIte, len6, Int.cast_ofNat_Int, beq_self_eq_true, Int.reduceBEq, Int.reduceAdd, Int.reduceNeg, decide_true, decide_false, Int.reduceLT, Int.reduceLE, Int.reduceToNat, rng_nat m (by omega), lc1, b1, kh, r1, add_lst _ _ _ b4, eapp, r2, r3, g5, src_one_lst, lcF, bF, r4', kept_rd, h2, h21, h210, h2101, r5', lcO, bO, r6', krr, rw1, rm1, rm2]
  rfl
end
end L2.Z
set_option Elab.async false
set_option linter.all false
set_option maxRecDepth 100000
set_option maxHeartbeats 2000000
set_option exponentiation.threshold 9000
/-! ### the law's own draws -/
namespace L2.Z
open PySem
def L_town : List S := [
  .ret (.live (.bin .Add (.lst [(.cst (.int 0) 0 p0)] p0) (.blt .list p0 [(.var 0 x0 p0)] p0) p0)) p0]
def L_draw : List S := [
  .sti (.var 1 x0 p0) (.cst (.int 0) 0 p0) (.bin .Add (.sub (.var 1 x0 p0) (.cst (.int 0) 0 p0) p0) (.cst (.int 1) 0 p0) p0) p0 p0,
  .ifs (.cmp .Eq (.var 0 x0 p0) (.lst [] p0) p0) [.ret (.bin .Mod (.bin .FloorDiv (.bin .Mult (.bin .Mult (.sub (.var 1 x0 p0) (.cst (.int 0) 0 p0) p0) (.sub (.var 1 x0 p0) (.cst (.int 0) 0 p0) p0) p0) (.cst (.int 7) 0 p0) p0) (.cst (.int 3) 0 p0) p0) (.var 2 x0 p0) p0) p0] [] p0,
  .asg (.nm 3 x0 p0) (.bin .Mod (.sub (.var 1 x0 p0) (.cst (.int 0) 0 p0) p0) (.blt .len p0 [(.var 0 x0 p0)] p0) p0) p0,
  .asg (.nm 4 x0 p0) (.sub (.var 1 x0 p0) (.bin .Add (.cst (.int 1) 0 p0) (.var 3 x0 p0) p0) p0) p0,
  .ifs (.bop .And [(.cmp .GtE (.sub (.var 0 x0 p0) (.var 3 x0 p0) p0) (.bin .Pow (.cst (.int 10) 0 p0) (.cst (.int 18) 0 p0) p0) p0), (.cmp .Gt (.var 4 x0 p0) (.cst (.int 0) 0 p0) p0)] p0) [.sti (.var 1 x0 p0) (.bin .Add (.cst (.int 1) 0 p0) (.var 3 x0 p0) p0) (.bin .FloorDiv (.var 4 x0 p0) (.var 2 x0 p0) p0) p0 p0, .ret (.bin .Mod (.var 4 x0 p0) (.var 2 x0 p0) p0) p0] [] p0,
  .asg (.nm 5 x0 p0) (.bin .Mod (.bin .Add (.sub (.var 0 x0 p0) (.var 3 x0 p0) p0) (.bin .Mult (.cst (.int 104729) 0 p0) (.sub (.var 1 x0 p0) (.cst (.int 0) 0 p0) p0) p0) p0) (.cst (.int 4294967291) 0 p0) p0) p0,
  .asg (.nm 5 x0 p0) (.bin .Mod (.bin .Pow (.var 5 x0 p0) (.cst (.int 5) 0 p0) p0) (.cst (.int 4294967279) 0 p0) p0) p0,
  .ret (.bin .Mod (.bin .FloorDiv (.bin .Mod (.bin .Add (.bin .Mult (.bin .FloorDiv (.var 5 x0 p0) (.cst (.int 64) 0 p0) p0) (.cst (.int 69621) 0 p0) p0) (.var 5 x0 p0) p0) (.cst (.int 4294967231) 0 p0) p0) (.cst (.int 8) 0 p0) p0) (.var 2 x0 p0) p0) p0]
def townC (k : Nat) (cells : List Int) : Cell := .lst (.int (k : Int) :: cells.map .int)
theorem lt_big {x k : Nat} (h : x < 2 ^ k) (hk : k ≤ 100000) : x < 2 ^ 100000 := Nat.lt_of_lt_of_le h (pow_le' hk)
theorem lt_big8 {x k : Nat} (h : x < 2 ^ k) (hk : k ≤ 8000) : x < 2 ^ 8000 := Nat.lt_of_lt_of_le h (pow_le' hk)
theorem ints_py : ∀ ns : List Int, pyOks (ns.map .int) = true
  | [] => rfl
  | i :: ns => by rw [List.map_cons, pyOks, ints_py ns]; rfl
theorem ints_dep : ∀ ns : List Int, deps (ns.map .int) = 0
  | [] => rfl
  | i :: ns => by rw [List.map_cons, deps, ints_dep ns]; rfl
theorem eq_ext_nil (M : Mem) (ns : List Int) : cmpD .Eq M (.ext (ns.map .int)) (.lst []) = some ns.isEmpty := by
  have h1 : shD (.lst (ns.map .int)) = true := by
    unfold shD
    rw [pyOk, dep, ints_py, ints_dep]; rfl
  have h2 : shD (.lst []) = true := rfl
  show (if shD (.lst (ns.map .int)) && shD (.lst []) then some (eqD (.lst (ns.map .int)) (.lst [])) else none) = _
  rw [h1, h2]
  cases ns <;> rfl
theorem sub_ext (M : Mem) (xs : List D) (i : Nat) : subD M (.ext xs) (.int (i : Int)) = xs[i]? := by
  show (lview M (.ext xs)).bind (fun xs => atI xs i) = _
  exact atI_nat xs i
theorem sub_ref {M : Mem} {q : Nat} {xs : List D} (h : M[q]? = some (.lst xs)) (i : Nat) : subD M (.ref q) (.int (i : Int)) = xs[i]? := by
  have e : lview M (.ref q) = some xs := by simp only [lview, h]
  show (lview M (.ref q)).bind (fun xs => atI xs i) = _
  rw [e]
  exact atI_nat xs i
theorem len_ext (M : Mem) (xs : List D) : bltD .len M [.ext xs] = some (.int xs.length) := rfl
theorem pow_1018 (M : Mem) : binD .Pow M (.int 10) (.int 18) = some (.int 1000000000000000000) := by rfl
theorem pow_5 (M : Mem) (i : Int) (h0 : 0 ≤ i) (h1 : i < 4294967291) : binD .Pow M (.int i) (.int 5) = some (.int (i ^ 5)) := by
  have : powOk i 5 = true := by
    unfold powOk
    simp only [Bool.and_eq_true, decide_eq_true_eq]
    omega
  simp only [binD, this, if_true]
  rfl
section
variable {T : Nat → Option Fn} {sub : Nat → Nat → Bool} {fuel : Nat}
theorem run_town {f : Nat} (h : Has T f 1 1 L_town) (ns : List Int) (hl : ns.length ≤ 63) (n : Nat) (hn : 1 ≤ n) (M : Mem) : callF T sub fuel n f [.ext (ns.map .int)] M = .ok (.ref M.length) (M ++ [townC 0 ns]) := by
  obtain ⟨j, rfl⟩ : ∃ j, n = j + 1 := ⟨n - 1, by omega⟩
  rw [run h _ rfl]
  have e1 : ∀ M, bltD .list M [.ext (ns.map .int)] = some (.lst (ns.map .int)) := fun M => rfl
  have e2 : (1 + (ns.map D.int).length ≤ sizeLine) = True := by
    have : ns.length + 1 ≤ sizeLine := Nat.le_trans (show ns.length + 1 ≤ 1000 by omega) (by decide)
    simp; omega
  unfold L_town
  simp only [ends_rt, ends_nx, ends_exc, bind_ok, bind_exc, ret_some, retB_some, retL_some, retE_some, ev_var, ev_cst, ev_gint, ev_gstr, ev_gfn, ev_bin, ev_neg, ev_not, ev_bop, ev_cmp, ev_chain, ev_ite, ev_call, ev_isi, ev_blt, ev_mth, ev_sub, ev_slc, ev_tup, ev_lst, ev_lc, ev_live, ev_srt, ev_srk, evs_nil, evs_cons, evx_nil, evx_cons, evO_none, evO_some, evB_one, evB_and, evB_or, evT_nil, evT_one, exs_nil, exs_cons, nxt_nx, nxt_rt, nxt_exc, ex_asg, ex_own, ex_par, ex_app, ex_exn, ex_sti, ex_sto, ex_aug, ex_exp, ex_ret, ex_ifs, ex_fors, ex_whl, ex_rse, ex_tri, ex_frz, cstD, Tg.put, Tg.puts, startD, wipeD, kept_int, kept_bl, kept_str, kept_non, kept_tup, kept_lst, kept_ext, kept_ref, kept_fn, kept_exc, cmp_eq_int, cmp_ne_int, cmp_lt_int, cmp_le_int, cmp_gt_int, cmp_ge_int, List.map_cons, List.map_nil, List.length_cons, List.length_nil, Nat.reduceAdd, Nat.reduceSub, Nat.reduceLeDiff, List.replicate, List.cons_append, List.nil_append, List.append_nil, List.getElem?_cons_zero, List.getElem?_cons_succ, List.getElem?_nil, List.set_cons_zero, List.set_cons_succ, List.all_cons, List.all_nil, nown, Bool.and_true, Bool.true_and, Bool.and_false, Bool.false_and, if_true, if_false, Bool.false_eq_true, Bool.not_true, Bool.not_false, reduceIte, len6, Int.cast_ofNat_Int, beq_self_eq_true, Int.reduceBEq, Int.reduceAdd, Int.reduceNeg, decide_true, decide_false, Int.reduceLT, Int.reduceLE, Int.reduceToNat, e1, binD, addD, pview, lview, e2]
  rfl
theorem run_draw {f : Nat} (h : Has T f 3 6 L_draw) (ns : List Int) (hl : ns.length ≤ 63) (k : Nat) (hk : k < 2 ^ 60) (cells : List Int) (hc : cells.length = ns.length) (q : Nat) (many : Nat) (h0 : 0 < many) (h1 : many < 2 ^ 60) (M : Mem) (hM : M[q]? = some (townC k cells)) (n : Nat) (hn : 1 ≤ n) :
    ∃ (v : Nat) (cells' : List Int), v < many ∧ cells'.length = ns.length ∧ callF T sub fuel n f [.ext (ns.map .int), .ref q, .int (many : Int)] M = .ok (.int (v : Int)) (M.set q (townC (k + 1) cells')) := by
  obtain ⟨j, rfl⟩ : ∃ j, n = j + 1 := ⟨n - 1, by omega⟩
  have hq : q < M.length := (List.getElem?_eq_some_iff.mp hM).1
  have hM' : M[q]? = some (.lst (.int (k : Int) :: cells.map .int)) := hM
  have s0 : subD M (.ref q) (.int 0) = some (.int (k : Int)) := sub_ref hM' 0
  have ix0 : ixN ((cells.map D.int).length + 1) 0 = some 0 := ixN_nat (i := 0) (by simp)
  have m0 : (M.set q (.lst (D.int ((k : Int) + 1) :: cells.map .int))) = M.set q (townC (k + 1) cells) := by
    unfold townC; simp
  generalize hM1 : M.set q (townC (k + 1) cells) = M1 at *
  have g1 : M1[q]? = some (.lst (.int ((k + 1 : Nat) : Int) :: cells.map .int)) := by
    rw [← hM1, List.getElem?_set_self hq]; rfl
  have s1 : subD M1 (.ref q) (.int 0) = some (.int ((k + 1 : Nat) : Int)) := sub_ref g1 0
  have bk : ((k + 1 : Nat) : Int).natAbs < 2 ^ 100000 := lt_big (k := 61) (by rw [Int.natAbs_natCast]; omega) (by decide)
  rw [run h _ rfl]
  unfold L_draw
  have hmany : (0 : Int) < (many : Int) := by omega
  have hmanyb : ((many : Int)).natAbs < 2 ^ 8000 := lt_big8 (k := 60) (by rw [Int.natAbs_natCast]; exact h1) (by decide)
  by_cases hns : ns = []
  · subst hns
    have he : ∀ M, cmpD .Eq M (.ext (([] : List Int).map .int)) (.lst []) = some true := fun M => eq_ext_nil M []
    have b2 : (((k + 1 : Nat) : Int) * ((k + 1 : Nat) : Int)).natAbs < 2 ^ 100000 := by
      rw [Int.natAbs_mul, Int.natAbs_natCast]
      exact lt_big (k := 121) (Nat.lt_of_lt_of_le (Nat.mul_lt_mul_of_le_of_lt (show k + 1 ≤ 2 ^ 60 by omega) (show k + 1 < 2 ^ 61 by omega) (by decide)) (by rw [← Nat.pow_add]; exact Nat.le_refl _)) (by decide)
    refine ⟨((k + 1) * (k + 1) * 7 / 3) % many, cells, Nat.mod_lt _ h0, hc, ?_⟩
    simp only [List.map_nil] at he ⊢
    simp only [ends_rt, ends_nx, ends_exc, bind_ok, bind_exc, ret_some, retB_some, retL_some, retE_some, ev_var, ev_cst, ev_gint, ev_gstr, ev_gfn, ev_bin, ev_neg, ev_not, ev_bop, ev_cmp, ev_chain, ev_ite, ev_call, ev_isi, ev_blt, ev_mth, ev_sub, ev_slc, ev_tup, ev_lst, ev_lc, ev_live, ev_srt, ev_srk, evs_nil, evs_cons, evx_nil, evx_cons, evO_none, evO_some, evB_one, evB_and, evB_or, evT_nil, evT_one, exs_nil, exs_cons, nxt_nx, nxt_rt, nxt_exc, ex_asg, ex_own, ex_par, ex_app, ex_exn, ex_sti, ex_sto, ex_aug, ex_exp, ex_ret, ex_ifs, ex_fors, ex_whl, ex_rse, ex_tri, ex_frz, cstD, Tg.put, Tg.puts, startD, wipeD, kept_int, kept_bl, kept_str, kept_non, kept_tup, kept_lst, kept_ext, kept_ref, kept_fn, kept_exc, cmp_eq_int, cmp_ne_int, cmp_lt_int, cmp_le_int, cmp_gt_int, cmp_ge_int, List.map_cons, List.map_nil, List.length_cons, List.length_nil, Nat.reduceAdd, Nat.reduceSub, Nat.reduceLeDiff, List.replicate, List.cons_append, List.nil_append, List.append_nil, List.getElem?_cons_zero, List.getElem?_cons_succ, List.getElem?_nil, List.set_cons_zero, List.set_cons_succ, List.all_cons, List.all_nil, nown, Bool.and_true, Bool.true_and, Bool.and_false, Bool.false_and, if_true, if_false, Bool.false_eq_true, Bool.not_true, Bool.not_false, reduceIte, len6, Int.cast_ofNat_Int, beq_self_eq_true, Int.reduceBEq, Int.reduceAdd, Int.reduceNeg, decide_true, decide_false, Int.reduceLT, Int.reduceLE, Int.reduceToNat, s0, add_int, hM', ix0, m0, he, s1, mul_int _ _ _ bk bk, mul_int _ _ 7 b2 (lt_big (k := 10) (by decide) (by decide)), div_int _ _ 3 (by decide) (lt_big8 (k := 10) (by decide) (by decide)), mod_int _ _ _ hmany]
    rw [hM1]
    rfl
  · have hne : ns.isEmpty = false := by cases ns <;> simp_all
    have he : ∀ M, cmpD .Eq M (.ext (ns.map .int)) (.lst []) = some false := fun M => by rw [eq_ext_nil, hne]
    have hpos : 0 < ns.length := by cases ns <;> simp_all
    have hpos' : (0 : Int) < (ns.length : Int) := by omega
    have hat : (k + 1) % ns.length < ns.length := Nat.mod_lt _ hpos
    have hatc : (k + 1) % ns.length < cells.length := by rw [hc]; exact hat
    have e3 : (((k + 1 : Nat) : Int) % (ns.length : Int)) = (((k + 1) % ns.length : Nat) : Int) := rfl
    have s2 : subD M1 (.ref q) (.int (1 + (((k + 1) % ns.length : Nat) : Int))) = some (.int (cells[(k + 1) % ns.length])) := by
      rw [show (1 + (((k + 1) % ns.length : Nat) : Int)) = (((k + 1) % ns.length + 1 : Nat) : Int) by omega, sub_ref g1]
      simp [hatc]
    have s3 : ∀ M, subD M (.ext (ns.map .int)) (.int (((k + 1) % ns.length : Nat) : Int)) = some (.int (ns[(k + 1) % ns.length])) := fun M => by
      rw [sub_ext]; simp [hat]
    generalize hA : (k + 1) % ns.length = A at *
    generalize cells[A] = L at *
    generalize ns[A] = I at *
    have ln : ∀ M, bltD .len M [.ext (ns.map .int)] = some (.int (ns.length : Int)) := fun M => by rw [len_ext, List.length_map]
    by_cases hc2 : 1000000000000000000 ≤ I ∧ 0 < L
    · have hd : 0 ≤ L % (many : Int) := Int.emod_nonneg _ (by omega)
      have hd2 : L % (many : Int) < many := Int.emod_lt_of_pos _ hmany
      have ix1 : ixN ((cells.map D.int).length + 1) (1 + (A : Int)) = some (A + 1) := by
        rw [show (1 + (A : Int)) = ((A + 1 : Nat) : Int) by omega]
        exact ixN_nat (by simp; omega)
      refine ⟨(L % (many : Int)).toNat, cells.set A (L / many), by omega, by simp [hc], ?_⟩
      have mm : M1.set q (.lst (D.int ((k + 1 : Nat) : Int) :: (cells.map D.int).set A (.int (L / many)))) = M.set q (townC (k + 1) (cells.set A (L / many))) := by
        rw [← hM1, List.set_set]
        unfold townC
        simp [List.map_set]
      simp only [ends_rt, ends_nx, ends_exc, bind_ok, bind_exc, ret_some, retB_some, retL_some, retE_some, ev_var, ev_cst, ev_gint, ev_gstr, ev_gfn, ev_bin, ev_neg, ev_not, ev_bop, ev_cmp, ev_chain, ev_ite, ev_call, ev_isi, ev_blt, ev_mth, ev_sub, ev_slc, ev_tup, ev_lst, ev_lc, ev_live, ev_srt, ev_srk, evs_nil, evs_cons, evx_nil, evx_cons, evO_none, evO_some, evB_one, evB_and, evB_or, evT_nil, evT_one, exs_nil, exs_cons, nxt_nx, nxt_rt, nxt_exc, ex_asg, ex_own, ex_par, ex_app, ex_exn, ex_sti, ex_sto, ex_aug, ex_exp, ex_ret, ex_ifs, ex_fors, ex_whl, ex_rse, ex_tri, ex_frz, cstD, Tg.put, Tg.puts, startD, wipeD, kept_int, kept_bl, kept_str, kept_non, kept_tup, kept_lst, kept_ext, kept_ref, kept_fn, kept_exc, cmp_eq_int, cmp_ne_int, cmp_lt_int, cmp_le_int, cmp_gt_int, cmp_ge_int, List.map_cons, List.map_nil, List.length_cons, List.length_nil, Nat.reduceAdd, Nat.reduceSub, Nat.reduceLeDiff, List.replicate, List.cons_append, List.nil_append, List.append_nil, List.getElem?_cons_zero, List.getElem?_cons_succ, List.getElem?_nil, List.set_cons_zero, List.set_cons_succ, List.all_cons, List.all_nil, nown, Bool.and_true, Bool.true_and, Bool.and_false, Bool.false_and, if_true, if_false, Bool.false_eq_true, Bool.not_true, Bool.not_false, reduceIte, len6, Int.cast_ofNat_Int, beq_self_eq_true, Int.reduceBEq, Int.reduceAdd, Int.reduceNeg, decide_true, decide_false, Int.reduceLT, Int.reduceLE, Int.reduceToNat, s0, add_int, hM', ix0, m0, he, s1, ln, mod_int _ _ _ hpos', e3, hA, s2, s3, pow_1018, decide_eq_true hc2.1, decide_eq_true hc2.2, div_int _ L _ hmany hmanyb, g1, ix1, mm, mod_int _ _ _ hmany]
      rw [Int.toNat_of_nonneg hd]
    · refine ⟨((((I + 104729 * ((k + 1 : Nat) : Int)) % 4294967291) ^ 5 % 4294967279 / 64 * 69621 + ((I + 104729 * ((k + 1 : Nat) : Int)) % 4294967291) ^ 5 % 4294967279) % 4294967231 / 8 % (many : Int)).toNat, cells, ?_, hc, ?_⟩
      · have h1 := Int.emod_nonneg ((((I + 104729 * ((k + 1 : Nat) : Int)) % 4294967291) ^ 5 % 4294967279 / 64 * 69621 + ((I + 104729 * ((k + 1 : Nat) : Int)) % 4294967291) ^ 5 % 4294967279) % 4294967231 / 8) (show (many : Int) ≠ 0 by omega)
        have h2 := Int.emod_lt_of_pos ((((I + 104729 * ((k + 1 : Nat) : Int)) % 4294967291) ^ 5 % 4294967279 / 64 * 69621 + ((I + 104729 * ((k + 1 : Nat) : Int)) % 4294967291) ^ 5 % 4294967279) % 4294967231 / 8) hmany
        omega
      · have p0' := Int.emod_nonneg (I + 104729 * ((k + 1 : Nat) : Int)) (show (4294967291 : Int) ≠ 0 by decide)
        have p1' := Int.emod_lt_of_pos (I + 104729 * ((k + 1 : Nat) : Int)) (show (0 : Int) < 4294967291 by decide)
        have mu1 : ∀ M, binD .Mult M (.int 104729) (.int ((k + 1 : Nat) : Int)) = some (.int (104729 * ((k + 1 : Nat) : Int))) := fun M => mul_int M _ _ (lt_big (k := 20) (by decide) (by decide)) bk
        have q0' := Int.emod_nonneg (((I + 104729 * ((k + 1 : Nat) : Int)) % 4294967291) ^ 5) (show (4294967279 : Int) ≠ 0 by decide)
        have q1' := Int.emod_lt_of_pos (((I + 104729 * ((k + 1 : Nat) : Int)) % 4294967291) ^ 5) (show (0 : Int) < 4294967279 by decide)
        have pw : ∀ M, binD .Pow M (.int ((I + 104729 * ((k + 1 : Nat) : Int)) % 4294967291)) (.int 5) = some (.int (((I + 104729 * ((k + 1 : Nat) : Int)) % 4294967291) ^ 5)) := fun M => pow_5 M _ p0' p1'
        generalize ((I + 104729 * ((k + 1 : Nat) : Int)) % 4294967291) ^ 5 = P5 at *
        have mu2 : ∀ M, binD .Mult M (.int (P5 % 4294967279 / 64)) (.int 69621) = some (.int (P5 % 4294967279 / 64 * 69621)) := fun M => mul_int M _ _ (lt_big (k := 40) (by omega) (by decide)) (lt_big (k := 20) (by decide) (by decide))
        have hmod : ∀ M i j, 0 < j → binD .Mod M (.int i) (.int j) = some (.int (i % j)) := fun M i j h => mod_int M i j h
        have hres := Int.emod_nonneg ((P5 % 4294967279 / 64 * 69621 + P5 % 4294967279) % 4294967231 / 8) (show (many : Int) ≠ 0 by omega)
        have hand : (decide (1000000000000000000 ≤ I) = true ∧ decide (0 < L) = true) = False := by simp; omega
        rw [Int.toNat_of_nonneg hres]
        cases d1 : decide (1000000000000000000 ≤ I) with
        | true =>
          have d2 : decide (0 < L) = false := by
            rw [decide_eq_false_iff_not]
            intro z; exact hc2 ⟨of_decide_eq_true d1, z⟩
          simp only [ends_rt, ends_nx, ends_exc, bind_ok, bind_exc, ret_some, retB_some, retL_some, retE_some, ev_var, ev_cst, ev_gint, ev_gstr, ev_gfn, ev_bin, ev_neg, ev_not, ev_bop, ev_cmp, ev_chain, ev_ite, ev_call, ev_isi, ev_blt, ev_mth, ev_sub, ev_slc, ev_tup, ev_lst, ev_lc, ev_live, ev_srt, ev_srk, evs_nil, evs_cons, evx_nil, evx_cons, evO_none, evO_some, evB_one, evB_and, evB_or, evT_nil, evT_one, exs_nil, exs_cons, nxt_nx, nxt_rt, nxt_exc, ex_asg, ex_own, ex_par, ex_app, ex_exn, ex_sti, ex_sto, ex_aug, ex_exp, ex_ret, ex_ifs, ex_fors, ex_whl, ex_rse, ex_tri, ex_frz, cstD, Tg.put, Tg.puts, startD, wipeD, kept_int, kept_bl, kept_str, kept_non, kept_tup, kept_lst, kept_ext, kept_ref, kept_fn, kept_exc, cmp_eq_int, cmp_ne_int, cmp_lt_int, cmp_le_int, cmp_gt_int, cmp_ge_int, List.map_cons, List.map_nil, List.length_cons, List.length_nil, Nat.reduceAdd, Nat.reduceSub, Nat.reduceLeDiff, List.replicate, List.cons_append, List.nil_append, List.append_nil, List.getElem?_cons_zero, List.getElem?_cons_succ, List.getElem?_nil, List.set_cons_zero, List.set_cons_succ, List.all_cons, List.all_nil, nown, Bool.and_true, Bool.true_and, Bool.and_false, Bool.false_and, if_true, if_false, Bool.false_eq_true, Bool.not_true, Bool.not_false, reduceIte, len6, Int.cast_ofNat_Int, beq_self_eq_true, Int.reduceBEq, Int.reduceAdd, Int.reduceNeg, decide_true, decide_false, Int.reduceLT, Int.reduceLE, Int.reduceToNat, s0, add_int, hM', ix0, m0, he, s1, ln, mod_int _ _ _ hpos', e3, hA, s2, s3, pow_1018, d1, d2, mu1, mod_int _ _ 4294967291 (by decide), pw, mod_int _ _ 4294967279 (by decide), div_int _ _ 64 (by decide) (lt_big8 (k := 10) (by decide) (by decide)), mu2, mod_int _ _ 4294967231 (by decide), div_int _ _ 8 (by decide) (lt_big8 (k := 10) (by decide) (by decide)), mod_int _ _ _ hmany, hM1]
        | false =>
          simp only [ends_rt, ends_nx, ends_exc, bind_ok, bind_exc, ret_some, retB_some, retL_some, retE_some, ev_var, ev_cst, ev_gint, ev_gstr, ev_gfn, ev_bin, ev_neg, ev_not, ev_bop, ev_cmp, ev_chain, ev_ite, ev_call, ev_isi, ev_blt, ev_mth, ev_sub, ev_slc, ev_tup, ev_lst, ev_lc, ev_live, ev_srt, ev_srk, evs_nil, evs_cons, evx_nil, evx_cons, evO_none, evO_some, evB_one, evB_and, evB_or, evT_nil, evT_one, exs_nil, exs_cons, nxt_nx, nxt_rt, nxt_exc, ex_asg, ex_own, ex_par, ex_app, ex_exn, ex_sti, ex_sto, ex_aug, ex_exp, ex_ret, ex_ifs, ex_fors, ex_whl, ex_rse, ex_tri, ex_frz, cstD, Tg.put, Tg.puts, startD, wipeD, kept_int, kept_bl, kept_str, kept_non, kept_tup, kept_lst, kept_ext, kept_ref, kept_fn, kept_exc, cmp_eq_int, cmp_ne_int, cmp_lt_int, cmp_le_int, cmp_gt_int, cmp_ge_int, List.map_cons, List.map_nil, List.length_cons, List.length_nil, Nat.reduceAdd, Nat.reduceSub, Nat.reduceLeDiff, List.replicate, List.cons_append, List.nil_append, List.append_nil, List.getElem?_cons_zero, List.getElem?_cons_succ, List.getElem?_nil, List.set_cons_zero, List.set_cons_succ, List.all_cons, List.all_nil, nown, Bool.and_true, Bool.true_and, Bool.and_false, Bool.false_and, if_true, if_false, Bool.false_eq_true, Bool.not_true, Bool.not_false, reduceIte, len6, Int.cast_ofNat_Int, beq_self_eq_true, Int.reduceBEq, Int.reduceAdd, Int.reduceNeg, decide_true, decide_false, Int.reduceLT, Int.reduceLE, Int.reduceToNat, s0, add_int, hM', ix0, m0, he, s1, ln, mod_int _ _ _ hpos', e3, hA, s2, s3, pow_1018, d1, mu1, mod_int _ _ 4294967291 (by decide), pw, mod_int _ _ 4294967279 (by decide), div_int _ _ 64 (by decide) (lt_big8 (k := 10) (by decide) (by decide)), mu2, mod_int _ _ 4294967231 (by decide), div_int _ _ 8 (by decide) (lt_big8 (k := 10) (by decide) (by decide)), mod_int _ _ _ hmany, hM1]
end
end L2.Z
set_option Elab.async false
set_option linter.all false
set_option maxRecDepth 100000
set_option maxHeartbeats 2000000
set_option exponentiation.threshold 9000
/-! ### looking, and what is told of worths -/
namespace L2.Z
open PySem
/-- a call that is refused and changes nothing -/
def CalX (T : Nat → Option Fn) (sub : Nat → Nat → Bool) (fuel k f : Nat) (args : List D) (c : Nat) : Prop := ∀ n, k ≤ n → ∀ M, callF T sub fuel n f args M = .exc c M
theorem calX_of {T : Nat → Option Fn} {sub : Nat → Nat → Bool} {fuel k f a m : Nat} {lit : List S} {args : List D} {c : Nat} (hf : Has T f a m lit) (hd : args.length = a)
    (h : ∀ n, k ≤ n → ∀ M, ends (exs ⟨callF T sub fuel n, sub, fuel⟩ lit (startD m args) M) = .exc c M) : CalX T sub fuel (k + 1) f args c := by
  intro n hn M
  obtain ⟨j, rfl⟩ : ∃ j, n = j + 1 := ⟨n - 1, by omega⟩
  rw [run hf args hd]
  exact h j (by omega) M
def L_look_house (is_house c : Nat) : List S := [
  .ifs (.not (.call is_house x0 p0 [(.var 0 x0 p0)] p0) p0) [.rse c x0 p0 x0 0 p0 p0 p0] [] p0]
def L_look_going (c : Nat) : List S := [
  .ifs (.bop .Or [(.not (.isi (.var 1 x0 p0) .str p0 p0 p0) p0), (.cmp .NotIn (.var 1 x0 p0) (.lc (.sub (.var 3 x0 p0) (.cst (.int 0) 0 p0) p0) (.nm 3 x0 p0) .one [(.sub (.var 0 x0 p0) (.cst (.int 0) 0 p0) p0)] [] sc0 [(x0, 2), (x0, 3)] p0) p0)] p0) [.rse c x0 p0 x0 0 p0 p0 p0] [] p0]
def L_look_kind (look_house look_going is_kind c : Nat) : List S := [
  .exp (.call look_house x0 p0 [(.var 0 x0 p0)] p0) p0,
  .exp (.call look_going x0 p0 [(.var 0 x0 p0), (.var 1 x0 p0)] p0) p0,
  .ifs (.not (.call is_kind x0 p0 [(.var 2 x0 p0)] p0) p0) [.rse c x0 p0 x0 0 p0 p0 p0] [] p0]
def L_all_worths (ww : Nat) : List S := [
  .ret (.lc (.call ww x0 p0 [(.var 0 x0 p0), (.var 1 x0 p0), (.var 2 x0 p0), (.var 4 x0 p0)] p0) (.nm 4 x0 p0) (.rng p0 p0) [(.bin .Add (.gint x0 12 p0) (.cst (.int 1) 0 p0) p0)] [] sc0 [(x0, 3), (x0, 4)] p0) p0]
def L_worths (lk aw : Nat) : List S := [
  .exp (.call lk x0 p0 [(.var 0 x0 p0), (.var 1 x0 p0), (.var 2 x0 p0)] p0) p0,
  .ret (.call aw x0 p0 [(.var 0 x0 p0), (.var 1 x0 p0), (.var 2 x0 p0)] p0) p0]
def L_best_turn (mi : Nat) : List S := [.ifs (.cmp .Gt (.sub (.call mi x0 p0 [(.var 6 x0 p0), (.sub (.var 3 x0 p0) (.var 4 x0 p0) p0)] p0) (.cst (.int 0) 0 p0) p0) (.cst (.int 0) 0 p0) p0) [.asg (.nm 4 x0 p0) (.var 5 x0 p0) p0] [] p0]
def L_best_number (lk aw mi : Nat) : List S := [
  .exp (.call lk x0 p0 [(.var 0 x0 p0), (.var 1 x0 p0), (.var 2 x0 p0)] p0) p0,
  .asg (.nm 3 x0 p0) (.call aw x0 p0 [(.var 0 x0 p0), (.var 1 x0 p0), (.var 2 x0 p0)] p0) p0,
  .asg (.nm 4 x0 p0) (.cst (.int 0) 0 p0) p0,
  .fors (.tp [(.nm 5 x0 p0), (.nm 6 x0 p0)] 0 p0) (.enm p0 p0) [(.var 3 x0 p0)] (L_best_turn mi) p0,
  .ret (.var 4 x0 p0) p0]
def L_adds (aw mi : Nat) : List S := [
  .asg (.nm 3 x0 p0) (.call aw x0 p0 [(.var 0 x0 p0), (.var 1 x0 p0), (.var 2 x0 p0)] p0) p0,
  .ret (.lc (.call mi x0 p0 [(.var 6 x0 p0), (.var 5 x0 p0)] p0) (.tp [(.nm 5 x0 p0), (.nm 6 x0 p0)] 0 p0) (.zip p0 p0) [(.var 3 x0 p0), (.slc (.var 3 x0 p0) (some (.cst (.int 1) 0 p0)) none p0 p0)] [] sc0 [(x0, 4), (x0, 5), (x0, 6)] p0) p0]
def L_turning (lk ad : Nat) : List S := [
  .exp (.call lk x0 p0 [(.var 0 x0 p0), (.var 1 x0 p0), (.var 2 x0 p0)] p0) p0,
  .asg (.nm 3 x0 p0) (.lc (.cmp .Lt (.sub (.var 6 x0 p0) (.cst (.int 0) 0 p0) p0) (.cst (.int 0) 0 p0) p0) (.nm 6 x0 p0) .one [(.call ad x0 p0 [(.var 0 x0 p0), (.var 1 x0 p0), (.var 2 x0 p0)] p0)] [] sc0 [(x0, 5), (x0, 6)] p0) p0,
  .asg (.nm 4 x0 p0) (.blt .len p0 [(.var 3 x0 p0)] p0) p0,
  .whl (.bop .And [(.cmp .Gt (.var 4 x0 p0) (.cst (.int 0) 0 p0) p0), (.sub (.var 3 x0 p0) (.bin .Sub (.var 4 x0 p0) (.cst (.int 1) 0 p0) p0) p0)] p0) [.aug 4 x0 p0 .Sub (.cst (.int 1) 0 p0) p0] p0,
  .ret (.ite (.cmp .Lt (.var 4 x0 p0) (.blt .len p0 [(.var 3 x0 p0)] p0) p0) (.var 4 x0 p0) (.cst .none 0 p0) p0) p0]
section
variable {T : Nat → Option Fn} {sub : Nat → Nat → Bool} {fuel : Nat}
theorem run_look_house {f fh c k : Nat} (h : Has T f 1 1 (L_look_house fh c)) {d : D} (hd : nown d = true) (hh : Cal T sub fuel k fh [d] (.bl true)) : Cal T sub fuel (k + 1) f [d] .non := by
  refine cal_of (k := k) h rfl fun n hn M => ?_
  unfold L_look_house
  simp only [ends_rtN, ends_nxN, ends_excN, bind_okN, bind_excN, ret_someN, retB_someN, retL_someN, retE_someN, ev_var, ev_cst, ev_gint, ev_gstr, ev_gfn, ev_bin, ev_neg, ev_not, ev_bop, ev_cmp, ev_chain, ev_ite, ev_call, ev_isi, ev_blt, ev_mth, ev_sub, ev_slc, ev_tup, ev_lst, ev_lc, ev_live, ev_srt, ev_srk, evs_nil, evs_cons, evx_nil, evx_cons, evO_none, evO_some, evB_one, evB_and, evB_or, evT_nil, evT_one, exs_nil, exs_cons, nxt_nxN, nxt_rtN, nxt_excN, ex_asg, ex_own, ex_par, ex_app, ex_exn, ex_sti, ex_sto, ex_aug, ex_exp, ex_ret, ex_ifs, ex_fors, ex_whl, ex_rse, ex_tri, ex_frz, cstD, Tg.put, Tg.puts, startD, wipeD, kept_intN, kept_blN, kept_strN, kept_nonN, kept_tupN, kept_lstN, kept_extN, kept_refN, kept_fnN, kept_excN, cmp_eq_int, cmp_ne_int, cmp_lt_intN, cmp_le_intN, cmp_gt_intN, cmp_ge_intN, List.map_cons, List.map_nil, List.length_cons, List.length_nil, Nat.reduceAdd, Nat.reduceSub, Nat.reduceLeDiff, List.replicate, List.cons_append, List.nil_append, List.append_nil, List.getElem?_cons_zero, List.getElem?_cons_succ, List.getElem?_nil, List.set_cons_zero, List.set_cons_succ, List.all_cons, List.all_nil, nown, Bool.and_true, Bool.true_and, Bool.and_false, Bool.false_and, if_true, if_false, Bool.false_eq_true, Bool.not_true, Bool.not_false, reduceIte, len6, Int.cast_ofNat_Int, beq_self_eq_true, Int.reduceBEq, Int.reduceAdd, Int.reduceNeg, decide_true, decide_false, Int.reduceLT, Int.reduceLE, Int.reduceToNat, kept_ok hd, hh n hn]
theorem run_look_houseX {f fh c k : Nat} (h : Has T f 1 1 (L_look_house fh c)) {d : D} (hd : nown d = true) (hh : Cal T sub fuel k fh [d] (.bl false)) : CalX T sub fuel (k + 1) f [d] c := by
  refine calX_of (k := k) h rfl fun n hn M => ?_
  unfold L_look_house
  simp only [ends_rtN, ends_nxN, ends_excN, bind_okN, bind_excN, ret_someN, retB_someN, retL_someN, retE_someN, ev_var, ev_cst, ev_gint, ev_gstr, ev_gfn, ev_bin, ev_neg, ev_not, ev_bop, ev_cmp, ev_chain, ev_ite, ev_call, ev_isi, ev_blt, ev_mth, ev_sub, ev_slc, ev_tup, ev_lst, ev_lc, ev_live, ev_srt, ev_srk, evs_nil, evs_cons, evx_nil, evx_cons, evO_none, evO_some, evB_one, evB_and, evB_or, evT_nil, evT_one, exs_nil, exs_cons, nxt_nxN, nxt_rtN, nxt_excN, ex_asg, ex_own, ex_par, ex_app, ex_exn, ex_sti, ex_sto, ex_aug, ex_exp, ex_ret, ex_ifs, ex_fors, ex_whl, ex_rse, ex_tri, ex_frz, cstD, Tg.put, Tg.puts, startD, wipeD, kept_intN, kept_blN, kept_strN, kept_nonN, kept_tupN, kept_lstN, kept_extN, kept_refN, kept_fnN, kept_excN, cmp_eq_int, cmp_ne_int, cmp_lt_intN, cmp_le_intN, cmp_gt_intN, cmp_ge_intN, List.map_cons, List.map_nil, List.length_cons, List.length_nil, Nat.reduceAdd, Nat.reduceSub, Nat.reduceLeDiff, List.replicate, List.cons_append, List.nil_append, List.append_nil, List.getElem?_cons_zero, List.getElem?_cons_succ, List.getElem?_nil, List.set_cons_zero, List.set_cons_succ, List.all_cons, List.all_nil, nown, Bool.and_true, Bool.true_and, Bool.and_false, Bool.false_and, if_true, if_false, Bool.false_eq_true, Bool.not_true, Bool.not_false, reduceIte, len6, Int.cast_ofNat_Int, beq_self_eq_true, Int.reduceBEq, Int.reduceAdd, Int.reduceNeg, decide_true, decide_false, Int.reduceLT, Int.reduceLE, Int.reduceToNat, kept_ok hd, hh n hn, ex_rse]
theorem run_look_going {f c : Nat} (h : Has T f 2 4 (L_look_going c)) (b r : D) (gs : List Gd) (hs : ∀ g ∈ gs, g.ok) (hl : gs.length ≤ 1000) (z : Str) (hz : PyData.strOk z = true) (hin : (gs.map (·.name)).contains z = true) : Cal T sub fuel 1 f [.tup [.tup (gs.map gdD), b, r], .str z] .non := by
  refine cal_of (k := 0) h rfl fun n hn M => ?_
  have lc : ∀ M, lcW ⟨callF T sub fuel n, sub, fuel⟩ [some (.tup [.tup (gs.map gdD), b, r]), some (.str z), none, none] M (.sub (.var 3 x0 p0) (.cst (.int 0) 0 p0) p0) (.nm 3 x0 p0) [] [2, 3] (gs.map gdD) = .ok ((gs.map (·.name)).map .str) M := fun M => by
    rw [List.map_map]
    exact lcW_mapE gdD (D.str ∘ (·.name)) gs fun g _ => ⟨_, rfl, by rw [evT_nil], by
      have s0 : ∀ M, subD M (gdD g) (.int 0) = some (.str g.name) := fun M => sub_t0 M _ _
      simp only [ends_rtN, ends_nxN, ends_excN, bind_okN, bind_excN, ret_someN, retB_someN, retL_someN, retE_someN, ev_var, ev_cst, ev_gint, ev_gstr, ev_gfn, ev_bin, ev_neg, ev_not, ev_bop, ev_cmp, ev_chain, ev_ite, ev_call, ev_isi, ev_blt, ev_mth, ev_sub, ev_slc, ev_tup, ev_lst, ev_lc, ev_live, ev_srt, ev_srk, evs_nil, evs_cons, evx_nil, evx_cons, evO_none, evO_some, evB_one, evB_and, evB_or, evT_nil, evT_one, exs_nil, exs_cons, nxt_nxN, nxt_rtN, nxt_excN, ex_asg, ex_own, ex_par, ex_app, ex_exn, ex_sti, ex_sto, ex_aug, ex_exp, ex_ret, ex_ifs, ex_fors, ex_whl, ex_rse, ex_tri, ex_frz, cstD, Tg.put, Tg.puts, startD, wipeD, kept_intN, kept_blN, kept_strN, kept_nonN, kept_tupN, kept_lstN, kept_extN, kept_refN, kept_fnN, kept_excN, cmp_eq_int, cmp_ne_int, cmp_lt_intN, cmp_le_intN, cmp_gt_intN, cmp_ge_intN, List.map_cons, List.map_nil, List.length_cons, List.length_nil, Nat.reduceAdd, Nat.reduceSub, Nat.reduceLeDiff, List.replicate, List.cons_append, List.nil_append, List.append_nil, List.getElem?_cons_zero, List.getElem?_cons_succ, List.getElem?_nil, List.set_cons_zero, List.set_cons_succ, List.all_cons, List.all_nil, nown, Bool.and_true, Bool.true_and, Bool.and_false, Bool.false_and, if_true, if_false, Bool.false_eq_true, Bool.not_true, Bool.not_false, reduceIte, len6, Int.cast_ofNat_Int, beq_self_eq_true, Int.reduceBEq, Int.reduceAdd, Int.reduceNeg, decide_true, decide_false, Int.reduceLT, Int.reduceLE, Int.reduceToNat, s0]; rfl, rfl⟩
  have b1 : ((gs.map (·.name)).map D.str).length ≤ sizeLine := big_le (by simpa using hl)
  have hok : ∀ s ∈ gs.map (·.name), PyData.strOk s = true := fun s hs' => by
    obtain ⟨g, hg, rfl⟩ := List.mem_map.mp hs'
    exact hs g hg
  unfold L_look_going
  simp only [ends_rtN, ends_nxN, ends_excN, bind_okN, bind_excN, ret_someN, retB_someN, retL_someN, retE_someN, ev_var, ev_cst, ev_gint, ev_gstr, ev_gfn, ev_bin, ev_neg, ev_not, ev_bop, ev_cmp, ev_chain, ev_ite, ev_call, ev_isi, ev_blt, ev_mth, ev_sub, ev_slc, ev_tup, ev_lst, ev_lc, ev_live, ev_srt, ev_srk, evs_nil, evs_cons, evx_nil, evx_cons, evO_none, evO_some, evB_one, evB_and, evB_or, evT_nil, evT_one, exs_nil, exs_cons, nxt_nxN, nxt_rtN, nxt_excN, ex_asg, ex_own, ex_par, ex_app, ex_exn, ex_sti, ex_sto, ex_aug, ex_exp, ex_ret, ex_ifs, ex_fors, ex_whl, ex_rse, ex_tri, ex_frz, cstD, Tg.put, Tg.puts, startD, wipeD, kept_intN, kept_blN, kept_strN, kept_nonN, kept_tupN, kept_lstN, kept_extN, kept_refN, kept_fnN, kept_excN, cmp_eq_int, cmp_ne_int, cmp_lt_intN, cmp_le_intN, cmp_gt_intN, cmp_ge_intN, List.map_cons, List.map_nil, List.length_cons, List.length_nil, Nat.reduceAdd, Nat.reduceSub, Nat.reduceLeDiff, List.replicate, List.cons_append, List.nil_append, List.append_nil, List.getElem?_cons_zero, List.getElem?_cons_succ, List.getElem?_nil, List.set_cons_zero, List.set_cons_succ, List.all_cons, List.all_nil, nown, Bool.and_true, Bool.true_and, Bool.and_false, Bool.false_and, if_true, if_false, Bool.false_eq_true, Bool.not_true, Bool.not_false, reduceIte, len6, Int.cast_ofNat_Int, beq_self_eq_true, Int.reduceBEq, Int.reduceAdd, Int.reduceNeg, decide_true, decide_false, Int.reduceLT, Int.reduceLE, Int.reduceToNat, isiD, sub_t0, src_one_tup, lc, b1, notin_strs _ _ _ hz hok, hin]
theorem run_look_kind {f fh fg fk c k : Nat} (h : Has T f 3 3 (L_look_kind fh fg fk c)) {a b d : D} (na : nown a = true) (nb : nown b = true) (nd : nown d = true) (h1 : Cal T sub fuel k fh [a] .non) (h2 : Cal T sub fuel k fg [a, b] .non) (h3 : Cal T sub fuel k fk [d] (.bl true)) : Cal T sub fuel (k + 1) f [a, b, d] .non := by
  refine cal_of (k := k) h rfl fun n hn M => ?_
  unfold L_look_kind
  simp only [ends_rtN, ends_nxN, ends_excN, bind_okN, bind_excN, ret_someN, retB_someN, retL_someN, retE_someN, ev_var, ev_cst, ev_gint, ev_gstr, ev_gfn, ev_bin, ev_neg, ev_not, ev_bop, ev_cmp, ev_chain, ev_ite, ev_call, ev_isi, ev_blt, ev_mth, ev_sub, ev_slc, ev_tup, ev_lst, ev_lc, ev_live, ev_srt, ev_srk, evs_nil, evs_cons, evx_nil, evx_cons, evO_none, evO_some, evB_one, evB_and, evB_or, evT_nil, evT_one, exs_nil, exs_cons, nxt_nxN, nxt_rtN, nxt_excN, ex_asg, ex_own, ex_par, ex_app, ex_exn, ex_sti, ex_sto, ex_aug, ex_exp, ex_ret, ex_ifs, ex_fors, ex_whl, ex_rse, ex_tri, ex_frz, cstD, Tg.put, Tg.puts, startD, wipeD, kept_intN, kept_blN, kept_strN, kept_nonN, kept_tupN, kept_lstN, kept_extN, kept_refN, kept_fnN, kept_excN, cmp_eq_int, cmp_ne_int, cmp_lt_intN, cmp_le_intN, cmp_gt_intN, cmp_ge_intN, List.map_cons, List.map_nil, List.length_cons, List.length_nil, Nat.reduceAdd, Nat.reduceSub, Nat.reduceLeDiff, List.replicate, List.cons_append, List.nil_append, List.append_nil, List.getElem?_cons_zero, List.getElem?_cons_succ, List.getElem?_nil, List.set_cons_zero, List.set_cons_succ, List.all_cons, List.all_nil, nown, Bool.and_true, Bool.true_and, Bool.and_false, Bool.false_and, if_true, if_false, Bool.false_eq_true, Bool.not_true, Bool.not_false, reduceIte, len6, Int.cast_ofNat_Int, beq_self_eq_true, Int.reduceBEq, Int.reduceAdd, Int.reduceNeg, decide_true, decide_false, Int.reduceLT, Int.reduceLE, Int.reduceToNat, kept_ok na, kept_ok nb, kept_ok nd, h1 n hn, h2 n hn, h3 n hn]
/-- worths 0 to 12 -/
def WL (W : Nat → Rat) : List Rat := (List.range 13).map W
theorem run_all_worths {f fw k : Nat} (h : Has T f 3 5 (L_all_worths fw)) {a b d : D} (na : nown a = true) (nb : nown b = true) (nd : nown d = true) (W : Nat → Rat) (hw : ∀ m, m ≤ 12 → Cal T sub fuel k fw [a, b, d, .int (m : Nat)] (rd (W m))) : Cal T sub fuel (k + 1) f [a, b, d] (.lst (rds (WL W))) := by
  refine cal_of (k := k) h rfl fun n hn M => ?_
  have lc : ∀ M, lcW ⟨callF T sub fuel n, sub, fuel⟩ [some a, some b, some d, none, none] M (.call fw x0 p0 [(.var 0 x0 p0), (.var 1 x0 p0), (.var 2 x0 p0), (.var 4 x0 p0)] p0) (.nm 4 x0 p0) [] [3, 4] ((List.range 13).map fun k => .int (k : Nat)) = .ok (rds (WL W)) M := fun M => by
    unfold rds WL
    rw [List.map_map]
    exact lcW_mapE (fun k : Nat => D.int (k : Nat)) (rd ∘ W) (List.range 13) fun m hm => by
      have hm : m ≤ 12 := by have := List.mem_range.mp hm; omega
      refine ⟨_, rfl, by rw [evT_nil], ?_, rfl⟩
      simp only [ends_rtN, ends_nxN, ends_excN, bind_okN, bind_excN, ret_someN, retB_someN, retL_someN, retE_someN, ev_var, ev_cst, ev_gint, ev_gstr, ev_gfn, ev_bin, ev_neg, ev_not, ev_bop, ev_cmp, ev_chain, ev_ite, ev_call, ev_isi, ev_blt, ev_mth, ev_sub, ev_slc, ev_tup, ev_lst, ev_lc, ev_live, ev_srt, ev_srk, evs_nil, evs_cons, evx_nil, evx_cons, evO_none, evO_some, evB_one, evB_and, evB_or, evT_nil, evT_one, exs_nil, exs_cons, nxt_nxN, nxt_rtN, nxt_excN, ex_asg, ex_own, ex_par, ex_app, ex_exn, ex_sti, ex_sto, ex_aug, ex_exp, ex_ret, ex_ifs, ex_fors, ex_whl, ex_rse, ex_tri, ex_frz, cstD, Tg.put, Tg.puts, startD, wipeD, kept_intN, kept_blN, kept_strN, kept_nonN, kept_tupN, kept_lstN, kept_extN, kept_refN, kept_fnN, kept_excN, cmp_eq_int, cmp_ne_int, cmp_lt_intN, cmp_le_intN, cmp_gt_intN, cmp_ge_intN, List.map_cons, List.map_nil, List.length_cons, List.length_nil, Nat.reduceAdd, Nat.reduceSub, Nat.reduceLeDiff, List.replicate, List.cons_append, List.nil_append, List.append_nil, List.getElem?_cons_zero, List.getElem?_cons_succ, List.getElem?_nil, List.set_cons_zero, List.set_cons_succ, List.all_cons, List.all_nil, nown, Bool.and_true, Bool.true_and, Bool.and_false, Bool.false_and, if_true, if_false, Bool.false_eq_true, Bool.not_true, Bool.not_false, reduceIte, len6, Int.cast_ofNat_Int, beq_self_eq_true, Int.reduceBEq, Int.reduceAdd, Int.reduceNeg, decide_true, decide_false, Int.reduceLT, Int.reduceLE, Int.reduceToNat, kept_ok na, kept_ok nb, kept_ok nd, hw m hm n hn]
      rfl
  have b1 : (rds (WL W)).length ≤ sizeLine := big_le (by simp [rds, WL])
  have e13 : ∀ px p, srcD (.rng px p) [.int 13] = some ((List.range 13).map fun k => .int (k : Nat)) := fun px p => rng_nat 13 (by decide) px p
  unfold L_all_worths
  simp only [ends_rtN, ends_nxN, ends_excN, bind_okN, bind_excN, ret_someN, retB_someN, retL_someN, retE_someN, ev_var, ev_cst, ev_gint, ev_gstr, ev_gfn, ev_bin, ev_neg, ev_not, ev_bop, ev_cmp, ev_chain, ev_ite, ev_call, ev_isi, ev_blt, ev_mth, ev_sub, ev_slc, ev_tup, ev_lst, ev_lc, ev_live, ev_srt, ev_srk, evs_nil, evs_cons, evx_nil, evx_cons, evO_none, evO_some, evB_one, evB_and, evB_or, evT_nil, evT_one, exs_nil, exs_cons, nxt_nxN, nxt_rtN, nxt_excN, ex_asg, ex_own, ex_par, ex_app, ex_exn, ex_sti, ex_sto, ex_aug, ex_exp, ex_ret, ex_ifs, ex_fors, ex_whl, ex_rse, ex_tri, ex_frz, cstD, Tg.put, Tg.puts, startD, wipeD, kept_intN, kept_blN, kept_strN, kept_nonN, kept_tupN, kept_lstN, kept_extN, kept_refN, kept_fnN, kept_excN, cmp_eq_int, cmp_ne_int, cmp_lt_intN, cmp_le_intN, cmp_gt_intN, cmp_ge_intN, List.map_cons, List.map_nil, List.length_cons, List.length_nil, Nat.reduceAdd, Nat.reduceSub, Nat.reduceLeDiff, List.replicate, List.cons_append, List.nil_append, List.append_nil, List.getElem?_cons_zero, List.getElem?_cons_succ, List.getElem?_nil, List.set_cons_zero, List.set_cons_succ, List.all_cons, List.all_nil, nown, Bool.and_true, Bool.true_and, Bool.and_false, Bool.false_and, if_true, if_false, Bool.false_eq_true, Bool.not_true, Bool.not_false, reduceIte, len6, Int.cast_ofNat_Int, beq_self_eq_true, Int.reduceBEq, Int.reduceAdd, Int.reduceNeg, decide_true, decide_false, Int.reduceLT, Int.reduceLE, Int.reduceToNat, add_int, e13, lc, b1]
theorem run_worths {f fl fa k : Nat} (h : Has T f 3 3 (L_worths fl fa)) {a b d q : D} (na : nown a = true) (nb : nown b = true) (nd : nown d = true) (nq : nown q = true) (h1 : Cal T sub fuel k fl [a, b, d] .non) (h2 : Cal T sub fuel k fa [a, b, d] q) : Cal T sub fuel (k + 1) f [a, b, d] q := by
  refine cal_of (k := k) h rfl fun n hn M => ?_
  unfold L_worths
  simp only [ends_rtN, ends_nxN, ends_excN, bind_okN, bind_excN, ret_someN, retB_someN, retL_someN, retE_someN, ev_var, ev_cst, ev_gint, ev_gstr, ev_gfn, ev_bin, ev_neg, ev_not, ev_bop, ev_cmp, ev_chain, ev_ite, ev_call, ev_isi, ev_blt, ev_mth, ev_sub, ev_slc, ev_tup, ev_lst, ev_lc, ev_live, ev_srt, ev_srk, evs_nil, evs_cons, evx_nil, evx_cons, evO_none, evO_some, evB_one, evB_and, evB_or, evT_nil, evT_one, exs_nil, exs_cons, nxt_nxN, nxt_rtN, nxt_excN, ex_asg, ex_own, ex_par, ex_app, ex_exn, ex_sti, ex_sto, ex_aug, ex_exp, ex_ret, ex_ifs, ex_fors, ex_whl, ex_rse, ex_tri, ex_frz, cstD, Tg.put, Tg.puts, startD, wipeD, kept_intN, kept_blN, kept_strN, kept_nonN, kept_tupN, kept_lstN, kept_extN, kept_refN, kept_fnN, kept_excN, cmp_eq_int, cmp_ne_int, cmp_lt_intN, cmp_le_intN, cmp_gt_intN, cmp_ge_intN, List.map_cons, List.map_nil, List.length_cons, List.length_nil, Nat.reduceAdd, Nat.reduceSub, Nat.reduceLeDiff, List.replicate, List.cons_append, List.nil_append, List.append_nil, List.getElem?_cons_zero, List.getElem?_cons_succ, List.getElem?_nil, List.set_cons_zero, List.set_cons_succ, List.all_cons, List.all_nil, nown, Bool.and_true, Bool.true_and, Bool.and_false, Bool.false_and, if_true, if_false, Bool.false_eq_true, Bool.not_true, Bool.not_false, reduceIte, len6, Int.cast_ofNat_Int, beq_self_eq_true, Int.reduceBEq, Int.reduceAdd, Int.reduceNeg, decide_true, decide_false, Int.reduceLT, Int.reduceLE, Int.reduceToNat, kept_ok na, kept_ok nb, kept_ok nd, kept_ok nq, h1 n hn, h2 n hn]
def bestF (W : Nat → Rat) (best m : Nat) : Nat := if 0 < (W m - W best).num then m else best
def bestN (W : Nat → Rat) : Nat := (List.range 13).foldl (bestF W) 0
theorem WL_at (W : Nat → Rat) {m : Nat} (hm : m ≤ 12) (M : Mem) : subD M (.lst (rds (WL W))) (.int (m : Nat)) = some (rd (W m)) := by
  rw [sub_lst]
  unfold rds WL
  rw [List.getElem?_map, List.getElem?_map, List.getElem?_range (by omega)]
  rfl
theorem best_loop {mi : Nat} (W : Nat → Rat) (hmin : ∀ i j, i ≤ 12 → j ≤ 12 → Cal T sub fuel 3 mi [rd (W i), rd (W j)] (rd (W i - W j))) (n : Nat) (hn : 3 ≤ n) (M : Mem) (a b d : Option D) : ∀ (l : List Nat) (best : Nat) (o5 o6 : Option D), best ≤ 12 → (∀ m ∈ l, m ≤ 12) → ∃ o5' o6', forW ⟨callF T sub fuel n, sub, fuel⟩ [a, b, d, some (.lst (rds (WL W))), some (.int (best : Nat)), o5, o6] M (.tp [(.nm 5 x0 p0), (.nm 6 x0 p0)] 0 p0) (L_best_turn mi) (l.map fun m => .tup [.int (m : Nat), rd (W m)]) = .ok (.nx [a, b, d, some (.lst (rds (WL W))), some (.int ((l.foldl (bestF W) best : Nat) : Int)), o5', o6']) M ∧ l.foldl (bestF W) best ≤ 12
  | [], best, o5, o6, hb, _ => ⟨o5, o6, rfl, hb⟩
  | m :: l, best, o5, o6, hb, hl => by
    have hm := hl m List.mem_cons_self
    have hb' : bestF W best m ≤ 12 := by unfold bestF; split <;> assumption
    obtain ⟨o5', o6', ih, ih2⟩ := best_loop W hmin n hn M a b d l (bestF W best m) (some (.int (m : Nat))) (some (rd (W m))) hb' fun m hm => hl m (List.mem_cons_of_mem _ hm)
    refine ⟨o5', o6', ?_, ih2⟩
    rw [List.map_cons, forW_cons]
    unfold L_best_turn
    have e : ∀ i j : Nat, subD M (rd (W i - W j)) (.int 0) = some (.int (W i - W j).num) := fun i j => sub_rd0 M _
    by_cases hg : 0 < (W m - W best).num
    · have hbf : bestF W best m = m := if_pos hg
      simp only [ends_rtN, ends_nxN, ends_excN, bind_okN, bind_excN, ret_someN, retB_someN, retL_someN, retE_someN, ev_var, ev_cst, ev_gint, ev_gstr, ev_gfn, ev_bin, ev_neg, ev_not, ev_bop, ev_cmp, ev_chain, ev_ite, ev_call, ev_isi, ev_blt, ev_mth, ev_sub, ev_slc, ev_tup, ev_lst, ev_lc, ev_live, ev_srt, ev_srk, evs_nil, evs_cons, evx_nil, evx_cons, evO_none, evO_some, evB_one, evB_and, evB_or, evT_nil, evT_one, exs_nil, exs_cons, nxt_nxN, nxt_rtN, nxt_excN, ex_asg, ex_own, ex_par, ex_app, ex_exn, ex_sti, ex_sto, ex_aug, ex_exp, ex_ret, ex_ifs, ex_fors, ex_whl, ex_rse, ex_tri, ex_frz, cstD, Tg.put, Tg.puts, startD, wipeD, kept_intN, kept_blN, kept_strN, kept_nonN, kept_tupN, kept_lstN, kept_extN, kept_refN, kept_fnN, kept_excN, cmp_eq_int, cmp_ne_int, cmp_lt_intN, cmp_le_intN, cmp_gt_intN, cmp_ge_intN, List.map_cons, List.map_nil, List.length_cons, List.length_nil, Nat.reduceAdd, Nat.reduceSub, Nat.reduceLeDiff, List.replicate, List.cons_append, List.nil_append, List.append_nil, List.getElem?_cons_zero, List.getElem?_cons_succ, List.getElem?_nil, List.set_cons_zero, List.set_cons_succ, List.all_cons, List.all_nil, nown, Bool.and_true, Bool.true_and, Bool.and_false, Bool.false_and, if_true, if_false, Bool.false_eq_true, Bool.not_true, Bool.not_false, reduceIte, len6, Int.cast_ofNat_Int, beq_self_eq_true, Int.reduceBEq, Int.reduceAdd, Int.reduceNeg, decide_true, decide_false, Int.reduceLT, Int.reduceLE, Int.reduceToNat, WL_at W hb, kept_rd, hmin m best hm hb n hn, e, decide_eq_true hg]
      rw [hbf] at ih
      rw [List.foldl_cons, hbf]
      exact ih
    · have hbf : bestF W best m = best := if_neg hg
      simp only [ends_rtN, ends_nxN, ends_excN, bind_okN, bind_excN, ret_someN, retB_someN, retL_someN, retE_someN, ev_var, ev_cst, ev_gint, ev_gstr, ev_gfn, ev_bin, ev_neg, ev_not, ev_bop, ev_cmp, ev_chain, ev_ite, ev_call, ev_isi, ev_blt, ev_mth, ev_sub, ev_slc, ev_tup, ev_lst, ev_lc, ev_live, ev_srt, ev_srk, evs_nil, evs_cons, evx_nil, evx_cons, evO_none, evO_some, evB_one, evB_and, evB_or, evT_nil, evT_one, exs_nil, exs_cons, nxt_nxN, nxt_rtN, nxt_excN, ex_asg, ex_own, ex_par, ex_app, ex_exn, ex_sti, ex_sto, ex_aug, ex_exp, ex_ret, ex_ifs, ex_fors, ex_whl, ex_rse, ex_tri, ex_frz, cstD, Tg.put, Tg.puts, startD, wipeD, kept_intN, kept_blN, kept_strN, kept_nonN, kept_tupN, kept_lstN, kept_extN, kept_refN, kept_fnN, kept_excN, cmp_eq_int, cmp_ne_int, cmp_lt_intN, cmp_le_intN, cmp_gt_intN, cmp_ge_intN, List.map_cons, List.map_nil, List.length_cons, List.length_nil, Nat.reduceAdd, Nat.reduceSub, Nat.reduceLeDiff, List.replicate, List.cons_append, List.nil_append, List.append_nil, List.getElem?_cons_zero, List.getElem?_cons_succ, List.getElem?_nil, List.set_cons_zero, List.set_cons_succ, List.all_cons, List.all_nil, nown, Bool.and_true, Bool.true_and, Bool.and_false, Bool.false_and, if_true, if_false, Bool.false_eq_true, Bool.not_true, Bool.not_false, reduceIte, len6, Int.cast_ofNat_Int, beq_self_eq_true, Int.reduceBEq, Int.reduceAdd, Int.reduceNeg, decide_true, decide_false, Int.reduceLT, Int.reduceLE, Int.reduceToNat, WL_at W hb, kept_rd, hmin m best hm hb n hn, e, decide_eq_false hg]
      rw [hbf] at ih
      rw [List.foldl_cons, hbf]
      exact ih
theorem WL_enm (W : Nat → Rat) : enmD (rds (WL W)) = (List.range 13).map fun m => .tup [.int (m : Nat), rd (W m)] := rfl
theorem run_best_number {f fl fa mi k : Nat} (h : Has T f 3 7 (L_best_number fl fa mi)) {a b d : D} (na : nown a = true) (nb : nown b = true) (nd : nown d = true) (W : Nat → Rat) (hk : 3 ≤ k) (h1 : Cal T sub fuel k fl [a, b, d] .non) (h2 : Cal T sub fuel k fa [a, b, d] (.lst (rds (WL W)))) (hmin : ∀ i j, i ≤ 12 → j ≤ 12 → Cal T sub fuel 3 mi [rd (W i), rd (W j)] (rd (W i - W j))) : Cal T sub fuel (k + 1) f [a, b, d] (.int (bestN W : Nat)) := by
  refine cal_of (k := k) h rfl fun n hn M => ?_
  obtain ⟨o5, o6, hl, _⟩ := best_loop (T := T) (sub := sub) (fuel := fuel) W hmin n (by omega) M (some a) (some b) (some d) (List.range 13) 0 none none (by decide) (fun m hm => by have := List.mem_range.mp hm; omega)
  have ce : ∀ px p, srcD (.enm px p) [.lst (rds (WL W))] = some ((List.range 13).map fun m => .tup [.int (m : Nat), rd (W m)]) := fun px p => by rw [← WL_enm]; rfl
  have nw : nown (.lst (rds (WL W))) = true := rfl
  unfold L_best_number
  simp only [ends_rtN, ends_nxN, ends_excN, bind_okN, bind_excN, ret_someN, retB_someN, retL_someN, retE_someN, ev_var, ev_cst, ev_gint, ev_gstr, ev_gfn, ev_bin, ev_neg, ev_not, ev_bop, ev_cmp, ev_chain, ev_ite, ev_call, ev_isi, ev_blt, ev_mth, ev_sub, ev_slc, ev_tup, ev_lst, ev_lc, ev_live, ev_srt, ev_srk, evs_nil, evs_cons, evx_nil, evx_cons, evO_none, evO_some, evB_one, evB_and, evB_or, evT_nil, evT_one, exs_nil, exs_cons, nxt_nxN, nxt_rtN, nxt_excN, ex_asg, ex_own, ex_par, ex_app, ex_exn, ex_sti, ex_sto, ex_aug, ex_exp, ex_ret, ex_ifs, ex_fors, ex_whl, ex_rse, ex_tri, ex_frz, cstD, Tg.put, Tg.puts, startD, wipeD, kept_intN, kept_blN, kept_strN, kept_nonN, kept_tupN, kept_lstN, kept_extN, kept_refN, kept_fnN, kept_excN, cmp_eq_int, cmp_ne_int, cmp_lt_intN, cmp_le_intN, cmp_gt_intN, cmp_ge_intN, List.map_cons, List.map_nil, List.length_cons, List.length_nil, Nat.reduceAdd, Nat.reduceSub, Nat.reduceLeDiff, List.replicate, List.cons_append, List.nil_append, List.append_nil, List.getElem?_cons_zero, List.getElem?_cons_succ, List.getElem?_nil, List.set_cons_zero, List.set_cons_succ, List.all_cons, List.all_nil, nown, Bool.and_true, Bool.true_and, Bool.and_false, Bool.false_and, if_true, if_false, Bool.false_eq_true, Bool.not_true, Bool.not_false, reduceIte, len6, Int.cast_ofNat_Int, beq_self_eq_true, Int.reduceBEq, Int.reduceAdd, Int.reduceNeg, decide_true, decide_false, Int.reduceLT, Int.reduceLE, Int.reduceToNat, kept_ok na, kept_ok nb, kept_ok nd, h1 n hn, h2 n hn, ce]
  have hl' := hl
  rw [show ((0 : Nat) : Int) = 0 from rfl] at hl'
  simp only [hl', ends_rtN, ends_nxN, ends_excN, bind_okN, bind_excN, ret_someN, retB_someN, retL_someN, retE_someN, ev_var, ev_cst, ev_gint, ev_gstr, ev_gfn, ev_bin, ev_neg, ev_not, ev_bop, ev_cmp, ev_chain, ev_ite, ev_call, ev_isi, ev_blt, ev_mth, ev_sub, ev_slc, ev_tup, ev_lst, ev_lc, ev_live, ev_srt, ev_srk, evs_nil, evs_cons, evx_nil, evx_cons, evO_none, evO_some, evB_one, evB_and, evB_or, evT_nil, evT_one, exs_nil, exs_cons, nxt_nxN, nxt_rtN, nxt_excN, ex_asg, ex_own, ex_par, ex_app, ex_exn, ex_sti, ex_sto, ex_aug, ex_exp, ex_ret, ex_ifs, ex_fors, ex_whl, ex_rse, ex_tri, ex_frz, cstD, Tg.put, Tg.puts, startD, wipeD, kept_intN, kept_blN, kept_strN, kept_nonN, kept_tupN, kept_lstN, kept_extN, kept_refN, kept_fnN, kept_excN, cmp_eq_int, cmp_ne_int, cmp_lt_intN, cmp_le_intN, cmp_gt_intN, cmp_ge_intN, List.map_cons, List.map_nil, List.length_cons, List.length_nil, Nat.reduceAdd, Nat.reduceSub, Nat.reduceLeDiff, List.replicate, List.cons_append, List.nil_append, List.append_nil, List.getElem?_cons_zero, List.getElem?_cons_succ, List.getElem?_nil, List.set_cons_zero, List.set_cons_succ, List.all_cons, List.all_nil, nown, Bool.and_true, Bool.true_and, Bool.and_false, Bool.false_and, if_true, if_false, Bool.false_eq_true, Bool.not_true, Bool.not_false, reduceIte, len6, Int.cast_ofNat_Int, beq_self_eq_true, Int.reduceBEq, Int.reduceAdd, Int.reduceNeg, decide_true, decide_false, Int.reduceLT, Int.reduceLE, Int.reduceToNat]
  rfl
def AL (W : Nat → Rat) : List Rat := (List.range 12).map fun m => W (m + 1) - W m
theorem WL_zip (W : Nat → Rat) : zipD (rds (WL W)) ((rds (WL W)).drop 1) = (List.range 12).map fun m => .tup [rd (W m), rd (W (m + 1))] := rfl
theorem run_adds {f fa mi k : Nat} (h : Has T f 3 7 (L_adds fa mi)) {a b d : D} (na : nown a = true) (nb : nown b = true) (nd : nown d = true) (W : Nat → Rat) (hk : 3 ≤ k) (h2 : Cal T sub fuel k fa [a, b, d] (.lst (rds (WL W)))) (hmin : ∀ i j, i ≤ 12 → j ≤ 12 → Cal T sub fuel 3 mi [rd (W i), rd (W j)] (rd (W i - W j))) : Cal T sub fuel (k + 1) f [a, b, d] (.lst (rds (AL W))) := by
  refine cal_of (k := k) h rfl fun n hn M => ?_
  have lc : ∀ M, lcW ⟨callF T sub fuel n, sub, fuel⟩ [some a, some b, some d, some (.lst (rds (WL W))), none, none, none] M (.call mi x0 p0 [(.var 6 x0 p0), (.var 5 x0 p0)] p0) (.tp [(.nm 5 x0 p0), (.nm 6 x0 p0)] 0 p0) [] [4, 5, 6] ((List.range 12).map fun m => .tup [rd (W m), rd (W (m + 1))]) = .ok (rds (AL W)) M := fun M => by
    unfold rds AL
    rw [List.map_map]
    exact lcW_mapE (fun m : Nat => D.tup [rd (W m), rd (W (m + 1))]) (rd ∘ fun m => W (m + 1) - W m) (List.range 12) fun m hm => by
      have hm : m + 1 ≤ 12 := by have := List.mem_range.mp hm; omega
      refine ⟨_, rfl, by rw [evT_nil], ?_, rfl⟩
      simp only [ends_rtN, ends_nxN, ends_excN, bind_okN, bind_excN, ret_someN, retB_someN, retL_someN, retE_someN, ev_var, ev_cst, ev_gint, ev_gstr, ev_gfn, ev_bin, ev_neg, ev_not, ev_bop, ev_cmp, ev_chain, ev_ite, ev_call, ev_isi, ev_blt, ev_mth, ev_sub, ev_slc, ev_tup, ev_lst, ev_lc, ev_live, ev_srt, ev_srk, evs_nil, evs_cons, evx_nil, evx_cons, evO_none, evO_some, evB_one, evB_and, evB_or, evT_nil, evT_one, exs_nil, exs_cons, nxt_nxN, nxt_rtN, nxt_excN, ex_asg, ex_own, ex_par, ex_app, ex_exn, ex_sti, ex_sto, ex_aug, ex_exp, ex_ret, ex_ifs, ex_fors, ex_whl, ex_rse, ex_tri, ex_frz, cstD, Tg.put, Tg.puts, startD, wipeD, kept_intN, kept_blN, kept_strN, kept_nonN, kept_tupN, kept_lstN, kept_extN, kept_refN, kept_fnN, kept_excN, cmp_eq_int, cmp_ne_int, cmp_lt_intN, cmp_le_intN, cmp_gt_intN, cmp_ge_intN, List.map_cons, List.map_nil, List.length_cons, List.length_nil, Nat.reduceAdd, Nat.reduceSub, Nat.reduceLeDiff, List.replicate, List.cons_append, List.nil_append, List.append_nil, List.getElem?_cons_zero, List.getElem?_cons_succ, List.getElem?_nil, List.set_cons_zero, List.set_cons_succ, List.all_cons, List.all_nil, nown, Bool.and_true, Bool.true_and, Bool.and_false, Bool.false_and, if_true, if_false, Bool.false_eq_true, Bool.not_true, Bool.not_false, reduceIte, len6, Int.cast_ofNat_Int, beq_self_eq_true, Int.reduceBEq, Int.reduceAdd, Int.reduceNeg, decide_true, decide_false, Int.reduceLT, Int.reduceLE, Int.reduceToNat, kept_rd, hmin (m + 1) m hm (by omega) n (by omega)]
      rfl
  have b1 : (rds (AL W)).length ≤ sizeLine := big_le (by simp [rds, AL])
  have ce : ∀ px p, srcD (.zip px p) [.lst (rds (WL W)), .lst ((rds (WL W)).drop 1)] = some ((List.range 12).map fun m => .tup [rd (W m), rd (W (m + 1))]) := fun px p => by rw [← WL_zip]; rfl
  unfold L_adds
  simp only [ends_rtN, ends_nxN, ends_excN, bind_okN, bind_excN, ret_someN, retB_someN, retL_someN, retE_someN, ev_var, ev_cst, ev_gint, ev_gstr, ev_gfn, ev_bin, ev_neg, ev_not, ev_bop, ev_cmp, ev_chain, ev_ite, ev_call, ev_isi, ev_blt, ev_mth, ev_sub, ev_slc, ev_tup, ev_lst, ev_lc, ev_live, ev_srt, ev_srk, evs_nil, evs_cons, evx_nil, evx_cons, evO_none, evO_some, evB_one, evB_and, evB_or, evT_nil, evT_one, exs_nil, exs_cons, nxt_nxN, nxt_rtN, nxt_excN, ex_asg, ex_own, ex_par, ex_app, ex_exn, ex_sti, ex_sto, ex_aug, ex_exp, ex_ret, ex_ifs, ex_fors, ex_whl, ex_rse, ex_tri, ex_frz, cstD, Tg.put, Tg.puts, startD, wipeD, kept_intN, kept_blN, kept_strN, kept_nonN, kept_tupN, kept_lstN, kept_extN, kept_refN, kept_fnN, kept_excN, cmp_eq_int, cmp_ne_int, cmp_lt_intN, cmp_le_intN, cmp_gt_intN, cmp_ge_intN, List.map_cons, List.map_nil, List.length_cons, List.length_nil, Nat.reduceAdd, Nat.reduceSub, Nat.reduceLeDiff, List.replicate, List.cons_append, List.nil_append, List.append_nil, List.getElem?_cons_zero, List.getElem?_cons_succ, List.getElem?_nil, List.set_cons_zero, List.set_cons_succ, List.all_cons, List.all_nil, nown, Bool.and_true, Bool.true_and, Bool.and_false, Bool.false_and, if_true, if_false, Bool.false_eq_true, Bool.not_true, Bool.not_false, reduceIte, len6, Int.cast_ofNat_Int, beq_self_eq_true, Int.reduceBEq, Int.reduceAdd, Int.reduceNeg, decide_true, decide_false, Int.reduceLT, Int.reduceLE, Int.reduceToNat, kept_ok na, kept_ok nb, kept_ok nd, h2 n hn, slc_lst, cut1, ce, lc, b1]
def sgn (W : Nat → Rat) (m : Nat) : Bool := decide ((W (m + 1) - W m).num < 0)
def turnN (W : Nat → Rat) : Nat → Nat
  | 0 => 0
  | n + 1 => if sgn W n then turnN W n else n + 1
theorem turnN_le (W : Nat → Rat) : ∀ n, turnN W n ≤ n
  | 0 => Nat.le_refl _
  | n + 1 => by unfold turnN; split; · exact Nat.le_succ_of_le (turnN_le W n)
                · exact Nat.le_refl _
def turnD (W : Nat → Rat) : D := if turnN W 12 < 12 then .int (turnN W 12 : Nat) else .non
theorem turn_loop (C : Cfg) (W : Nat → Rat) (M : Mem) (a b d o5 o6 : Option D) : ∀ (k N : Nat), k < N → k ≤ 12 → ∀ M', whlW C [a, b, d, some (.lst ((List.range 12).map fun m => .bl (sgn W m))), some (.int (k : Nat)), o5, o6] M (.bop .And [(.cmp .Gt (.var 4 x0 p0) (.cst (.int 0) 0 p0) p0), (.sub (.var 3 x0 p0) (.bin .Sub (.var 4 x0 p0) (.cst (.int 1) 0 p0) p0) p0)] p0) [.aug 4 x0 p0 .Sub (.cst (.int 1) 0 p0) p0] N M' = .ok (.nx [a, b, d, some (.lst ((List.range 12).map fun m => .bl (sgn W m))), some (.int (turnN W k : Nat)), o5, o6]) M
  | 0, N + 1, _, _, M' => by
    rw [whlW_succ]
    simp only [ends_rtN, ends_nxN, ends_excN, bind_okN, bind_excN, ret_someN, retB_someN, retL_someN, retE_someN, ev_var, ev_cst, ev_gint, ev_gstr, ev_gfn, ev_bin, ev_neg, ev_not, ev_bop, ev_cmp, ev_chain, ev_ite, ev_call, ev_isi, ev_blt, ev_mth, ev_sub, ev_slc, ev_tup, ev_lst, ev_lc, ev_live, ev_srt, ev_srk, evs_nil, evs_cons, evx_nil, evx_cons, evO_none, evO_some, evB_one, evB_and, evB_or, evT_nil, evT_one, exs_nil, exs_cons, nxt_nxN, nxt_rtN, nxt_excN, ex_asg, ex_own, ex_par, ex_app, ex_exn, ex_sti, ex_sto, ex_aug, ex_exp, ex_ret, ex_ifs, ex_fors, ex_whl, ex_rse, ex_tri, ex_frz, cstD, Tg.put, Tg.puts, startD, wipeD, kept_intN, kept_blN, kept_strN, kept_nonN, kept_tupN, kept_lstN, kept_extN, kept_refN, kept_fnN, kept_excN, cmp_eq_int, cmp_ne_int, cmp_lt_intN, cmp_le_intN, cmp_gt_intN, cmp_ge_intN, List.map_cons, List.map_nil, List.length_cons, List.length_nil, Nat.reduceAdd, Nat.reduceSub, Nat.reduceLeDiff, List.replicate, List.cons_append, List.nil_append, List.append_nil, List.getElem?_cons_zero, List.getElem?_cons_succ, List.getElem?_nil, List.set_cons_zero, List.set_cons_succ, List.all_cons, List.all_nil, nown, Bool.and_true, Bool.true_and, Bool.and_false, Bool.false_and, if_true, if_false, Bool.false_eq_true, Bool.not_true, Bool.not_false, reduceIte, len6, Int.cast_ofNat_Int, beq_self_eq_true, Int.reduceBEq, Int.reduceAdd, Int.reduceNeg, decide_true, decide_false, Int.reduceLT, Int.reduceLE, Int.reduceToNat]
    rfl
  | k + 1, N + 1, h, hk, M' => by
    rw [whlW_succ]
    have ih := turn_loop C W M a b d o5 o6 k N (by omega) (by omega) M
    have e0 : decide ((0 : Int) < ((k + 1 : Nat) : Int)) = true := decide_eq_true (by omega)
    have e1 : ((k + 1 : Nat) : Int) - 1 = ((k : Nat) : Int) := by omega
    have e2 : subD M (.lst ((List.range 12).map fun m => .bl (sgn W m))) (.int (k : Nat)) = some (.bl (sgn W k)) := by
      rw [sub_lst, List.getElem?_map, List.getElem?_range (by omega)]; rfl
    cases hs : sgn W k with
    | true =>
      simp only [ends_rtN, ends_nxN, ends_excN, bind_okN, bind_excN, ret_someN, retB_someN, retL_someN, retE_someN, ev_var, ev_cst, ev_gint, ev_gstr, ev_gfn, ev_bin, ev_neg, ev_not, ev_bop, ev_cmp, ev_chain, ev_ite, ev_call, ev_isi, ev_blt, ev_mth, ev_sub, ev_slc, ev_tup, ev_lst, ev_lc, ev_live, ev_srt, ev_srk, evs_nil, evs_cons, evx_nil, evx_cons, evO_none, evO_some, evB_one, evB_and, evB_or, evT_nil, evT_one, exs_nil, exs_cons, nxt_nxN, nxt_rtN, nxt_excN, ex_asg, ex_own, ex_par, ex_app, ex_exn, ex_sti, ex_sto, ex_aug, ex_exp, ex_ret, ex_ifs, ex_fors, ex_whl, ex_rse, ex_tri, ex_frz, cstD, Tg.put, Tg.puts, startD, wipeD, kept_intN, kept_blN, kept_strN, kept_nonN, kept_tupN, kept_lstN, kept_extN, kept_refN, kept_fnN, kept_excN, cmp_eq_int, cmp_ne_int, cmp_lt_intN, cmp_le_intN, cmp_gt_intN, cmp_ge_intN, List.map_cons, List.map_nil, List.length_cons, List.length_nil, Nat.reduceAdd, Nat.reduceSub, Nat.reduceLeDiff, List.replicate, List.cons_append, List.nil_append, List.append_nil, List.getElem?_cons_zero, List.getElem?_cons_succ, List.getElem?_nil, List.set_cons_zero, List.set_cons_succ, List.all_cons, List.all_nil, nown, Bool.and_true, Bool.true_and, Bool.and_false, Bool.false_and, if_true, if_false, Bool.false_eq_true, Bool.not_true, Bool.not_false, reduceIte, len6, Int.cast_ofNat_Int, beq_self_eq_true, Int.reduceBEq, Int.reduceAdd, Int.reduceNeg, decide_true, decide_false, Int.reduceLT, Int.reduceLE, Int.reduceToNat, e0, sub_int, e1, e2, hs, augD, Option.map_some]
      rw [ih]
      simp only [turnN, hs, if_true]
    | false =>
      simp only [ends_rtN, ends_nxN, ends_excN, bind_okN, bind_excN, ret_someN, retB_someN, retL_someN, retE_someN, ev_var, ev_cst, ev_gint, ev_gstr, ev_gfn, ev_bin, ev_neg, ev_not, ev_bop, ev_cmp, ev_chain, ev_ite, ev_call, ev_isi, ev_blt, ev_mth, ev_sub, ev_slc, ev_tup, ev_lst, ev_lc, ev_live, ev_srt, ev_srk, evs_nil, evs_cons, evx_nil, evx_cons, evO_none, evO_some, evB_one, evB_and, evB_or, evT_nil, evT_one, exs_nil, exs_cons, nxt_nxN, nxt_rtN, nxt_excN, ex_asg, ex_own, ex_par, ex_app, ex_exn, ex_sti, ex_sto, ex_aug, ex_exp, ex_ret, ex_ifs, ex_fors, ex_whl, ex_rse, ex_tri, ex_frz, cstD, Tg.put, Tg.puts, startD, wipeD, kept_intN, kept_blN, kept_strN, kept_nonN, kept_tupN, kept_lstN, kept_extN, kept_refN, kept_fnN, kept_excN, cmp_eq_int, cmp_ne_int, cmp_lt_intN, cmp_le_intN, cmp_gt_intN, cmp_ge_intN, List.map_cons, List.map_nil, List.length_cons, List.length_nil, Nat.reduceAdd, Nat.reduceSub, Nat.reduceLeDiff, List.replicate, List.cons_append, List.nil_append, List.append_nil, List.getElem?_cons_zero, List.getElem?_cons_succ, List.getElem?_nil, List.set_cons_zero, List.set_cons_succ, List.all_cons, List.all_nil, nown, Bool.and_true, Bool.true_and, Bool.and_false, Bool.false_and, if_true, if_false, Bool.false_eq_true, Bool.not_true, Bool.not_false, reduceIte, len6, Int.cast_ofNat_Int, beq_self_eq_true, Int.reduceBEq, Int.reduceAdd, Int.reduceNeg, decide_true, decide_false, Int.reduceLT, Int.reduceLE, Int.reduceToNat, e0, sub_int, e1, e2, hs]
      simp only [turnN, hs, Bool.false_eq_true, if_false]
theorem run_turning {f fl fd k : Nat} (h : Has T f 3 7 (L_turning fl fd)) {a b d : D} (na : nown a = true) (nb : nown b = true) (nd : nown d = true) (W : Nat → Rat) (hf : 12 < fuel) (h1 : Cal T sub fuel k fl [a, b, d] .non) (h2 : Cal T sub fuel k fd [a, b, d] (.lst (rds (AL W)))) : Cal T sub fuel (k + 1) f [a, b, d] (turnD W) := by
  refine cal_of (k := k) h rfl fun n hn M => ?_
  have lc : ∀ M, lcW ⟨callF T sub fuel n, sub, fuel⟩ [some a, some b, some d, none, none, none, none] M (.cmp .Lt (.sub (.var 6 x0 p0) (.cst (.int 0) 0 p0) p0) (.cst (.int 0) 0 p0) p0) (.nm 6 x0 p0) [] [5, 6] (rds (AL W)) = .ok ((List.range 12).map fun m => .bl (sgn W m)) M := fun M => by
    unfold rds AL
    rw [List.map_map]
    exact lcW_mapE (rd ∘ fun m => W (m + 1) - W m) (fun m => .bl (sgn W m)) (List.range 12) fun m hm => by
      refine ⟨_, rfl, by rw [evT_nil], ?_, rfl⟩
      simp only [ends_rtN, ends_nxN, ends_excN, bind_okN, bind_excN, ret_someN, retB_someN, retL_someN, retE_someN, ev_var, ev_cst, ev_gint, ev_gstr, ev_gfn, ev_bin, ev_neg, ev_not, ev_bop, ev_cmp, ev_chain, ev_ite, ev_call, ev_isi, ev_blt, ev_mth, ev_sub, ev_slc, ev_tup, ev_lst, ev_lc, ev_live, ev_srt, ev_srk, evs_nil, evs_cons, evx_nil, evx_cons, evO_none, evO_some, evB_one, evB_and, evB_or, evT_nil, evT_one, exs_nil, exs_cons, nxt_nxN, nxt_rtN, nxt_excN, ex_asg, ex_own, ex_par, ex_app, ex_exn, ex_sti, ex_sto, ex_aug, ex_exp, ex_ret, ex_ifs, ex_fors, ex_whl, ex_rse, ex_tri, ex_frz, cstD, Tg.put, Tg.puts, startD, wipeD, kept_intN, kept_blN, kept_strN, kept_nonN, kept_tupN, kept_lstN, kept_extN, kept_refN, kept_fnN, kept_excN, cmp_eq_int, cmp_ne_int, cmp_lt_intN, cmp_le_intN, cmp_gt_intN, cmp_ge_intN, List.map_cons, List.map_nil, List.length_cons, List.length_nil, Nat.reduceAdd, Nat.reduceSub, Nat.reduceLeDiff, List.replicate, List.cons_append, List.nil_append, List.append_nil, List.getElem?_cons_zero, List.getElem?_cons_succ, List.getElem?_nil, List.set_cons_zero, List.set_cons_succ, List.all_cons, List.all_nil, nown, Bool.and_true, Bool.true_and, Bool.and_false, Bool.false_and, if_true, if_false, Bool.false_eq_true, Bool.not_true, Bool.not_false, reduceIte, len6, Int.cast_ofNat_Int, beq_self_eq_true, Int.reduceBEq, Int.reduceAdd, Int.reduceNeg, decide_true, decide_false, Int.reduceLT, Int.reduceLE, Int.reduceToNat, Function.comp, sub_rd0]
      rfl
  have b1 : ((List.range 12).map fun m => D.bl (sgn W m)).length ≤ sizeLine := big_le (by simp)
  have tl := turn_loop ⟨callF T sub fuel n, sub, fuel⟩ W M (some a) (some b) (some d) none none 12 fuel hf (by decide) M
  have l12 : bltD .len M [.lst ((List.range 12).map fun m => D.bl (sgn W m))] = some (.int 12) := by rw [len_lst]; simp
  unfold L_turning
  simp only [ends_rtN, ends_nxN, ends_excN, bind_okN, bind_excN, ret_someN, retB_someN, retL_someN, retE_someN, ev_var, ev_cst, ev_gint, ev_gstr, ev_gfn, ev_bin, ev_neg, ev_not, ev_bop, ev_cmp, ev_chain, ev_ite, ev_call, ev_isi, ev_blt, ev_mth, ev_sub, ev_slc, ev_tup, ev_lst, ev_lc, ev_live, ev_srt, ev_srk, evs_nil, evs_cons, evx_nil, evx_cons, evO_none, evO_some, evB_one, evB_and, evB_or, evT_nil, evT_one, exs_nil, exs_cons, nxt_nxN, nxt_rtN, nxt_excN, ex_asg, ex_own, ex_par, ex_app, ex_exn, ex_sti, ex_sto, ex_aug, ex_exp, ex_ret, ex_ifs, ex_fors, ex_whl, ex_rse, ex_tri, ex_frz, cstD, Tg.put, Tg.puts, startD, wipeD, kept_intN, kept_blN, kept_strN, kept_nonN, kept_tupN, kept_lstN, kept_extN, kept_refN, kept_fnN, kept_excN, cmp_eq_int, cmp_ne_int, cmp_lt_intN, cmp_le_intN, cmp_gt_intN, cmp_ge_intN, List.map_cons, List.map_nil, List.length_cons, List.length_nil, Nat.reduceAdd, Nat.reduceSub, Nat.reduceLeDiff, List.replicate, List.cons_append, List.nil_append, List.append_nil, List.getElem?_cons_zero, List.getElem?_cons_succ, List.getElem?_nil, List.set_cons_zero, List.set_cons_succ, List.all_cons, List.all_nil, nown, Bool.and_true, Bool.true_and, Bool.and_false, Bool.false_and, if_true, if_false, Bool.false_eq_true, Bool.not_true, Bool.not_false, reduceIte, len6, Int.cast_ofNat_Int, beq_self_eq_true, Int.reduceBEq, Int.reduceAdd, Int.reduceNeg, decide_true, decide_false, Int.reduceLT, Int.reduceLE, Int.reduceToNat, kept_ok na, kept_ok nb, kept_ok nd, h1 n hn, h2 n hn, src_one_lst, lc, b1, l12]
  rw [show ((12 : Nat) : Int) = 12 from rfl] at tl
  simp only [tl, ends_rtN, ends_nxN, ends_excN, bind_okN, bind_excN, ret_someN, retB_someN, retL_someN, retE_someN, ev_var, ev_cst, ev_gint, ev_gstr, ev_gfn, ev_bin, ev_neg, ev_not, ev_bop, ev_cmp, ev_chain, ev_ite, ev_call, ev_isi, ev_blt, ev_mth, ev_sub, ev_slc, ev_tup, ev_lst, ev_lc, ev_live, ev_srt, ev_srk, evs_nil, evs_cons, evx_nil, evx_cons, evO_none, evO_some, evB_one, evB_and, evB_or, evT_nil, evT_one, exs_nil, exs_cons, nxt_nxN, nxt_rtN, nxt_excN, ex_asg, ex_own, ex_par, ex_app, ex_exn, ex_sti, ex_sto, ex_aug, ex_exp, ex_ret, ex_ifs, ex_fors, ex_whl, ex_rse, ex_tri, ex_frz, cstD, Tg.put, Tg.puts, startD, wipeD, kept_intN, kept_blN, kept_strN, kept_nonN, kept_tupN, kept_lstN, kept_extN, kept_refN, kept_fnN, kept_excN, cmp_eq_int, cmp_ne_int, cmp_lt_intN, cmp_le_intN, cmp_gt_intN, cmp_ge_intN, List.map_cons, List.map_nil, List.length_cons, List.length_nil, Nat.reduceAdd, Nat.reduceSub, Nat.reduceLeDiff, List.replicate, List.cons_append, List.nil_append, List.append_nil, List.getElem?_cons_zero, List.getElem?_cons_succ, List.getElem?_nil, List.set_cons_zero, List.set_cons_succ, List.all_cons, List.all_nil, nown, Bool.and_true, Bool.true_and, Bool.and_false, Bool.false_and, if_true, if_false, Bool.false_eq_true, Bool.not_true, Bool.not_false, reduceIte, len6, Int.cast_ofNat_Int, beq_self_eq_true, Int.reduceBEq, Int.reduceAdd, Int.reduceNeg, decide_true, decide_false, Int.reduceLT, Int.reduceLE, Int.reduceToNat, l12]
  unfold turnD
  by_cases ht : turnN W 12 < 12
  · rw [if_pos ht, decide_eq_true (show ((turnN W 12 : Nat) : Int) < 12 by omega)]
    rfl
  · rw [if_neg ht, decide_eq_false (show ¬ ((turnN W 12 : Nat) : Int) < 12 by omega)]
    rfl
end
end L2.Z
set_option Elab.async false
set_option linter.all false
set_option maxRecDepth 100000
set_option maxHeartbeats 2000000
/-! ### the plain law: means, booking by booking -/
namespace L2.Z
open PySem
theorem signed_from (s : Rat) (l : List (Int × Rat)) : l.foldl (fun s p => s + (p.1 : Rat) * p.2) s = s + signedQ l := by
  unfold signedQ
  induction l generalizing s with
  | nil => simp only [List.foldl_nil]; grind
  | cons p l ih => rw [List.foldl_cons, List.foldl_cons, ih, ih (0 + (p.1 : Rat) * p.2)]; grind
theorem signedQ_nil : signedQ [] = 0 := rfl
theorem signedQ_cons (p : Int × Rat) (l : List (Int × Rat)) : signedQ (p :: l) = (p.1 : Rat) * p.2 + signedQ l := by
  show l.foldl (fun s p => s + (p.1 : Rat) * p.2) (0 + (p.1 : Rat) * p.2) = _
  rw [signed_from]; grind
/-- the share that one stays, those behind it coming as they do -/
def tailQ (seats : Nat) (r : List Bk) : Rat := sumQ ((cntQ (chsQ r)).drop seats)
theorem staysQ_cons (seats : Nat) (b : Bk) (r : List Bk) : staysQ seats (b :: r) = (b, b.ch * tailQ seats r) :: staysQ seats r := rfl
theorem fares_nil : faresQ [] = 0 := rfl
theorem fares_cons (b : Bk) (r : List Bk) : faresQ (b :: r) = (b.fare : Rat) * b.ch + faresQ r := signedQ_cons _ _
theorem own_nil (seats : Nat) : meanOwnQ seats [] = 0 := rfl
theorem own_cons (seats : Nat) (b : Bk) (r : List Bk) : meanOwnQ seats (b :: r) = (if b.ask.isSome then b.ch * tailQ seats r * askQ b else 0) + meanOwnQ seats r := by
  unfold meanOwnQ
  rw [staysQ_cons, List.filter_cons]
  split
  · rename_i h
    rw [List.map_cons, sumQ_cons]
  · rename_i h
    grind
theorem others_nil (seats : Nat) (first : Int) : othersQ seats first [] = 0 := rfl
theorem others_cons (seats : Nat) (first : Int) (b : Bk) (r : List Bk) : othersQ seats first (b :: r) = (if b.ask.isSome then 0 else (first : Rat) * (b.ch * tailQ seats r)) + othersQ seats first r := by
  unfold othersQ
  rw [staysQ_cons, List.filter_cons]
  cases h : b.ask.isSome with
  | true => simp only [Bool.not_true, Bool.false_eq_true, if_false, if_true]; grind
  | false =>
    simp only [Bool.not_false, if_true, Bool.false_eq_true, if_false]
    rw [List.map_cons, signedQ_cons]
/-- what one who stays is paid -/
def payQ (first : Int) (b : Bk) : Rat := match b.ask with
  | some a => (a : Rat)
  | none => (first : Rat)
/-- own asks: booking by booking -/
def bothQ (seats : Nat) (first : Int) : List Bk → Rat
  | [] => 0
  | b :: r => payQ first b * (b.ch * tailQ seats r) + bothQ seats first r
theorem both_eq (seats : Nat) (first : Int) : ∀ l : List Bk, meanOwnQ seats l + othersQ seats first l = bothQ seats first l
  | [] => by rw [own_nil, others_nil, bothQ]; grind
  | b :: r => by
    rw [own_cons, others_cons, bothQ, ← both_eq seats first r]
    unfold payQ askQ
    cases b.ask with
    | some a => simp only [Option.isSome_some, if_true]; grind
    | none => simp only [Option.isSome_none, Bool.false_eq_true, if_false]; grind
theorem worth_own (seats : Nat) (first : Int) (l : List Bk) : worthQ "own" seats first l = faresQ l - bothQ seats first l := by
  rw [← both_eq]
  unfold worthQ willQ
  rw [if_pos (by decide)]
  grind
/-! alike ones -/
theorem zipW_same : ∀ (xs ys : List Rat), xs.length = ys.length → List.zipWith (fun a b => a * (1 - 1) + b * 1) xs ys = ys
  | [], [], _ => rfl
  | x :: xs, y :: ys, h => by
    rw [List.zipWith_cons_cons, zipW_same xs ys (by simpa using h)]
    congr 1
    grind
theorem step1 (f : List Rat) : stepQ f 1 = 0 :: f := by
  rw [stepQ_eq, zipW_same _ _ (by simp)]
theorem cnt1 : ∀ k : Nat, cntQ (List.replicate k 1) = List.replicate k 0 ++ [1]
  | 0 => rfl
  | k + 1 => by
    have h := cnt1 k
    rw [List.replicate_succ', cntQ, List.foldl_append]
    rw [cntQ] at h
    rw [h, List.foldl_cons, List.foldl_nil, step1]
    rw [List.replicate_succ, List.cons_append]
theorem sum_zeros : ∀ k : Nat, sumQ (List.replicate k 0) = 0
  | 0 => rfl
  | k + 1 => by rw [List.replicate_succ, sumQ_cons, sum_zeros k]; grind
theorem sumQ_append (xs ys : List Rat) : sumQ (xs ++ ys) = sumQ xs + sumQ ys := by
  induction xs with
  | nil => simp only [List.nil_append, sumQ_nil]; grind
  | cons x xs ih => rw [List.cons_append, sumQ_cons, sumQ_cons, ih]; grind
theorem tail1 (seats k : Nat) : sumQ ((cntQ (List.replicate k 1)).drop seats) = if seats ≤ k then 1 else 0 := by
  rw [cnt1, List.drop_append, List.length_replicate, List.drop_replicate, sumQ_append, sum_zeros]
  split
  · rw [show seats - k = 0 by omega, List.drop_zero, sumQ_cons, sumQ_nil]; grind
  · rw [List.drop_eq_nil_of_le (by simp; omega), sumQ_nil]; grind
theorem chsQ_all (c : Rat) : ∀ (l : List Bk), (∀ b ∈ l, b.ch = c) → chsQ l = List.replicate l.length c
  | [], _ => rfl
  | b :: l, h => by
    have e : chsQ (b :: l) = b.ch :: chsQ l := rfl
    rw [e, chsQ_all c l fun x hx => h x (List.mem_cons_of_mem _ hx), h b List.mem_cons_self]
    rfl
theorem fares_all (fare : Int) (c : Rat) : ∀ (l : List Bk), (∀ b ∈ l, b.ch = c ∧ b.fare = fare) → faresQ l = (l.length : Nat) * ((fare : Rat) * c)
  | [], _ => by rw [fares_nil]; simp
  | b :: l, h => by
    rw [fares_cons, fares_all fare c l fun x hx => h x (List.mem_cons_of_mem _ hx), (h b List.mem_cons_self).1, (h b List.mem_cons_self).2]
    rw [List.length_cons]
    have : ((l.length + 1 : Nat) : Rat) = (l.length : Rat) + 1 := by simp
    rw [this]; grind
/-- sure ones: as many stay as come beyond the seats -/
theorem both_sure (seats : Nat) (first : Int) (pay : Rat) : ∀ (l : List Bk), (∀ b ∈ l, b.ch = 1 ∧ payQ first b = pay) → bothQ seats first l = ((l.length - seats : Nat) : Rat) * pay
  | [], _ => by unfold bothQ; simp
  | b :: l, h => by
    rw [bothQ, both_sure seats first pay l fun x hx => h x (List.mem_cons_of_mem _ hx), (h b List.mem_cons_self).1, (h b List.mem_cons_self).2]
    unfold tailQ
    rw [chsQ_all 1 l fun x hx => (h x (List.mem_cons_of_mem _ hx)).1, tail1, List.length_cons]
    split
    · rw [show l.length + 1 - seats = (l.length - seats) + 1 by omega]
      have : ((l.length - seats + 1 : Nat) : Rat) = ((l.length - seats : Nat) : Rat) + 1 := by simp
      rw [this]; grind
    · rw [show l.length + 1 - seats = 0 by omega, show l.length - seats = 0 by omega]; grind
/-! sorting what is in order -/
theorem inOrder_id {l : List Bk} (h : l.Pairwise fun a b => leB a b = true) : inOrder l = l := List.mergeSort_of_pairwise h
end L2.Z
set_option Elab.async false
set_option linter.all false
set_option maxRecDepth 100000
set_option maxHeartbeats 2000000
set_option exponentiation.threshold 9000
/-! ### the law's lowest terms; equality; walks that only look; selling, all together -/
namespace L2.Z
open PySem
def L_lowest : List S := [
  .par 2 3 x0 x0 p0 p0 p0 (.blt .abs p0 [(.var 0 x0 p0)] p0) (.var 1 x0 p0) p0 p0 0 0,
  .whl (.cmp .NotEq (.var 3 x0 p0) (.cst (.int 0) 0 p0) p0) [.par 2 3 x0 x0 p0 p0 p0 (.var 3 x0 p0) (.bin .Mod (.var 2 x0 p0) (.var 3 x0 p0) p0) p0 p0 0 0] p0,
  .ret (.tup [(.bin .FloorDiv (.var 0 x0 p0) (.var 2 x0 p0) p0), (.bin .FloorDiv (.var 1 x0 p0) (.var 2 x0 p0) p0)] 0 p0) p0]
section
variable {T : Nat → Option Fn} {sub : Nat → Nat → Bool} {fuel : Nat}
theorem low_loop (C : Cfg) (o0 o1 : Option D) : ∀ (b : Nat) (a : Nat) (n : Nat) (M M' : Mem), b < n → whlW C [o0, o1, some (.int a), some (.int b)] M (.cmp .NotEq (.var 3 x0 p0) (.cst (.int 0) 0 p0) p0) [.par 2 3 x0 x0 p0 p0 p0 (.var 3 x0 p0) (.bin .Mod (.var 2 x0 p0) (.var 3 x0 p0) p0) p0 p0 0 0] n M' = .ok (.nx [o0, o1, some (.int (Nat.gcd a b)), some (.int 0)]) M
  | b, a, 0, M, _, h => by omega
  | 0, a, n + 1, M, _, h => by
    rw [whlW_succ]
    simp only [ends_rtN, ends_nxN, ends_excN, bind_okN, bind_excN, ret_someN, retB_someN, retL_someN, retE_someN, ev_var, ev_cst, ev_gint, ev_gstr, ev_gfn, ev_bin, ev_neg, ev_not, ev_bop, ev_cmp, ev_chain, ev_ite, ev_call, ev_isi, ev_blt, ev_mth, ev_sub, ev_slc, ev_tup, ev_lst, ev_lc, ev_live, ev_srt, ev_srk, evs_nil, evs_cons, evx_nil, evx_cons, evO_none, evO_some, evB_one, evB_and, evB_or, evT_nil, evT_one, exs_nil, exs_cons, nxt_nxN, nxt_rtN, nxt_excN, ex_asg, ex_own, ex_par, ex_app, ex_exn, ex_sti, ex_sto, ex_aug, ex_exp, ex_ret, ex_ifs, ex_fors, ex_whl, ex_rse, ex_tri, ex_frz, cstD, Tg.put, Tg.puts, startD, wipeD, kept_intN, kept_blN, kept_strN, kept_nonN, kept_tupN, kept_lstN, kept_extN, kept_refN, kept_fnN, kept_excN, cmp_eq_int, cmp_ne_int, cmp_lt_intN, cmp_le_intN, cmp_gt_intN, cmp_ge_intN, List.map_cons, List.map_nil, List.length_cons, List.length_nil, Nat.reduceAdd, Nat.reduceSub, Nat.reduceLeDiff, List.replicate, List.cons_append, List.nil_append, List.append_nil, List.getElem?_cons_zero, List.getElem?_cons_succ, List.getElem?_nil, List.set_cons_zero, List.set_cons_succ, List.all_cons, List.all_nil, nown, Bool.and_true, Bool.true_and, Bool.and_false, Bool.false_and, if_true, if_false, Bool.false_eq_true, Bool.not_true, Bool.not_false, reduceIte, len6, Int.cast_ofNat_Int, beq_self_eq_true, Int.reduceBEq, Int.reduceAdd, Int.reduceNeg, decide_true, decide_false, Int.reduceLT, Int.reduceLE, Int.reduceToNat]
    simp
  | b + 1, a, n + 1, M, _, h => by
    have h2 : (0 : Int) < ((b + 1 : Nat) : Int) := by omega
    have h1 : (((b + 1 : Nat) : Int) == 0) = false := by simp; omega
    have e : ((a : Int) % ((b + 1 : Nat) : Int)) = ((a % (b + 1) : Nat) : Int) := by simp
    have ih := low_loop C o0 o1 (a % (b + 1)) (b + 1) n M M (by have : a % (b + 1) < b + 1 := Nat.mod_lt a (Nat.succ_pos b); omega)
    rw [whlW_succ]
    simp only [ends_rtN, ends_nxN, ends_excN, bind_okN, bind_excN, ret_someN, retB_someN, retL_someN, retE_someN, ev_var, ev_cst, ev_gint, ev_gstr, ev_gfn, ev_bin, ev_neg, ev_not, ev_bop, ev_cmp, ev_chain, ev_ite, ev_call, ev_isi, ev_blt, ev_mth, ev_sub, ev_slc, ev_tup, ev_lst, ev_lc, ev_live, ev_srt, ev_srk, evs_nil, evs_cons, evx_nil, evx_cons, evO_none, evO_some, evB_one, evB_and, evB_or, evT_nil, evT_one, exs_nil, exs_cons, nxt_nxN, nxt_rtN, nxt_excN, ex_asg, ex_own, ex_par, ex_app, ex_exn, ex_sti, ex_sto, ex_aug, ex_exp, ex_ret, ex_ifs, ex_fors, ex_whl, ex_rse, ex_tri, ex_frz, cstD, Tg.put, Tg.puts, startD, wipeD, kept_intN, kept_blN, kept_strN, kept_nonN, kept_tupN, kept_lstN, kept_extN, kept_refN, kept_fnN, kept_excN, cmp_eq_int, cmp_ne_int, cmp_lt_intN, cmp_le_intN, cmp_gt_intN, cmp_ge_intN, List.map_cons, List.map_nil, List.length_cons, List.length_nil, Nat.reduceAdd, Nat.reduceSub, Nat.reduceLeDiff, List.replicate, List.cons_append, List.nil_append, List.append_nil, List.getElem?_cons_zero, List.getElem?_cons_succ, List.getElem?_nil, List.set_cons_zero, List.set_cons_succ, List.all_cons, List.all_nil, nown, Bool.and_true, Bool.true_and, Bool.and_false, Bool.false_and, if_true, if_false, Bool.false_eq_true, Bool.not_true, Bool.not_false, reduceIte, len6, Int.cast_ofNat_Int, beq_self_eq_true, Int.reduceBEq, Int.reduceAdd, Int.reduceNeg, decide_true, decide_false, Int.reduceLT, Int.reduceLE, Int.reduceToNat, h1, mod_int _ _ _ h2, e, ih]
    rw [Nat.gcd_comm a (b + 1), Nat.gcd_rec (b + 1) a, Nat.gcd_comm]
theorem run_lowest {f : Nat} (h : Has T f 2 4 L_lowest) (t : Int) (b : Nat) (hb : 0 < b) (hz : b < 2 ^ 4500) : Cal T sub FUEL 1 f [.int t, .int b] (rd (mkRat t b)) := by
  refine cal_of (k := 0) h rfl fun n hn M => ?_
  have hfu : b < FUEL := Nat.lt_trans hz (Nat.pow_lt_pow_right (by decide) (by decide))
  have hg : 0 < Nat.gcd t.natAbs b := Nat.gcd_pos_of_pos_right _ hb
  have hg2 : ((Nat.gcd t.natAbs b : Nat) : Int).natAbs < 2 ^ 8000 := by
    have h1 : Nat.gcd t.natAbs b ≤ b := Nat.gcd_le_right _ hb
    have h2 : (2 : Nat) ^ 4500 ≤ 2 ^ 8000 := Nat.pow_le_pow_right (by decide) (by decide)
    simp only [Int.natAbs_natCast]
    omega
  unfold L_lowest
  simp only [ends_rtN, ends_nxN, ends_excN, bind_okN, bind_excN, ret_someN, retB_someN, retL_someN, retE_someN, ev_var, ev_cst, ev_gint, ev_gstr, ev_gfn, ev_bin, ev_neg, ev_not, ev_bop, ev_cmp, ev_chain, ev_ite, ev_call, ev_isi, ev_blt, ev_mth, ev_sub, ev_slc, ev_tup, ev_lst, ev_lc, ev_live, ev_srt, ev_srk, evs_nil, evs_cons, evx_nil, evx_cons, evO_none, evO_some, evB_one, evB_and, evB_or, evT_nil, evT_one, exs_nil, exs_cons, nxt_nxN, nxt_rtN, nxt_excN, ex_asg, ex_own, ex_par, ex_app, ex_exn, ex_sti, ex_sto, ex_aug, ex_exp, ex_ret, ex_ifs, ex_fors, ex_whl, ex_rse, ex_tri, ex_frz, cstD, Tg.put, Tg.puts, startD, wipeD, kept_intN, kept_blN, kept_strN, kept_nonN, kept_tupN, kept_lstN, kept_extN, kept_refN, kept_fnN, kept_excN, cmp_eq_int, cmp_ne_int, cmp_lt_intN, cmp_le_intN, cmp_gt_intN, cmp_ge_intN, List.map_cons, List.map_nil, List.length_cons, List.length_nil, Nat.reduceAdd, Nat.reduceSub, Nat.reduceLeDiff, List.replicate, List.cons_append, List.nil_append, List.append_nil, List.getElem?_cons_zero, List.getElem?_cons_succ, List.getElem?_nil, List.set_cons_zero, List.set_cons_succ, List.all_cons, List.all_nil, nown, Bool.and_true, Bool.true_and, Bool.and_false, Bool.false_and, if_true, if_false, Bool.false_eq_true, Bool.not_true, Bool.not_false, reduceIte, len6, Int.cast_ofNat_Int, beq_self_eq_true, Int.reduceBEq, Int.reduceAdd, Int.reduceNeg, decide_true, decide_false, Int.reduceLT, Int.reduceLE, Int.reduceToNat, abs_int, low_loop _ _ _ _ _ _ _ _ hfu, div_int _ _ _ (show (0 : Int) < (Nat.gcd t.natAbs b : Nat) by omega) hg2]
  rw [rd, ← Rat.normalize_eq_mkRat (show b ≠ 0 by omega), Rat.normalize_eq]
  simp
end
/-! equality -/
def flatM : D → Bool
  | .ref _ => false
  | .ext _ => false
  | .own _ => false
  | _ => true
theorem nrm_flat {M : Mem} {d : D} (h : flatM d = true) : nrm M d = d := by
  cases d <;> first | rfl | (cases h; done)
theorem cmp_eqD (M : Mem) {x y : D} (hx : shD x = true) (hy : shD y = true) : cmpD .Eq M x y = some (eqD x y) := by
  have fx : nrm M x = x := nrm_flat (by unfold shD at hx; cases x <;> first | rfl | (simp [pyOk] at hx; done))
  have fy : nrm M y = y := nrm_flat (by unfold shD at hy; cases y <;> first | rfl | (simp [pyOk] at hy; done))
  simp only [cmpD, fx, fy, hx, hy, Bool.and_true, if_true]
theorem cmp_neD (M : Mem) {x y : D} (hx : shD x = true) (hy : shD y = true) : cmpD .NotEq M x y = some (!eqD x y) := by
  have fx : nrm M x = x := nrm_flat (by unfold shD at hx; cases x <;> first | rfl | (simp [pyOk] at hx; done))
  have fy : nrm M y = y := nrm_flat (by unfold shD at hy; cases y <;> first | rfl | (simp [pyOk] at hy; done))
  simp only [cmpD, fx, fy, hx, hy, Bool.and_true, if_true]
theorem eq_rd (a b : Rat) : eqD (rd a) (rd b) = decide (a = b) := by
  have e : eqD (rd a) (rd b) = (a.num == b.num && (((a.den : Nat) : Int) == ((b.den : Nat) : Int) && true)) := rfl
  rw [e, Bool.and_true, Bool.eq_iff_iff, Bool.and_eq_true, beq_iff_eq, beq_iff_eq, decide_eq_true_eq]
  constructor
  · intro ⟨h1, h2⟩
    exact Rat.ext h1 (by omega)
  · intro h; subst h; exact ⟨rfl, rfl⟩
theorem eq_rds : ∀ (xs ys : List Rat), eqDs (rds xs) (rds ys) = decide (xs = ys)
  | [], [] => rfl
  | [], y :: ys => rfl
  | x :: xs, [] => rfl
  | x :: xs, y :: ys => by
    have e : eqDs (rds (x :: xs)) (rds (y :: ys)) = (eqD (rd x) (rd y) && eqDs (rds xs) (rds ys)) := rfl
    rw [e, eq_rd, eq_rds xs ys]
    simp
theorem py_rds : ∀ xs : List Rat, pyOks (rds xs) = true
  | [] => rfl
  | x :: xs => by
    have e : pyOks (rds (x :: xs)) = (pyOk (rd x) && pyOks (rds xs)) := rfl
    rw [e, py_rds xs]; rfl
theorem dep_rds : ∀ xs : List Rat, deps (rds xs) ≤ 1
  | [] => by decide
  | x :: xs => by
    have e : deps (rds (x :: xs)) = max (dep (rd x)) (deps (rds xs)) := rfl
    have e2 : dep (rd x) = 1 := rfl
    have := dep_rds xs
    rw [e, e2]; omega
theorem sh_rds (xs : List Rat) : shD (.lst (rds xs)) = true := by
  unfold shD
  rw [pyOk, py_rds, dep, Bool.true_and, decide_eq_true_eq]
  have := dep_rds xs
  omega
theorem sh_trds (xs : List Rat) : shD (.tup (rds xs)) = true := by
  unfold shD
  rw [pyOk, py_rds, dep, Bool.true_and, decide_eq_true_eq]
  have := dep_rds xs
  omega
theorem sh_rd (x : Rat) : shD (rd x) = true := rfl
theorem ne_rds (M : Mem) (xs ys : List Rat) : cmpD .NotEq M (.lst (rds xs)) (.lst (rds ys)) = some (!decide (xs = ys)) := by
  rw [cmp_neD M (sh_rds xs) (sh_rds ys)]
  show some (!eqDs (rds xs) (rds ys)) = _
  rw [eq_rds]
theorem eqq_rds (M : Mem) (xs ys : List Rat) : cmpD .Eq M (.lst (rds xs)) (.lst (rds ys)) = some (decide (xs = ys)) := by
  rw [cmp_eqD M (sh_rds xs) (sh_rds ys)]
  show some (eqDs (rds xs) (rds ys)) = _
  rw [eq_rds]
theorem ne_rd (M : Mem) (x y : Rat) : cmpD .NotEq M (rd x) (rd y) = some (!decide (x = y)) := by
  rw [cmp_neD M (sh_rd x) (sh_rd y), eq_rd]
theorem eqq_rd (M : Mem) (x y : Rat) : cmpD .Eq M (rd x) (rd y) = some (decide (x = y)) := by
  rw [cmp_eqD M (sh_rd x) (sh_rd y), eq_rd]
/-! walks -/
theorem forW_inv {C : Cfg} {M : Mem} {tg : Tg} {b : List S} (I : Env → Prop) : ∀ (ds : List D) (r : Env), I r → (∀ r, I r → ∀ d ∈ ds, ∃ r1 r2, tg.put d r = some r1 ∧ exs C b r1 M = .ok (.nx r2) M ∧ I r2) → ∃ r', forW C r M tg b ds = .ok (.nx r') M ∧ I r'
  | [], r, hr, _ => ⟨r, rfl, hr⟩
  | d :: ds, r, hr, h => by
    obtain ⟨r1, r2, h1, h2, h3⟩ := h r hr d List.mem_cons_self
    obtain ⟨r', h4, h5⟩ := forW_inv I ds r2 h3 fun r hr d hd => h r hr d (List.mem_cons_of_mem _ hd)
    refine ⟨r', ?_, h5⟩
    rw [forW_cons, h1]
    show (exs C b r1 M).bind _ = _
    rw [h2]
    exact h4
/-! the best number, the turning -/
theorem num_neg (q : Rat) : q.num < 0 ↔ q < 0 := by
  have h := Rat.num_nonneg (q := q)
  have e : (q < 0) ↔ ¬ (0 ≤ q) := by grind
  rw [e, ← h]; omega
theorem num_pos (q : Rat) : 0 < q.num ↔ 0 < q := by
  have h := num_neg (-q)
  rw [show (-q).num = -q.num from rfl] at h
  have e : (0 < q) ↔ (-q < 0) := by grind
  rw [e, ← h]; omega
theorem best_fold (W : Nat → Rat) : ∀ n, 0 < n → let k := (List.range n).foldl (bestF W) 0; k < n ∧ (∀ j, j < k → W j < W k) ∧ (∀ j, j < n → W j ≤ W k)
  | 0, h => by omega
  | 1, _ => by
    have e : (List.range 1).foldl (bestF W) 0 = 0 := by
      show bestF W 0 0 = 0
      unfold bestF
      split <;> rfl
    dsimp only
    rw [e]
    refine ⟨by omega, fun j h => by omega, fun j h => ?_⟩
    rw [show j = 0 by omega]; exact Rat.le_refl
  | n + 2, _ => by
    obtain ⟨h1, h2, h3⟩ := best_fold W (n + 1) (by omega)
    rw [List.range_succ, List.foldl_append, List.foldl_cons, List.foldl_nil]
    generalize (List.range (n + 1)).foldl (bestF W) 0 = k at *
    unfold bestF
    have hs := num_pos (W (n + 1) - W k)
    split
    · rename_i h
      have h' := hs.mp h
      refine ⟨by omega, fun j hj => ?_, fun j hj => ?_⟩
      · have := h3 j (by omega); grind
      · by_cases e : j = n + 1
        · rw [e]; exact Rat.le_refl
        · have := h3 j (by omega); grind
    · rename_i h
      have h' : ¬ 0 < W (n + 1) - W k := fun z => h (hs.mpr z)
      refine ⟨by omega, h2, fun j hj => ?_⟩
      by_cases e : j = n + 1
      · rw [e]; grind
      · exact h3 j (by omega)
theorem best_is (W : Nat → Rat) {k : Nat} (hk : k ≤ 12) (h1 : ∀ j, j < k → W j < W k) (h2 : ∀ j, j ≤ 12 → W j ≤ W k) : bestN W = k := by
  obtain ⟨a, b, c⟩ := best_fold W 13 (by decide)
  show (List.range 13).foldl (bestF W) 0 = k
  generalize (List.range 13).foldl (bestF W) 0 = l at *
  rcases Nat.lt_trichotomy l k with z | z | z
  · have := h1 l z
    have := c k (by omega)
    grind
  · exact z
  · have := b k z
    have := h2 l (by omega)
    grind
theorem turn_is (W : Nat → Rat) {s : Nat} (h1 : ∀ m, m < s → sgn W m = false) : ∀ n, s ≤ n → (∀ m, s ≤ m → m < n → sgn W m = true) → turnN W n = s
  | 0, hs, _ => by
    rw [show s = 0 by omega]; rfl
  | n + 1, hs, h => by
    unfold turnN
    by_cases e : s = n + 1
    · rw [h1 n (by omega), if_neg (by decide)]; exact e.symm
    · rw [h n (by omega) (by omega), if_pos rfl]
      exact turn_is W h1 n (by omega) fun m h2 h3 => h m h2 (by omega)
end L2.Z
set_option Elab.async false
set_option linter.all false
set_option maxRecDepth 100000
set_option maxHeartbeats 2000000
set_option exponentiation.threshold 9000
/-! ### houses and selling: all defs together -/
namespace L2.Z
open PySem
structure HIx where
  whole : Nat
  word : Nat
  rise : Nat
  going : Nat
  chance : Nat
  kind : Nat
  booking : Nat
  rule : Nat
  house : Nat
  lookH : Nat
  lookG : Nat
  cH : Nat
  cN : Nat
structure Hous (T : Nat → Option Fn) (common : Nat) (h : HIx) : Prop where
  parts : Parts T common h.whole h.word h.chance h.kind
  rise : Has T h.rise 1 4 L_do_rise
  going : Has T h.going 1 3 (L_is_going h.word h.whole)
  booking : Has T h.booking 2 2 (L_is_booking h.word h.kind)
  rule : Has T h.rule 1 5 (L_is_rule h.whole h.rise)
  house : Has T h.house 1 7 (L_is_house h.going h.rise h.booking h.rule)
  lookH : Has T h.lookH 1 1 (L_look_house h.house h.cH)
  lookG : Has T h.lookG 2 4 (L_look_going h.cN)
structure SIx where
  lookK : Nat
  cK : Nat
  allW : Nat
section
variable {T : Nat → Option Fn} {sub : Nat → Nat → Bool} {common : Nat} {h : HIx}
theorem run_house (H : Hous T common h) (d : D) (hd : plB d = true) (hdep : dep d ≤ 60) : Cal T sub FUEL 5 h.house [d] (.bl (isHouseD d)) :=
  run_is_house H.parts H.going H.rise H.booking H.rule H.house d hd hdep
theorem run_lookH (H : Hous T common h) {d : D} (hd : plB d = true) (hdep : dep d ≤ 60) (hh : isHouseD d = true) : Cal T sub FUEL 6 h.lookH [d] .non :=
  run_look_house H.lookH (pl_nown hd) (by have := run_house (sub := sub) H d hd hdep; rwa [hh] at this)
theorem run_lookHX (H : Hous T common h) {d : D} (hd : plB d = true) (hdep : dep d ≤ 60) (hh : isHouseD d = false) : CalX T sub FUEL 6 h.lookH [d] h.cH :=
  run_look_houseX H.lookH (pl_nown hd) (by have := run_house (sub := sub) H d hd hdep; rwa [hh] at this)
theorem run_kind (H : Hous T common h) (d : D) (hd : plB d = true) : Cal T sub FUEL 3 h.kind [d] (.bl (isKindD d)) :=
  run_is_kind H.parts.co H.parts.wh H.parts.ch H.parts.ki d hd
end
/-- a house that stands, its parts known -/
structure HOk (gs : List Gd) (bs : List Bk) (w : Str) (rows : List (Int × Int)) : Prop where
  is : isHouseD (houseD gs bs w rows) = true
  pl : plB (houseD gs bs w rows) = true
  dp : dep (houseD gs bs w rows) ≤ 60
theorem pl_tup3 {a b c : D} (h : plB (.tup [a, b, c]) = true) : plB a = true ∧ plB b = true ∧ plB c = true := by
  have := (pl_tup h).1
  exact ⟨plBs_mem this (by simp), plBs_mem this (by simp), plBs_mem this (by simp)⟩
theorem pl_str {z : Str} (h : plB (.str z) = true) : PyData.strOk z = true ∧ z.length ≤ 1000 := by
  unfold plB at h
  simp only [Bool.and_eq_true, decide_eq_true_eq] at h
  exact h
section
variable {gs : List Gd} {bs : List Bk} {w : Str} {rows : List (Int × Int)}
theorem HOk.gok (h : HOk gs bs w rows) : ∀ g ∈ gs, g.ok := fun g hg => by
  have h1 := (pl_tup (pl_tup3 h.pl).1).1
  have h2 := plBs_mem h1 (List.mem_map_of_mem (f := gdD) hg)
  exact (pl_str (plBs_mem (pl_tup h2).1 (List.mem_cons_self))).1
theorem HOk.bok (h : HOk gs bs w rows) : ∀ b ∈ bs, b.ok := fun b hb => by
  have h1 := (pl_tup (pl_tup3 h.pl).2.1).1
  have h2 := plBs_mem h1 (List.mem_map_of_mem (f := bkD) hb)
  have h3 := (pl_tup h2).1
  exact ⟨(pl_str (plBs_mem h3 (List.mem_cons_self))).1, (pl_str (plBs_mem h3 (List.mem_cons_of_mem _ List.mem_cons_self))).1⟩
theorem HOk.gl (h : HOk gs bs w rows) : gs.length ≤ 6 ∧ bs.length ≤ 12 ∧ 1 ≤ gs.length := by
  have := h.is
  unfold houseD isHouseD at this
  simp only [Bool.and_eq_true, decide_eq_true_eq, List.length_map] at this
  exact ⟨this.1.1.2, this.2.1.1.2, this.1.1.1⟩
theorem HOk.wok (h : HOk gs bs w rows) : PyData.strOk w = true := (pl_str (plBs_mem (pl_tup (pl_tup3 h.pl).2.2).1 List.mem_cons_self)).1
end
section
variable {T : Nat → Option Fn} {sub : Nat → Nat → Bool}
structure Sell2 (T : Nat → Option Fn) (i : Ix) (h : HIx) (s : SIx) : Prop where
  S : Sell T i
  H : Hous T i.common h
  lookK : Has T s.lookK 3 3 (L_look_kind h.lookH h.lookG h.kind s.cK)
  allW : Has T s.allW 3 5 (L_all_worths i.worth)
/-- what a call is about -/
structure Ask (gs : List Gd) (bs : List Bk) (w : Str) (p : Int × Int) (rows : List (Int × Int)) (z : Str) (g : Gd) (seats : Nat) (fare : Int) (ch : Rat) (rank : Int) (ask : Option Int) (D' N A : Nat) : Prop where
  ok : HOk gs bs w (p :: rows)
  zok : PyData.strOk z = true
  hg : gs.find? (fun g => g.name == z) = some g
  hs : g.seats = (seats : Int)
  kp : plB (kindD fare ch rank ask) = true
  ki : isKindD (kindD fare ch rank ask) = true
  L : LB D' N A
  hN : (bs.filter fun b => b.going == z).length + 12 ≤ N
  cb : ∀ b ∈ bs, Un1 D' b.ch
  cc : Un1 D' ch
  ab : ∀ b ∈ bs, (∀ a, b.ask = some a → a.natAbs ≤ A) ∧ b.fare.natAbs ≤ A
  aa : (∀ a, ask = some a → a.natAbs ≤ A) ∧ fare.natAbs ≤ A
  af : p.2.natAbs ≤ A
section
variable {i : Ix} {h : HIx} {s : SIx} {gs : List Gd} {bs : List Bk} {w : Str} {p : Int × Int} {rows : List (Int × Int)} {z : Str} {g : Gd} {seats : Nat} {fare : Int} {ch : Rat} {rank : Int} {ask : Option Int} {D' N A : Nat}
/-- what so many more are worth -/
abbrev Wm (bs : List Bk) (w : Str) (p : Int × Int) (z : Str) (seats : Nat) (fare : Int) (ch : Rat) (rank : Int) (ask : Option Int) (m : Nat) : Rat := worthQ w seats p.2 (allBk bs z fare ch rank ask m)
theorem all_mem {b : Bk} {m : Nat} (hb : b ∈ allBk bs z fare ch rank ask m) : b ∈ bs ∨ (b.ch = ch ∧ b.fare = fare ∧ b.ask = ask) := by
  rcases List.mem_append.mp (inOrder_mem hb) with q | q
  · exact .inl (List.mem_filter.mp q).1
  · obtain ⟨k, _, rfl⟩ := List.mem_map.mp q
    exact .inr ⟨rfl, rfl, rfl⟩
theorem Ask.run (K : Ask gs bs w p rows z g seats fare ch rank ask D' N A) (S : Sell2 T i h s) (m : Nat) (hm : m ≤ 12) :
    Cal T sub FUEL 8 i.worth [houseD gs bs w (p :: rows), .str z, kindD fare ch rank ask, .int (m : Nat)] (rd (Wm bs w p z seats fare ch rank ask m)) ∧ Tame (Wm bs w p z seats fare ch rank ask m) := by
  have hN := K.hN
  have bl := K.ok.gl
  refine run_worth_with S.S K.L gs K.ok.gok (by omega) bs K.ok.bok (by omega) w K.ok.wok p rows z K.zok g K.hg seats K.hs fare ch rank ask m hm _ rfl ?_ (fun b hb => ?_) (fun b hb => ?_) K.af
  · unfold allBk
    rw [inOrder_len, List.length_append, List.length_map, List.length_range]; omega
  · rcases all_mem hb with q | ⟨q, _⟩
    · exact K.cb b q
    · rw [q]; exact K.cc
  · rcases all_mem hb with q | ⟨_, q1, q2⟩
    · exact K.ab b q
    · rw [q1, q2]; exact K.aa
theorem Ask.minus (K : Ask gs bs w p rows z g seats fare ch rank ask D' N A) (S : Sell2 T i h s) (a b : Nat) (ha : a ≤ 12) (hb : b ≤ 12) : Cal T sub FUEL 3 i.minus [rd (Wm bs w p z seats fare ch rank ask a), rd (Wm bs w p z seats fare ch rank ask b)] (rd (Wm bs w p z seats fare ch rank ask a - Wm bs w p z seats fare ch rank ask b)) :=
  run_minus S.S.p.p S.S.minus (K.run (sub := sub) S a ha).2 (K.run (sub := sub) S b hb).2
theorem find_in {gs : List Gd} {z : Str} {g : Gd} (h : gs.find? (fun g => g.name == z) = some g) : (gs.map (·.name)).contains z = true := by
  have h1 := List.find?_some h
  have h2 := List.mem_of_find?_eq_some h
  rw [List.contains_iff_mem, List.mem_map]
  exact ⟨g, h2, eq_of_beq h1⟩
theorem Ask.look (K : Ask gs bs w p rows z g seats fare ch rank ask D' N A) (S : Sell2 T i h s) : Cal T sub FUEL 7 s.lookK [houseD gs bs w (p :: rows), .str z, kindD fare ch rank ask] .non := by
  have bl := K.ok.gl
  refine run_look_kind S.lookK rfl rfl rfl (run_lookH S.H K.ok.pl K.ok.dp K.ok.is) ?_ ?_
  · exact (run_look_going (sub := sub) (fuel := FUEL) S.H.lookG _ _ gs K.ok.gok (by omega) z K.zok (find_in K.hg)).mono (by decide)
  · have := run_kind (sub := sub) S.H (kindD fare ch rank ask) K.kp
    rw [K.ki] at this
    exact this.mono (by decide)
theorem Ask.all (K : Ask gs bs w p rows z g seats fare ch rank ask D' N A) (S : Sell2 T i h s) : Cal T sub FUEL 9 s.allW [houseD gs bs w (p :: rows), .str z, kindD fare ch rank ask] (.lst (rds (WL (Wm bs w p z seats fare ch rank ask)))) :=
  run_all_worths S.allW rfl rfl rfl _ fun m hm => (K.run S m hm).1
theorem Ask.worths (K : Ask gs bs w p rows z g seats fare ch rank ask D' N A) (S : Sell2 T i h s) {f : Nat} (hf : Has T f 3 3 (L_worths s.lookK s.allW)) : Cal T sub FUEL 10 f [houseD gs bs w (p :: rows), .str z, kindD fare ch rank ask] (.lst (rds (WL (Wm bs w p z seats fare ch rank ask)))) :=
  run_worths hf rfl rfl rfl rfl ((K.look S).mono (by decide)) (K.all S)
theorem Ask.best (K : Ask gs bs w p rows z g seats fare ch rank ask D' N A) (S : Sell2 T i h s) {f : Nat} (hf : Has T f 3 7 (L_best_number s.lookK s.allW i.minus)) : Cal T sub FUEL 10 f [houseD gs bs w (p :: rows), .str z, kindD fare ch rank ask] (.int (bestN (Wm bs w p z seats fare ch rank ask) : Nat)) :=
  run_best_number hf rfl rfl rfl _ (by decide) ((K.look S).mono (by decide)) (K.all S) (K.minus S)
theorem Ask.adds (K : Ask gs bs w p rows z g seats fare ch rank ask D' N A) (S : Sell2 T i h s) {f : Nat} (hf : Has T f 3 7 (L_adds s.allW i.minus)) : Cal T sub FUEL 10 f [houseD gs bs w (p :: rows), .str z, kindD fare ch rank ask] (.lst (rds (AL (Wm bs w p z seats fare ch rank ask)))) :=
  run_adds hf rfl rfl rfl _ (by decide) (K.all S) (K.minus S)
theorem Ask.turn (K : Ask gs bs w p rows z g seats fare ch rank ask D' N A) (S : Sell2 T i h s) {f fa : Nat} (ha : Has T fa 3 7 (L_adds s.allW i.minus)) (hf : Has T f 3 7 (L_turning s.lookK fa)) : Cal T sub FUEL 11 f [houseD gs bs w (p :: rows), .str z, kindD fare ch rank ask] (turnD (Wm bs w p z seats fare ch rank ask)) :=
  run_turning hf rfl rfl rfl _ (Nat.lt_of_lt_of_le (show 12 < 2 ^ 4 by decide) (Nat.pow_le_pow_right (by decide) (by decide))) ((K.look S).mono (by decide)) (K.adds S ha)
end
end
end L2.Z
set_option Elab.async false
set_option linter.all false
set_option maxRecDepth 100000
set_option maxHeartbeats 4000000
set_option exponentiation.threshold 9000
/-! ### what is sound, of typed data -/
namespace L2.Z
open PySem
theorem pl_small {i : Int} (h : i.natAbs < 2 ^ 100) : plB (.int i) = true := by
  show decide (i.natAbs < 2 ^ 4000) = true
  rw [decide_eq_true_eq]
  exact Nat.lt_of_lt_of_le h (pow_le' (by decide))
theorem whole_ok {i lo hi : Int} (h : lo ≤ i ∧ i ≤ hi) : isWholeD (.int i) lo hi = true := by
  unfold isWholeD
  simp only [Bool.and_eq_true, decide_eq_true_eq]; exact h
theorem le_num {q : Rat} (h : q ≤ 1) : q.num ≤ q.den := by
  have e := rat_nd q
  have h2 : (0 : Rat) < (q.den : Rat) := by
    have := q.den_pos
    have h3 : (0 : Rat) ≤ (q.den : Rat) := by exact_mod_cast Nat.zero_le _
    have := den_ne q
    grind
  have h1 : (q.num : Rat) ≤ (q.den : Rat) := by
    have : (q.num : Rat) = q * (q.den : Rat) := by grind
    rw [this]
    have : q * (q.den : Rat) ≤ 1 * (q.den : Rat) := Rat.mul_le_mul_of_nonneg_right h (by grind)
    grind
  have h4 : (q.num : Rat) ≤ ((q.den : Int) : Rat) := by rw [Rat.intCast_natCast]; exact h1
  exact Rat.intCast_le_intCast.mp h4
theorem chance_ok {ch : Rat} (h0 : 0 < ch) (h1 : ch ≤ 1) : isChanceD (rd ch) = true := by
  have a : 0 < ch.num := (num_pos ch).mpr h0
  have b := le_num h1
  have c : Nat.gcd ch.num.toNat (((ch.den : Nat) : Int)).toNat = 1 := by
    have := ch.reduced
    rw [show ch.num.toNat = ch.num.natAbs by omega, Int.toNat_natCast]
    exact this
  show (decide (0 < ch.num) && (decide (ch.num ≤ (ch.den : Int)) && (Nat.gcd ch.num.toNat (((ch.den : Nat) : Int)).toNat == 1))) = true
  rw [c]
  simp only [Bool.and_eq_true, decide_eq_true_eq]
  exact ⟨a, b, by decide⟩
theorem chance_pl {ch : Rat} (h0 : 0 < ch) (h1 : ch ≤ 1) (hd : ch.den < 2 ^ 2000) : plB (rd ch) = true := by
  have a : 0 < ch.num := (num_pos ch).mpr h0
  have b := le_num h1
  have c : ((ch.den : Nat) : Int).natAbs < 2 ^ 4000 := by
    rw [Int.natAbs_natCast]
    exact Nat.lt_of_lt_of_le hd (pow_le' (by decide))
  have d : ch.num.natAbs < 2 ^ 4000 := by
    refine Nat.lt_of_le_of_lt ?_ c
    omega
  unfold rd plB plBs plBs plBs
  rw [show plB (.int ch.num) = true from decide_eq_true d, show plB (.int ((ch.den : Nat) : Int)) = true from decide_eq_true c]
  rfl
theorem kind_ok (fare : Int) (ch : Rat) (rank : Int) (ask : Option Int) (hf : 0 ≤ fare ∧ fare ≤ 999) (h0 : 0 < ch) (h1 : ch ≤ 1) (hd : ch.den < 2 ^ 2000) (hr : 0 ≤ rank ∧ rank ≤ 9) (ha : ∀ a, ask = some a → 0 ≤ a ∧ a ≤ 999) : plB (kindD fare ch rank ask) = true ∧ isKindD (kindD fare ch rank ask) = true := by
  have p1 : plB (.int fare) = true := pl_small (Nat.lt_of_lt_of_le (show _ < 2 ^ 10 by omega) (pow_le' (by decide)))
  have p2 : plB (.int rank) = true := pl_small (Nat.lt_of_lt_of_le (show _ < 2 ^ 10 by omega) (pow_le' (by decide)))
  have p3 : plB (askD ask) = true ∧ isAskD (askD ask) = true := by
    cases ask with
    | none => exact ⟨rfl, rfl⟩
    | some a =>
      have := ha a rfl
      exact ⟨pl_small (Nat.lt_of_lt_of_le (show _ < 2 ^ 10 by omega) (pow_le' (by decide))), whole_ok this⟩
  constructor
  · have e : plB (kindD fare ch rank ask) = ((plB (.int fare) && (plB (rd ch) && (plB (.int rank) && (plB (askD ask) && true)))) && decide (4 ≤ 1000)) := rfl
    rw [e, p1, p2, p3.1, chance_pl h0 h1 hd]; rfl
  · have e : isKindD (kindD fare ch rank ask) = (isWholeD (.int fare) 0 999 && isChanceD (rd ch) && (isWholeD (.int rank) 0 9 && isAskD (askD ask))) := rfl
    rw [e, whole_ok hf, chance_ok h0 h1, whole_ok hr, p3.2]; rfl
end L2.Z
set_option Elab.async false
set_option linter.all false
set_option maxRecDepth 100000
set_option maxHeartbeats 2000000
/-! ### the plain law of k32 -/
namespace L2.Z
open PySem
def further (z : Str) (fare : Int) (ch : Rat) (rank : Int) (ask : Option Int) (m : Nat) : List Bk := (List.range m).map (moreBk z fare ch rank ask)
theorem key_more (z : Str) (fare : Int) (ch : Rat) (rank : Int) (ask : Option Int) (k : Nat) : ∃ a b : Int, ∀ k, keyT (moreBk z fare ch rank ask k) = (a, b, moreName k) := by
  cases ask with
  | none => exact ⟨1, -rank, fun k => rfl⟩
  | some a => exact ⟨0, a, fun k => rfl⟩
theorem name_lt {i j : Nat} (h : i < j) : ¬ (moreName j).cps.toList < (moreName i).cps.toList := by
  show ¬ ([126, 97 + j] : List Nat) < [126, 97 + i]
  intro q
  rw [List.cons_lt_cons_iff] at q
  rcases q with q | ⟨_, q⟩
  · omega
  · rw [List.cons_lt_cons_iff] at q
    rcases q with q | ⟨q, _⟩ <;> omega
theorem further_sorted (z : Str) (fare : Int) (ch : Rat) (rank : Int) (ask : Option Int) (m : Nat) : (further z fare ch rank ask m).Pairwise fun a b => leB a b = true := by
  unfold further
  rw [List.pairwise_map]
  refine List.pairwise_lt_range.imp fun {i j} h => ?_
  obtain ⟨a, b, hk⟩ := key_more z fare ch rank ask 0
  unfold leB
  rw [hk, hk]
  unfold ltT
  have := name_lt h
  simp
  exact List.not_lt.mp this
theorem allBk_none (z : Str) (fare : Int) (ch : Rat) (rank : Int) (ask : Option Int) (m : Nat) : allBk [] z fare ch rank ask m = further z fare ch rank ask m := by
  unfold allBk
  rw [List.filter_nil, List.nil_append]
  exact inOrder_id (further_sorted z fare ch rank ask m)
theorem further_len (z : Str) (fare : Int) (ch : Rat) (rank : Int) (ask : Option Int) (m : Nat) : (further z fare ch rank ask m).length = m := by simp [further]
theorem further_mem {z : Str} {fare : Int} {ch : Rat} {rank : Int} {ask : Option Int} {m : Nat} {b : Bk} (h : b ∈ further z fare ch rank ask m) : b.ch = ch ∧ b.fare = fare ∧ b.ask = ask ∧ b.rank = rank ∧ b.going = z := by
  obtain ⟨k, _, rfl⟩ := List.mem_map.mp h
  exact ⟨rfl, rfl, rfl, rfl, rfl⟩
theorem cast_sub (m s : Nat) : ((m - s : Nat) : Rat) = if s ≤ m then (m : Rat) - (s : Rat) else 0 := by
  split
  · rename_i h
    obtain ⟨k, rfl⟩ := Nat.exists_eq_add_of_le h
    rw [Nat.add_sub_cancel_left, show ((s + k : Nat) : Rat) = (s : Rat) + (k : Rat) by simp]; grind
  · rw [show m - s = 0 by omega]; rfl
/-- sure ones, own asks -/
theorem sure_own (z : Str) (fare ask : Int) (seats m : Nat) : worthQ "own" seats 7 (further z fare 1 0 (some ask) m) = (m : Rat) * fare - ((m - seats : Nat) : Rat) * ask := by
  rw [worth_own, fares_all fare 1 _ fun b hb => ⟨(further_mem hb).1, (further_mem hb).2.1⟩, both_sure seats 7 (ask : Rat) _ fun b hb => ⟨(further_mem hb).1, by unfold payQ; rw [(further_mem hb).2.2.1]⟩, further_len]
  grind
theorem sure_forced (z : Str) (fare : Int) (seats m : Nat) : worthQ "own" seats 7 (further z fare 1 0 none m) = (m : Rat) * fare - ((m - seats : Nat) : Rat) * 7 := by
  rw [worth_own, fares_all fare 1 _ fun b hb => ⟨(further_mem hb).1, (further_mem hb).2.1⟩, both_sure seats 7 (7 : Rat) _ fun b hb => ⟨(further_mem hb).1, by unfold payQ; rw [(further_mem hb).2.2.1]; rfl⟩, further_len]
  grind
/-! the last ask -/
theorem cnt1_at (k i : Nat) : (cntQ (List.replicate k 1)).getD i 0 = if i = k then 1 else 0 := by
  rw [cnt1, List.getD_eq_getElem?_getD]
  by_cases h : i < k
  · rw [List.getElem?_append_left (by simpa using h), List.getElem?_replicate, if_pos h, if_neg (by omega)]; rfl
  · rw [List.getElem?_append_right (by simpa using h), List.length_replicate]
    by_cases e : i = k
    · rw [e, Nat.sub_self, if_pos rfl]; rfl
    · rw [if_neg e, List.getElem?_eq_none (by simp; omega)]; rfl
theorem zeros_idx : ∀ (k j : Nat), sumQ (((List.replicate k (0 : Rat)).zipIdx j).map fun p => p.1 * ((p.2 : Int) + 1 : Int)) = 0
  | 0, _ => rfl
  | k + 1, j => by rw [List.replicate_succ, List.zipIdx_cons, List.map_cons, sumQ_cons, zeros_idx k (j + 1)]; grind
theorem mean1 (k : Nat) (ahead : List Bk) (h : chsQ ahead = List.replicate k 1) : meanQ ahead = ((k + 1 : Nat) : Rat) := by
  unfold meanQ
  rw [h, cnt1, List.zipIdx_append, List.map_append, sumQ_append, zeros_idx, List.length_replicate]
  rw [List.zipIdx_cons, List.map_cons, sumQ_cons, List.zipIdx_nil, List.map_nil, sumQ_nil]
  show 0 + ((1 : Rat) * (((0 + k : Nat) : Int) + 1 : Int) + 0) = ((k + 1 : Nat) : Rat)
  rw [Nat.zero_add, ← Int.natCast_succ, Rat.intCast_natCast]
  grind
theorem last1 (seats k : Nat) (later : List Bk) (h : chsQ later = List.replicate k 1) : lastQ seats [] later = if seats = k then 1 else 0 := by
  unfold lastQ
  have e : chsQ ([] : List Bk) = [] := rfl
  have e2 : moreQ (cntQ []) seats = 0 := by
    unfold moreQ
    rw [show cntQ [] = [1] from rfl, List.drop_eq_nil_of_le (by simp)]; rfl
  rw [e, List.append_nil, e2, h, cnt1_at]
  grind
theorem last_sum1 (seats : Nat) (ask : Int) : ∀ (r pre : List Bk) (s : Rat), (∀ b ∈ pre, b.ch = 1) → (∀ b ∈ r, b.ch = 1 ∧ b.ask = some ask) → lastSum seats [] pre r s = s + (if seats < r.length then ((pre.length + r.length - seats : Nat) : Rat) * ask else 0)
  | [], pre, s, _, _ => by
    unfold lastSum
    rw [if_neg (by simp)]; grind
  | b :: r, pre, s, hp, hr => by
    have hb := hr b List.mem_cons_self
    have hr' : ∀ x ∈ r, x.ch = 1 ∧ x.ask = some ask := fun x hx => hr x (List.mem_cons_of_mem _ hx)
    rw [lastSum, last_sum1 seats ask r (pre ++ [b]) _ (fun x hx => by
      rcases List.mem_append.mp hx with h | h
      · exact hp x h
      · rw [List.mem_singleton.mp h]; exact hb.1) hr']
    unfold lastOne
    rw [hb.1, last1 seats r.length r (chsQ_all 1 r fun x hx => (hr' x hx).1), mean1 pre.length pre (chsQ_all 1 pre hp)]
    have ea : askQ b = (ask : Rat) := by unfold askQ; rw [hb.2]
    rw [ea, List.length_append, List.length_cons, List.length_cons, List.length_nil]
    by_cases h1 : seats = r.length
    · rw [if_pos h1, if_neg (by omega), if_pos (by omega), show pre.length + (r.length + 1) - seats = pre.length + 1 by omega]
      grind
    · rw [if_neg h1]
      by_cases h2 : seats < r.length
      · rw [if_pos h2, if_pos (by omega), show pre.length + (0 + 1) + r.length - seats = pre.length + (r.length + 1) - seats by omega]
        grind
      · rw [if_neg h2, if_neg (by omega)]; grind
theorem others_willing (seats : Nat) (first : Int) : ∀ l : List Bk, (∀ b ∈ l, b.ask.isSome = true) → othersQ seats first l = 0
  | [], _ => others_nil _ _
  | b :: r, h => by
    rw [others_cons, h b List.mem_cons_self, if_pos rfl, others_willing seats first r fun x hx => h x (List.mem_cons_of_mem _ hx)]; grind
theorem sure_last (z : Str) (fare ask : Int) (seats m : Nat) : worthQ "last" seats 7 (further z fare 1 0 (some ask) m) = (m : Rat) * fare - ((m - seats : Nat) : Rat) * ask := by
  have hm : ∀ b ∈ further z fare 1 0 (some ask) m, b.ch = 1 ∧ b.ask = some ask := fun b hb => ⟨(further_mem hb).1, (further_mem hb).2.2.1⟩
  have hw : wil (further z fare 1 0 (some ask) m) = further z fare 1 0 (some ask) m := by
    unfold wil
    rw [List.filter_eq_self]
    intro b hb
    rw [(hm b hb).2]; rfl
  have hu : unw (further z fare 1 0 (some ask) m) = [] := by
    unfold unw
    rw [List.filter_eq_nil_iff]
    intro b hb
    rw [(hm b hb).2]; simp
  unfold worthQ willQ
  rw [if_neg (by decide), fares_all fare 1 _ fun b hb => ⟨(further_mem hb).1, (further_mem hb).2.1⟩, others_willing _ _ _ fun b hb => by rw [(hm b hb).2]; rfl]
  unfold meanLastQ
  rw [hw, hu, last_sum1 seats ask _ [] 0 (fun b hb => by cases hb) hm, further_len]
  simp only [List.length_nil, Nat.zero_add]
  by_cases h : seats < m
  · rw [if_pos h]; grind
  · rw [if_neg h, show m - seats = 0 by omega]; grind
/-! one time of two, one seat -/
theorem half_own (z : Str) (fare ask : Int) : worthQ "own" 1 7 (further z fare (1/2) 0 (some ask) 0) = 0 ∧ worthQ "own" 1 7 (further z fare (1/2) 0 (some ask) 1) = (fare : Rat) / 2 ∧ worthQ "own" 1 7 (further z fare (1/2) 0 (some ask) 2) = (4 * fare - ask : Rat) / 4 ∧ worthQ "own" 1 7 (further z fare (1/2) 0 (some ask) 3) = (12 * fare - 5 * ask : Rat) / 8 := by
  have t0 : sumQ ((cntQ []).drop 1) = 0 := by decide +kernel
  have t1 : sumQ ((cntQ [1/2]).drop 1) = 1/2 := by decide +kernel
  have t2 : sumQ ((cntQ [1/2, 1/2]).drop 1) = 3/4 := by decide +kernel
  have f0 : further z fare (1/2) 0 (some ask) 0 = [] := rfl
  have f1 : further z fare (1/2) 0 (some ask) 1 = [moreBk z fare (1/2) 0 (some ask) 0] := rfl
  have f2 : further z fare (1/2) 0 (some ask) 2 = [moreBk z fare (1/2) 0 (some ask) 0, moreBk z fare (1/2) 0 (some ask) 1] := rfl
  have f3 : further z fare (1/2) 0 (some ask) 3 = [moreBk z fare (1/2) 0 (some ask) 0, moreBk z fare (1/2) 0 (some ask) 1, moreBk z fare (1/2) 0 (some ask) 2] := rfl
  have pq : ∀ k, payQ 7 (moreBk z fare (1/2) 0 (some ask) k) = ask := fun _ => rfl
  have cq : ∀ k, (moreBk z fare (1/2) 0 (some ask) k).ch = 1/2 := fun _ => rfl
  have fq : ∀ k, (moreBk z fare (1/2) 0 (some ask) k).fare = fare := fun _ => rfl
  have e0 : tailQ 1 [] = 0 := t0
  have e1 : tailQ 1 [moreBk z fare (1/2) 0 (some ask) 0] = 1/2 := t1
  have e1' : tailQ 1 [moreBk z fare (1/2) 0 (some ask) 1] = 1/2 := t1
  have e1'' : tailQ 1 [moreBk z fare (1/2) 0 (some ask) 2] = 1/2 := t1
  have e2 : tailQ 1 [moreBk z fare (1/2) 0 (some ask) 1, moreBk z fare (1/2) 0 (some ask) 2] = 3/4 := t2
  rw [worth_own, worth_own, worth_own, worth_own, f0, f1, f2, f3]
  simp only [fares_cons, fares_nil, bothQ, pq, cq, fq, e0, e1, e1', e1'', e2]
  refine ⟨?_, ?_, ?_, ?_⟩ <;> grind
end L2.Z
set_option Elab.async false
set_option linter.all false
set_option maxRecDepth 100000
set_option maxHeartbeats 2000000
/-! ### the plain law: the order of staying -/
namespace L2.Z
open PySem
abbrev sl (z : Str) : List Nat := z.cps.toList
theorem sl_inj {a b : Str} (h : sl a = sl b) : a = b := by
  cases a; cases b
  simp only [sl] at h
  congr 1
  exact Array.toList_inj.mp h
theorem slt_trans {a b c : List Nat} (h1 : a < b) (h2 : b < c) : a < c := List.lt_trans h1 h2
/-- rising is rising at each pair -/
theorem riseS_iff : ∀ l : List Str, riseS l = true ↔ l.Pairwise fun a b => sl a < sl b
  | [] => by simp [riseS]
  | [a] => by simp [riseS]
  | a :: b :: l => by
    have e : riseS (a :: b :: l) = (decide (sl a < sl b) && riseS (b :: l)) := rfl
    rw [e, Bool.and_eq_true, decide_eq_true_eq, riseS_iff (b :: l), List.pairwise_cons (a := a)]
    constructor
    · intro ⟨h1, h2⟩
      refine ⟨fun x hx => ?_, h2⟩
      rcases List.mem_cons.mp hx with rfl | hx
      · exact h1
      · exact slt_trans h1 ((List.pairwise_cons.mp h2).1 x hx)
    · intro ⟨h1, h2⟩
      exact ⟨h1 b List.mem_cons_self, h2⟩
theorem leB_iff (a b : Bk) : leB a b = true ↔ ((keyT a).1 < (keyT b).1 ∨ ((keyT a).1 = (keyT b).1 ∧ ((keyT a).2.1 < (keyT b).2.1 ∨ ((keyT a).2.1 = (keyT b).2.1 ∧ sl a.name ≤ sl b.name)))) := by
  unfold leB ltT
  rw [keyT_name, keyT_name]
  have hn : (¬ sl b.name < sl a.name) ↔ sl a.name ≤ sl b.name := List.not_lt
  rw [Bool.not_eq_true', decide_eq_false_iff_not]
  constructor
  · intro h
    by_cases h1 : (keyT a).1 < (keyT b).1
    · exact .inl h1
    · refine .inr ⟨?_, ?_⟩
      · have : ¬ (keyT b).1 < (keyT a).1 := fun z => h (.inl z)
        omega
      · have e1 : (keyT b).1 = (keyT a).1 := by
          have : ¬ (keyT b).1 < (keyT a).1 := fun z => h (.inl z)
          omega
        by_cases h2 : (keyT a).2.1 < (keyT b).2.1
        · exact .inl h2
        · have e2 : (keyT b).2.1 = (keyT a).2.1 := by
            have : ¬ (keyT b).2.1 < (keyT a).2.1 := fun z => h (.inr ⟨e1, .inl z⟩)
            omega
          refine .inr ⟨e2.symm, hn.mp fun z => h (.inr ⟨e1, .inr ⟨e2, z⟩⟩)⟩
  · intro h q
    rcases h with h | ⟨e1, h | ⟨e2, h⟩⟩
    · rcases q with q | ⟨q, _⟩ <;> omega
    · rcases q with q | ⟨q, q' | ⟨q', _⟩⟩ <;> omega
    · rcases q with q | ⟨q, q' | ⟨q', q''⟩⟩
      · omega
      · omega
      · exact hn.mpr h q''
theorem sle_trans {a b c : List Nat} (h1 : a ≤ b) (h2 : b ≤ c) : a ≤ c := List.le_trans h1 h2
theorem leB_trans (a b c : Bk) (h1 : leB a b = true) (h2 : leB b c = true) : leB a c = true := by
  rw [leB_iff] at h1 h2 ⊢
  rcases h1 with h1 | ⟨e1, h1 | ⟨e2, h1⟩⟩ <;> rcases h2 with h2 | ⟨f1, h2 | ⟨f2, h2⟩⟩
  · exact .inl (by omega)
  · exact .inl (by omega)
  · exact .inl (by omega)
  · exact .inl (by omega)
  · exact .inr ⟨by omega, .inl (by omega)⟩
  · exact .inr ⟨by omega, .inl (by omega)⟩
  · exact .inl (by omega)
  · exact .inr ⟨by omega, .inl (by omega)⟩
  · exact .inr ⟨by omega, .inr ⟨by omega, sle_trans h1 h2⟩⟩
theorem leB_total (a b : Bk) : (leB a b || leB b a) = true := by
  rw [Bool.or_eq_true, leB_iff, leB_iff]
  rcases Int.lt_trichotomy (keyT a).1 (keyT b).1 with h | h | h
  · exact .inl (.inl h)
  · rcases Int.lt_trichotomy (keyT a).2.1 (keyT b).2.1 with h2 | h2 | h2
    · exact .inl (.inr ⟨h, .inl h2⟩)
    · rcases List.le_total (sl a.name) (sl b.name) with h3 | h3
      · exact .inl (.inr ⟨h, .inr ⟨h2, h3⟩⟩)
      · exact .inr (.inr ⟨h.symm, .inr ⟨h2.symm, h3⟩⟩)
    · exact .inr (.inr ⟨h.symm, .inl h2⟩)
  · exact .inr (.inl h)
theorem leB_name {a b : Bk} (h1 : leB a b = true) (h2 : leB b a = true) : a.name = b.name := by
  rw [leB_iff] at h1 h2
  rcases h1 with h1 | ⟨e1, h1 | ⟨e2, h1⟩⟩ <;> rcases h2 with h2 | ⟨f1, h2 | ⟨f2, h2⟩⟩ <;> first | omega | skip
  exact sl_inj (List.le_antisymm h1 h2)
theorem inOrder_sorted (l : List Bk) : (inOrder l).Pairwise fun a b => leB a b = true := List.pairwise_mergeSort leB_trans leB_total l
/-- names are told apart -/
def Apart (l : List Bk) : Prop := (l.map (·.name)).Nodup
theorem Apart.eq {l : List Bk} (h : Apart l) {a b : Bk} (ha : a ∈ l) (hb : b ∈ l) (e : a.name = b.name) : a = b := by
  unfold Apart at h
  rw [List.nodup_iff_pairwise_ne, List.pairwise_map] at h
  induction l with
  | nil => cases ha
  | cons x l ih =>
    obtain ⟨h1, h2⟩ := List.pairwise_cons.mp h
    rcases List.mem_cons.mp ha with ea | ha' <;> rcases List.mem_cons.mp hb with eb | hb'
    · rw [ea, eb]
    · exact absurd (by rw [← ea]; exact e) (h1 b hb')
    · exact absurd (by rw [← eb]; exact e.symm) (h1 a ha')
    · exact ih h2 ha' hb'
/-- what is in order is the order -/
theorem inOrder_eq {l s : List Bk} (ha : Apart l) (hp : s.Perm l) (hs : s.Pairwise fun a b => leB a b = true) : inOrder l = s := by
  refine List.Perm.eq_of_pairwise (le := fun a b => leB a b = true) (fun a b h1 h2 h3 h4 => ?_) (inOrder_sorted l) hs ((inOrder_perm l).trans hp.symm)
  exact ha.eq ((inOrder_perm l).mem_iff.mp h1) (hp.mem_iff.mp h2) (leB_name h3 h4)
/-- no greater than a place -/
def leP2 (κ : Int × Int) (b : Bk) : Bool := decide ((keyT b).1 < κ.1 ∨ ((keyT b).1 = κ.1 ∧ (keyT b).2.1 ≤ κ.2))
/-- further ones stand behind all others of like place -/
theorem inOrder_ins {l c : List Bk} {κ : Int × Int} (ha : Apart (l ++ c)) (hk : ∀ b ∈ c, (keyT b).1 = κ.1 ∧ (keyT b).2.1 = κ.2) (hc : c.Pairwise fun a b => sl a.name < sl b.name) (hl : ∀ a ∈ l, ∀ b ∈ c, sl a.name < sl b.name) :
    inOrder (l ++ c) = (inOrder l).filter (leP2 κ) ++ (c ++ (inOrder l).filter (fun b => !leP2 κ b)) := by
  have hs := inOrder_sorted l
  have hm : ∀ {b}, b ∈ inOrder l → b ∈ l := fun h => inOrder_mem h
  refine inOrder_eq ha ?_ ?_
  · have h1 : ((inOrder l).filter (leP2 κ) ++ (inOrder l).filter (fun b => !leP2 κ b)).Perm (inOrder l) := List.filter_append_perm _ _
    have h2 : ((inOrder l).filter (leP2 κ) ++ (c ++ (inOrder l).filter (fun b => !leP2 κ b))).Perm ((inOrder l).filter (leP2 κ) ++ ((inOrder l).filter (fun b => !leP2 κ b) ++ c)) := List.Perm.append_left _ List.perm_append_comm
    rw [← List.append_assoc] at h2
    rw [← List.append_assoc] at h2 ⊢
    exact h2.trans ((h1.trans (inOrder_perm l)).append_right c)
  · rw [List.pairwise_append, List.pairwise_append]
    refine ⟨hs.sublist List.filter_sublist, ⟨?_, hs.sublist List.filter_sublist, fun a h1 b h2 => ?_⟩, fun a h1 b h2 => ?_⟩
    · refine hc.imp_of_mem fun {a b} h1 h2 h => ?_
      rw [leB_iff]
      have k1 := hk a h1
      have k2 := hk b h2
      exact .inr ⟨by omega, .inr ⟨by omega, List.not_lt.mp fun z => List.lt_irrefl _ (slt_trans h z)⟩⟩
    · have k1 := hk a h1
      have k2 := (List.mem_filter.mp h2).2
      unfold leP2 at k2
      rw [Bool.not_eq_true', decide_eq_false_iff_not] at k2
      rw [leB_iff]
      by_cases z : (keyT a).1 < (keyT b).1
      · exact .inl z
      · exact .inr ⟨by omega, .inl (by omega)⟩
    · have k1 := (List.mem_filter.mp h1).2
      unfold leP2 at k1
      rw [decide_eq_true_eq] at k1
      rw [leB_iff]
      rcases List.mem_append.mp h2 with h2 | h2
      · have k2 := hk b h2
        have hn := hl a (hm (List.mem_filter.mp h1).1) b h2
        by_cases z : (keyT a).1 < (keyT b).1
        · exact .inl z
        · by_cases z2 : (keyT a).2.1 < (keyT b).2.1
          · exact .inr ⟨by omega, .inl z2⟩
          · exact .inr ⟨by omega, .inr ⟨by omega, List.not_lt.mp fun z => List.lt_irrefl _ (slt_trans hn z)⟩⟩
      · have k2 := (List.mem_filter.mp h2).2
        unfold leP2 at k2
        rw [Bool.not_eq_true', decide_eq_false_iff_not] at k2
        by_cases z : (keyT a).1 < (keyT b).1
        · exact .inl z
        · exact .inr ⟨by omega, .inl (by omega)⟩
/-! what names don't matter for -/
def er (b : Bk) : Bk := ⟨x0, x0, b.fare, b.ch, 0, b.ask⟩
theorem chs_er (l : List Bk) : chsQ (l.map er) = chsQ l := by
  unfold chsQ
  rw [List.map_map]; rfl
theorem stays_er (seats : Nat) : ∀ l : List Bk, staysQ seats (l.map er) = (staysQ seats l).map fun p => (er p.1, p.2)
  | [] => rfl
  | b :: l => by
    rw [List.map_cons, staysQ_cons, staysQ_cons, List.map_cons, stays_er seats l]
    unfold tailQ
    rw [chs_er]; rfl
theorem fares_er (l : List Bk) : faresQ (l.map er) = faresQ l := by
  unfold faresQ
  rw [List.map_map]; rfl
theorem own_er (seats : Nat) (l : List Bk) : meanOwnQ seats (l.map er) = meanOwnQ seats l := by
  unfold meanOwnQ
  rw [stays_er, List.filter_map, List.map_map]; rfl
theorem others_er (seats : Nat) (first : Int) (l : List Bk) : othersQ seats first (l.map er) = othersQ seats first l := by
  unfold othersQ
  rw [stays_er, List.filter_map, List.map_map]; rfl
theorem wil_er (l : List Bk) : wil (l.map er) = (wil l).map er := by
  unfold wil
  rw [List.filter_map]; rfl
theorem unw_er (l : List Bk) : unw (l.map er) = (unw l).map er := by
  unfold unw
  rw [List.filter_map]; rfl
theorem lastOne_er (seats : Nat) (un a r : List Bk) (b : Bk) : lastOne seats (un.map er) (a.map er) (r.map er) (er b) = lastOne seats un a r b := by
  unfold lastOne lastQ meanQ
  rw [chs_er, chs_er, chs_er]; rfl
theorem lastSum_er (seats : Nat) (un : List Bk) : ∀ (r pre : List Bk) (s : Rat), lastSum seats (un.map er) (pre.map er) (r.map er) s = lastSum seats un pre r s
  | [], _, _ => rfl
  | b :: r, pre, s => by
    rw [List.map_cons, lastSum, lastSum, lastOne_er, ← lastSum_er seats un r (pre ++ [b]), List.map_append]; rfl
theorem last_er (seats : Nat) (l : List Bk) : meanLastQ seats (l.map er) = meanLastQ seats l := by
  unfold meanLastQ
  rw [wil_er, unw_er]
  exact lastSum_er seats (unw l) (wil l) [] 0
theorem worth_er (w : Str) (seats : Nat) (first : Int) (l : List Bk) : worthQ w seats first (l.map er) = worthQ w seats first l := by
  unfold worthQ willQ
  rw [fares_er, own_er, last_er, others_er]
theorem worth_congr {w : Str} {seats : Nat} {first : Int} {l l' : List Bk} (h : l.map er = l'.map er) : worthQ w seats first l = worthQ w seats first l' := by
  rw [← worth_er w seats first l, h, worth_er]
end L2.Z
set_option Elab.async false
set_option linter.all false
set_option maxRecDepth 100000
set_option maxHeartbeats 4000000
set_option exponentiation.threshold 9000
/-! ### draws: picks, chances, bookings -/
namespace L2.Z
open PySem
/-- the town: at most b draws so far -/
def Town (ns : List Int) (b : Nat) (M' M : Mem) : Prop := ∃ (t : Nat) (cells : List Int), t ≤ b ∧ cells.length = ns.length ∧ M = townC t cells :: M'
theorem Town.mono {ns : List Int} {b b' : Nat} {M' M : Mem} (h : Town ns b M' M) (hb : b ≤ b') : Town ns b' M' M := by
  obtain ⟨t, c, h1, h2⟩ := h
  exact ⟨t, c, by omega, h2⟩
theorem town0 (ns : List Int) (M' : Mem) : Town ns 0 M' (townC 0 ns :: M') := ⟨0, ns, Nat.le_refl _, rfl, rfl⟩
def L_pick (draw : Nat) : List S := [
  .ret (.sub (.var 2 x0 p0) (.call draw x0 p0 [(.var 0 x0 p0), (.var 1 x0 p0), (.blt .len p0 [(.var 2 x0 p0)] p0)] p0) p0) p0]
def L_lplus (low : Nat) : List S := [
  .ret (.call low x0 p0 [(.bin .Add (.bin .Mult (.sub (.var 0 x0 p0) (.cst (.int 0) 0 p0) p0) (.sub (.var 1 x0 p0) (.cst (.int 1) 0 p0) p0) p0) (.bin .Mult (.sub (.var 1 x0 p0) (.cst (.int 0) 0 p0) p0) (.sub (.var 0 x0 p0) (.cst (.int 1) 0 p0) p0) p0) p0), (.bin .Mult (.sub (.var 0 x0 p0) (.cst (.int 1) 0 p0) p0) (.sub (.var 1 x0 p0) (.cst (.int 1) 0 p0) p0) p0)] p0) p0]
def L_ltimes (low : Nat) : List S := [
  .ret (.call low x0 p0 [(.bin .Mult (.sub (.var 0 x0 p0) (.cst (.int 0) 0 p0) p0) (.sub (.var 1 x0 p0) (.cst (.int 0) 0 p0) p0) p0), (.bin .Mult (.sub (.var 0 x0 p0) (.cst (.int 1) 0 p0) p0) (.sub (.var 1 x0 p0) (.cst (.int 1) 0 p0) p0) p0)] p0) p0]
def L_chance (draw low : Nat) : List S := [
  .asg (.nm 2 x0 p0) (.bin .Add (.cst (.int 1) 0 p0) (.call draw x0 p0 [(.var 0 x0 p0), (.var 1 x0 p0), (.cst (.int 4) 0 p0)] p0) p0) p0,
  .ret (.call low x0 p0 [(.var 2 x0 p0), (.bin .Add (.var 2 x0 p0) (.call draw x0 p0 [(.var 0 x0 p0), (.var 1 x0 p0), (.cst (.int 4) 0 p0)] p0) p0)] p0) p0]
def L_booking (draw pick chance : Nat) : List S := [
  .asg (.nm 4 x0 p0) (.sub (.sub (.var 3 x0 p0) (.blt .min2 p0 [(.call draw x0 p0 [(.var 0 x0 p0), (.var 1 x0 p0), (.blt .len p0 [(.var 3 x0 p0)] p0)] p0), (.call draw x0 p0 [(.var 0 x0 p0), (.var 1 x0 p0), (.blt .len p0 [(.var 3 x0 p0)] p0)] p0)] p0) p0) (.cst (.int 0) 0 p0) p0) p0,
  .asg (.nm 5 x0 p0) (.call pick x0 p0 [(.var 0 x0 p0), (.var 1 x0 p0), (.lst [(.cst .none 0 p0), (.cst .none 0 p0), (.cst (.int 0) 0 p0), (.cst (.int 5) 0 p0), (.cst (.int 5) 0 p0), (.cst (.int 20) 0 p0), (.call draw x0 p0 [(.var 0 x0 p0), (.var 1 x0 p0), (.cst (.int 60) 0 p0)] p0)] p0)] p0) p0,
  .ret (.tup [(.var 2 x0 p0), (.var 4 x0 p0), (.call draw x0 p0 [(.var 0 x0 p0), (.var 1 x0 p0), (.cst (.int 100) 0 p0)] p0), (.call chance x0 p0 [(.var 0 x0 p0), (.var 1 x0 p0)] p0), (.call draw x0 p0 [(.var 0 x0 p0), (.var 1 x0 p0), (.cst (.int 4) 0 p0)] p0), (.var 5 x0 p0)] 0 p0) p0]
/-- the law's own defs for draws -/
structure DIx where
  town : Nat
  draw : Nat
  pick : Nat
  low : Nat
  goings : Nat
  chance : Nat
  booking : Nat
  table : Nat
  house : Nat
section
variable {T : Nat → Option Fn} {sub : Nat → Nat → Bool}
theorem run_drawT {f : Nat} (h : Has T f 3 6 L_draw) {ns : List Int} (hl : ns.length ≤ 63) {b : Nat} {M' M : Mem} (t : Town ns b M' M) (hb : b < 2 ^ 50) (many : Nat) (h0 : 0 < many) (h1 : many < 2 ^ 60) (n : Nat) (hn : 1 ≤ n) :
    ∃ (v : Nat) (M1 : Mem), callF T sub FUEL n f [.ext (ns.map .int), .ref 0, .int (many : Int)] M = .ok (.int (v : Int)) M1 ∧ Town ns (b + 1) M' M1 ∧ v < many := by
  obtain ⟨k, cells, hk, hc, rfl⟩ := t
  obtain ⟨v, c', hv, hc', e⟩ := run_draw (sub := sub) (fuel := FUEL) h ns hl k (Nat.lt_of_le_of_lt hk (Nat.lt_of_lt_of_le hb (pow_le' (by decide)))) cells hc 0 many h0 h1 (townC k cells :: M') rfl n hn
  exact ⟨v, townC (k + 1) c' :: M', e, ⟨k + 1, c', by omega, hc', rfl⟩, hv⟩
theorem run_pickT {f fd : Nat} (hd : Has T fd 3 6 L_draw) (h : Has T f 3 3 (L_pick fd)) {ns : List Int} (hl : ns.length ≤ 63) {b : Nat} {M' M : Mem} (t : Town ns b M' M) (hb : b < 2 ^ 50) (xs : List D) (h0 : 0 < xs.length) (h1 : xs.length ≤ 1000) (hx : ∀ x ∈ xs, nown x = true) (n : Nat) (hn : 2 ≤ n) :
    ∃ (x : D) (M1 : Mem), callF T sub FUEL n f [.ext (ns.map .int), .ref 0, .lst xs] M = .ok x M1 ∧ Town ns (b + 1) M' M1 ∧ x ∈ xs := by
  obtain ⟨j, rfl⟩ : ∃ j, n = j + 1 := ⟨n - 1, by omega⟩
  obtain ⟨v, M1, e, t1, hv⟩ := run_drawT (sub := sub) hd hl t hb xs.length h0 (Nat.lt_of_le_of_lt h1 (by decide)) j (by omega)
  refine ⟨xs[v], M1, ?_, t1, List.getElem_mem hv⟩
  rw [run h _ rfl]
  have s : subD M1 (.lst xs) (.int (v : Int)) = some xs[v] := by rw [sub_lst, List.getElem?_eq_getElem hv]
  unfold L_pick
  simp only [ends_rtN, ends_nxN, ends_excN, bind_okN, bind_excN, ret_someN, retB_someN, retL_someN, retE_someN, ev_var, ev_cst, ev_gint, ev_gstr, ev_gfn, ev_bin, ev_neg, ev_not, ev_bop, ev_cmp, ev_chain, ev_ite, ev_call, ev_isi, ev_blt, ev_mth, ev_sub, ev_slc, ev_tup, ev_lst, ev_lc, ev_live, ev_srt, ev_srk, evs_nil, evs_cons, evx_nil, evx_cons, evO_none, evO_some, evB_one, evB_and, evB_or, evT_nil, evT_one, exs_nil, exs_cons, nxt_nxN, nxt_rtN, nxt_excN, ex_asg, ex_own, ex_par, ex_app, ex_exn, ex_sti, ex_sto, ex_aug, ex_exp, ex_ret, ex_ifs, ex_fors, ex_whl, ex_rse, ex_tri, ex_frz, cstD, Tg.put, Tg.puts, startD, wipeD, kept_intN, kept_blN, kept_strN, kept_nonN, kept_tupN, kept_lstN, kept_extN, kept_refN, kept_fnN, kept_excN, cmp_eq_int, cmp_ne_int, cmp_lt_intN, cmp_le_intN, cmp_gt_intN, cmp_ge_intN, List.map_cons, List.map_nil, List.length_cons, List.length_nil, Nat.reduceAdd, Nat.reduceSub, Nat.reduceLeDiff, List.replicate, List.cons_append, List.nil_append, List.append_nil, List.getElem?_cons_zero, List.getElem?_cons_succ, List.getElem?_nil, List.set_cons_zero, List.set_cons_succ, List.all_cons, List.all_nil, nown, Bool.and_true, Bool.true_and, Bool.and_false, Bool.false_and, if_true, if_false, Bool.false_eq_true, Bool.not_true, Bool.not_false, reduceIte, len6, Int.cast_ofNat_Int, beq_self_eq_true, Int.reduceBEq, Int.reduceAdd, Int.reduceNeg, decide_true, decide_false, Int.reduceLT, Int.reduceLE, Int.reduceToNat, len_lst, e, s, kept_ok (hx _ (List.getElem_mem hv))]
theorem run_pickTt {f fd : Nat} (hd : Has T fd 3 6 L_draw) (h : Has T f 3 3 (L_pick fd)) {ns : List Int} (hl : ns.length ≤ 63) {b : Nat} {M' M : Mem} (t : Town ns b M' M) (hb : b < 2 ^ 50) (xs : List D) (h0 : 0 < xs.length) (h1 : xs.length ≤ 1000) (hx : ∀ x ∈ xs, nown x = true) (n : Nat) (hn : 2 ≤ n) :
    ∃ (x : D) (M1 : Mem), callF T sub FUEL n f [.ext (ns.map .int), .ref 0, .tup xs] M = .ok x M1 ∧ Town ns (b + 1) M' M1 ∧ x ∈ xs := by
  obtain ⟨j, rfl⟩ : ∃ j, n = j + 1 := ⟨n - 1, by omega⟩
  obtain ⟨v, M1, e, t1, hv⟩ := run_drawT (sub := sub) hd hl t hb xs.length h0 (Nat.lt_of_le_of_lt h1 (by decide)) j (by omega)
  refine ⟨xs[v], M1, ?_, t1, List.getElem_mem hv⟩
  rw [run h _ rfl]
  have s : subD M1 (.tup xs) (.int (v : Int)) = some xs[v] := by rw [sub_tup, List.getElem?_eq_getElem hv]
  unfold L_pick
  simp only [ends_rtN, ends_nxN, ends_excN, bind_okN, bind_excN, ret_someN, retB_someN, retL_someN, retE_someN, ev_var, ev_cst, ev_gint, ev_gstr, ev_gfn, ev_bin, ev_neg, ev_not, ev_bop, ev_cmp, ev_chain, ev_ite, ev_call, ev_isi, ev_blt, ev_mth, ev_sub, ev_slc, ev_tup, ev_lst, ev_lc, ev_live, ev_srt, ev_srk, evs_nil, evs_cons, evx_nil, evx_cons, evO_none, evO_some, evB_one, evB_and, evB_or, evT_nil, evT_one, exs_nil, exs_cons, nxt_nxN, nxt_rtN, nxt_excN, ex_asg, ex_own, ex_par, ex_app, ex_exn, ex_sti, ex_sto, ex_aug, ex_exp, ex_ret, ex_ifs, ex_fors, ex_whl, ex_rse, ex_tri, ex_frz, cstD, Tg.put, Tg.puts, startD, wipeD, kept_intN, kept_blN, kept_strN, kept_nonN, kept_tupN, kept_lstN, kept_extN, kept_refN, kept_fnN, kept_excN, cmp_eq_int, cmp_ne_int, cmp_lt_intN, cmp_le_intN, cmp_gt_intN, cmp_ge_intN, List.map_cons, List.map_nil, List.length_cons, List.length_nil, Nat.reduceAdd, Nat.reduceSub, Nat.reduceLeDiff, List.replicate, List.cons_append, List.nil_append, List.append_nil, List.getElem?_cons_zero, List.getElem?_cons_succ, List.getElem?_nil, List.set_cons_zero, List.set_cons_succ, List.all_cons, List.all_nil, nown, Bool.and_true, Bool.true_and, Bool.and_false, Bool.false_and, if_true, if_false, Bool.false_eq_true, Bool.not_true, Bool.not_false, reduceIte, len6, Int.cast_ofNat_Int, beq_self_eq_true, Int.reduceBEq, Int.reduceAdd, Int.reduceNeg, decide_true, decide_false, Int.reduceLT, Int.reduceLE, Int.reduceToNat, len_tup, e, s, kept_ok (hx _ (List.getElem_mem hv))]
theorem run_lplus {f fl : Nat} (hl : Has T fl 2 4 L_lowest) (h : Has T f 2 2 (L_lplus fl)) {a b : Rat} (ha : Tame a) (hb : Tame b) : Cal T sub FUEL 2 f [rd a, rd b] (rd (a + b)) := by
  refine cal_of (k := 1) h rfl fun n hn M => ?_
  have e : ((a.den : Nat) : Int) * ((b.den : Nat) : Int) = ((a.den * b.den : Nat) : Int) := by simp
  have s := run_lowest (sub := sub) hl (a.num * b.den + b.num * a.den) (a.den * b.den) (Nat.mul_pos a.den_pos b.den_pos) (ha.dd hb) n hn
  have er : mkRat (a.num * b.den + b.num * a.den) (a.den * b.den) = a + b := (Rat.add_def' a b).symm
  rw [er] at s
  unfold L_lplus
  simp only [ends_rtN, ends_nxN, ends_excN, bind_okN, bind_excN, ret_someN, retB_someN, retL_someN, retE_someN, ev_var, ev_cst, ev_gint, ev_gstr, ev_gfn, ev_bin, ev_neg, ev_not, ev_bop, ev_cmp, ev_chain, ev_ite, ev_call, ev_isi, ev_blt, ev_mth, ev_sub, ev_slc, ev_tup, ev_lst, ev_lc, ev_live, ev_srt, ev_srk, evs_nil, evs_cons, evx_nil, evx_cons, evO_none, evO_some, evB_one, evB_and, evB_or, evT_nil, evT_one, exs_nil, exs_cons, nxt_nxN, nxt_rtN, nxt_excN, ex_asg, ex_own, ex_par, ex_app, ex_exn, ex_sti, ex_sto, ex_aug, ex_exp, ex_ret, ex_ifs, ex_fors, ex_whl, ex_rse, ex_tri, ex_frz, cstD, Tg.put, Tg.puts, startD, wipeD, kept_intN, kept_blN, kept_strN, kept_nonN, kept_tupN, kept_lstN, kept_extN, kept_refN, kept_fnN, kept_excN, cmp_eq_int, cmp_ne_int, cmp_lt_intN, cmp_le_intN, cmp_gt_intN, cmp_ge_intN, List.map_cons, List.map_nil, List.length_cons, List.length_nil, Nat.reduceAdd, Nat.reduceSub, Nat.reduceLeDiff, List.replicate, List.cons_append, List.nil_append, List.append_nil, List.getElem?_cons_zero, List.getElem?_cons_succ, List.getElem?_nil, List.set_cons_zero, List.set_cons_succ, List.all_cons, List.all_nil, nown, Bool.and_true, Bool.true_and, Bool.and_false, Bool.false_and, if_true, if_false, Bool.false_eq_true, Bool.not_true, Bool.not_false, reduceIte, len6, Int.cast_ofNat_Int, beq_self_eq_true, Int.reduceBEq, Int.reduceAdd, Int.reduceNeg, decide_true, decide_false, Int.reduceLT, Int.reduceLE, Int.reduceToNat, kept_rd, sub_rd0, sub_rd1, mul_int _ _ _ ha.n1 hb.d1, mul_int _ _ _ hb.n1 ha.d1, mul_int _ _ _ ha.d1 hb.d1, add_int, e, s]
theorem run_ltimes {f fl : Nat} (hl : Has T fl 2 4 L_lowest) (h : Has T f 2 2 (L_ltimes fl)) {a b : Rat} (ha : Tame a) (hb : Tame b) : Cal T sub FUEL 2 f [rd a, rd b] (rd (a * b)) := by
  refine cal_of (k := 1) h rfl fun n hn M => ?_
  have e : ((a.den : Nat) : Int) * ((b.den : Nat) : Int) = ((a.den * b.den : Nat) : Int) := by simp
  have s := run_lowest (sub := sub) hl (a.num * b.num) (a.den * b.den) (Nat.mul_pos a.den_pos b.den_pos) (ha.dd hb) n hn
  have er : mkRat (a.num * b.num) (a.den * b.den) = a * b := (Rat.mul_def' a b).symm
  rw [er] at s
  unfold L_ltimes
  simp only [ends_rtN, ends_nxN, ends_excN, bind_okN, bind_excN, ret_someN, retB_someN, retL_someN, retE_someN, ev_var, ev_cst, ev_gint, ev_gstr, ev_gfn, ev_bin, ev_neg, ev_not, ev_bop, ev_cmp, ev_chain, ev_ite, ev_call, ev_isi, ev_blt, ev_mth, ev_sub, ev_slc, ev_tup, ev_lst, ev_lc, ev_live, ev_srt, ev_srk, evs_nil, evs_cons, evx_nil, evx_cons, evO_none, evO_some, evB_one, evB_and, evB_or, evT_nil, evT_one, exs_nil, exs_cons, nxt_nxN, nxt_rtN, nxt_excN, ex_asg, ex_own, ex_par, ex_app, ex_exn, ex_sti, ex_sto, ex_aug, ex_exp, ex_ret, ex_ifs, ex_fors, ex_whl, ex_rse, ex_tri, ex_frz, cstD, Tg.put, Tg.puts, startD, wipeD, kept_intN, kept_blN, kept_strN, kept_nonN, kept_tupN, kept_lstN, kept_extN, kept_refN, kept_fnN, kept_excN, cmp_eq_int, cmp_ne_int, cmp_lt_intN, cmp_le_intN, cmp_gt_intN, cmp_ge_intN, List.map_cons, List.map_nil, List.length_cons, List.length_nil, Nat.reduceAdd, Nat.reduceSub, Nat.reduceLeDiff, List.replicate, List.cons_append, List.nil_append, List.append_nil, List.getElem?_cons_zero, List.getElem?_cons_succ, List.getElem?_nil, List.set_cons_zero, List.set_cons_succ, List.all_cons, List.all_nil, nown, Bool.and_true, Bool.true_and, Bool.and_false, Bool.false_and, if_true, if_false, Bool.false_eq_true, Bool.not_true, Bool.not_false, reduceIte, len6, Int.cast_ofNat_Int, beq_self_eq_true, Int.reduceBEq, Int.reduceAdd, Int.reduceNeg, decide_true, decide_false, Int.reduceLT, Int.reduceLE, Int.reduceToNat, kept_rd, sub_rd0, sub_rd1, mul_int _ _ _ ha.n1 hb.n1, mul_int _ _ _ ha.d1 hb.d1, e, s]
/-- a drawn chance -/
structure ChOk (ch : Rat) : Prop where
  pos : 0 < ch
  le : ch ≤ 1
  un : Un1 420 ch
  den : ch.den ≤ 7
theorem ch_all : ∀ a b : Fin 4, let q := mkRat (1 + (a.val : Int)) (1 + a.val + b.val); 0 < q ∧ q ≤ 1 ∧ q.den ≤ 7 ∧ 420 % q.den = 0 := by decide +kernel
theorem un_of {q : Rat} (h0 : 0 < q) (h1 : q ≤ 1) {D : Nat} (hD : 0 < D) (h : D % q.den = 0) : Un1 D q := by
  obtain ⟨k, hk⟩ := Nat.dvd_of_mod_eq_zero h
  refine ⟨hD, ⟨q.num * k, ?_⟩, by grind, h1⟩
  have e := rat_nd q
  have n := den_ne q
  rw [hk, Rat.intCast_mul, Rat.intCast_natCast]
  have : ((q.den * k : Nat) : Rat) = (q.den : Rat) * (k : Rat) := by simp
  rw [this]
  grind
theorem run_chance {f fd fl : Nat} (hd : Has T fd 3 6 L_draw) (hw : Has T fl 2 4 L_lowest) (h : Has T f 2 3 (L_chance fd fl)) {ns : List Int} (hl : ns.length ≤ 63) {b : Nat} {M' M : Mem} (t : Town ns b M' M) (hb : b + 2 < 2 ^ 50) (n : Nat) (hn : 2 ≤ n) :
    ∃ (ch : Rat) (M1 : Mem), callF T sub FUEL n f [.ext (ns.map .int), .ref 0] M = .ok (rd ch) M1 ∧ Town ns (b + 2) M' M1 ∧ ChOk ch := by
  obtain ⟨j, rfl⟩ : ∃ j, n = j + 1 := ⟨n - 1, by omega⟩
  obtain ⟨v1, M1, e1, t1, h1⟩ := run_drawT (sub := sub) hd hl t (by omega) 4 (by decide) (by decide) j (by omega)
  obtain ⟨v2, M2, e2, t2, h2⟩ := run_drawT (sub := sub) hd hl t1 (by omega) 4 (by decide) (by decide) j (by omega)
  have s := run_lowest (sub := sub) hw (1 + (v1 : Int)) (1 + v1 + v2) (by omega) (Nat.lt_of_lt_of_le (show _ < 2 ^ 4 by omega) (pow_le' (by decide))) j (by omega) M2
  obtain ⟨q1, q2, q3, q4⟩ := ch_all ⟨v1, h1⟩ ⟨v2, h2⟩
  refine ⟨mkRat (1 + (v1 : Int)) (1 + v1 + v2), M2, ?_, t2, ⟨q1, q2, un_of q1 q2 (by decide) q4, q3⟩⟩
  have e1' : callF T sub FUEL j fd [.ext (ns.map .int), .ref 0, .int 4] M = .ok (.int (v1 : Int)) M1 := e1
  have e2' : callF T sub FUEL j fd [.ext (ns.map .int), .ref 0, .int 4] M1 = .ok (.int (v2 : Int)) M2 := e2
  have ec : (1 : Int) + (v1 : Int) + (v2 : Int) = ((1 + v1 + v2 : Nat) : Int) := by omega
  rw [run h _ rfl]
  unfold L_chance
  simp only [ends_rtN, ends_nxN, ends_excN, bind_okN, bind_excN, ret_someN, retB_someN, retL_someN, retE_someN, ev_var, ev_cst, ev_gint, ev_gstr, ev_gfn, ev_bin, ev_neg, ev_not, ev_bop, ev_cmp, ev_chain, ev_ite, ev_call, ev_isi, ev_blt, ev_mth, ev_sub, ev_slc, ev_tup, ev_lst, ev_lc, ev_live, ev_srt, ev_srk, evs_nil, evs_cons, evx_nil, evx_cons, evO_none, evO_some, evB_one, evB_and, evB_or, evT_nil, evT_one, exs_nil, exs_cons, nxt_nxN, nxt_rtN, nxt_excN, ex_asg, ex_own, ex_par, ex_app, ex_exn, ex_sti, ex_sto, ex_aug, ex_exp, ex_ret, ex_ifs, ex_fors, ex_whl, ex_rse, ex_tri, ex_frz, cstD, Tg.put, Tg.puts, startD, wipeD, kept_intN, kept_blN, kept_strN, kept_nonN, kept_tupN, kept_lstN, kept_extN, kept_refN, kept_fnN, kept_excN, cmp_eq_int, cmp_ne_int, cmp_lt_intN, cmp_le_intN, cmp_gt_intN, cmp_ge_intN, List.map_cons, List.map_nil, List.length_cons, List.length_nil, Nat.reduceAdd, Nat.reduceSub, Nat.reduceLeDiff, List.replicate, List.cons_append, List.nil_append, List.append_nil, List.getElem?_cons_zero, List.getElem?_cons_succ, List.getElem?_nil, List.set_cons_zero, List.set_cons_succ, List.all_cons, List.all_nil, nown, Bool.and_true, Bool.true_and, Bool.and_false, Bool.false_and, if_true, if_false, Bool.false_eq_true, Bool.not_true, Bool.not_false, reduceIte, len6, Int.cast_ofNat_Int, beq_self_eq_true, Int.reduceBEq, Int.reduceAdd, Int.reduceNeg, decide_true, decide_false, Int.reduceLT, Int.reduceLE, Int.reduceToNat, e1', e2', add_int, ec, s, kept_rd]
/-- a drawn kind -/
structure KOk (fare : Int) (ch : Rat) (rank : Int) (ask : Option Int) : Prop where
  fare : 0 ≤ fare ∧ fare < 100
  ch : ChOk ch
  rank : 0 ≤ rank ∧ rank < 4
  ask : ∀ a, ask = some a → 0 ≤ a ∧ a < 60
theorem min_int (M : Mem) (i j : Int) : bltD .min2 M [.int i, .int j] = some (.int (if j < i then j else i)) := Eq.trans rfl rfl
theorem run_booking {f fd fp fc fl : Nat} (hd : Has T fd 3 6 L_draw) (hp : Has T fp 3 3 (L_pick fd)) (hw : Has T fl 2 4 L_lowest) (hc : Has T fc 2 3 (L_chance fd fl)) (h : Has T f 4 6 (L_booking fd fp fc)) {ns : List Int} (hl : ns.length ≤ 63) {b : Nat} {M' M : Mem} (t : Town ns b M' M) (hb : b + 8 < 2 ^ 50) (name : Str) (gs : List Gd) (hg : 0 < gs.length) (hg1 : gs.length ≤ 6) (n : Nat) (hn : 3 ≤ n) :
    ∃ (bk : Bk) (M1 : Mem), callF T sub FUEL n f [.ext (ns.map .int), .ref 0, .str name, .tup (gs.map gdD)] M = .ok (bkD bk) M1 ∧ Town ns (b + 8) M' M1 ∧ bk.name = name ∧ (∃ g ∈ gs, bk.going = g.name) ∧ KOk bk.fare bk.ch bk.rank bk.ask := by
  obtain ⟨j, rfl⟩ : ∃ j, n = j + 1 := ⟨n - 1, by omega⟩
  obtain ⟨v1, M1, e1, t1, h1⟩ := run_drawT (sub := sub) hd hl t (by omega) gs.length hg (Nat.lt_of_le_of_lt hg1 (by decide)) j (by omega)
  obtain ⟨v2, M2, e2, t2, h2⟩ := run_drawT (sub := sub) hd hl t1 (by omega) gs.length hg (Nat.lt_of_le_of_lt hg1 (by decide)) j (by omega)
  obtain ⟨v3, M3, e3, t3, h3⟩ := run_drawT (sub := sub) hd hl t2 (by omega) 60 (by decide) (by decide) j (by omega)
  obtain ⟨x, M4, e4, t4, h4⟩ := run_pickT (sub := sub) hd hp hl t3 (by omega) [.non, .non, .int 0, .int 5, .int 5, .int 20, .int (v3 : Int)] (show 0 < 7 by decide) (show 7 ≤ 1000 by decide) (fun x hx => by
    simp only [List.mem_cons, List.not_mem_nil, or_false] at hx
    rcases hx with rfl | rfl | rfl | rfl | rfl | rfl | rfl <;> rfl) j (by omega)
  obtain ⟨v5, M5, e5, t5, h5⟩ := run_drawT (sub := sub) hd hl t4 (by omega) 100 (by decide) (by decide) j (by omega)
  obtain ⟨ch, M6, e6, t6, h6⟩ := run_chance (sub := sub) hd hw hc hl t5 (by omega) j (by omega)
  obtain ⟨v7, M7, e7, t7, h7⟩ := run_drawT (sub := sub) hd hl t6 (by omega) 4 (by decide) (by decide) j (by omega)
  obtain ⟨ask, hx, ha⟩ : ∃ ask : Option Int, x = askD ask ∧ ∀ a, ask = some a → 0 ≤ a ∧ a < 60 := by
    simp only [List.mem_cons, List.not_mem_nil, or_false] at h4
    rcases h4 with rfl | rfl | rfl | rfl | rfl | rfl | rfl
    · exact ⟨none, rfl, fun a e => by cases e⟩
    · exact ⟨none, rfl, fun a e => by cases e⟩
    · exact ⟨some 0, rfl, fun a e => by cases e; decide⟩
    · exact ⟨some 5, rfl, fun a e => by cases e; decide⟩
    · exact ⟨some 5, rfl, fun a e => by cases e; decide⟩
    · exact ⟨some 20, rfl, fun a e => by cases e; decide⟩
    · exact ⟨some (v3 : Int), rfl, fun a e => by cases e; omega⟩
  subst hx
  have hi : min v2 v1 < gs.length := by omega
  have em : (if (v2 : Int) < (v1 : Int) then (v2 : Int) else (v1 : Int)) = ((min v2 v1 : Nat) : Int) := by split <;> omega
  refine ⟨⟨name, gs[min v2 v1].name, v5, ch, v7, ask⟩, M7, ?_, t7, rfl, ⟨_, List.getElem_mem hi, rfl⟩, ⟨by dsimp only; omega, h6, by dsimp only; omega, ha⟩⟩
  have ln : ∀ M, bltD .len M [.tup (gs.map gdD)] = some (.int (gs.length : Int)) := fun M => by rw [len_tup, List.length_map]
  have s1 : ∀ M, subD M (.tup (gs.map gdD)) (.int ((min v2 v1 : Nat) : Int)) = some (gdD gs[min v2 v1]) := fun M => by
    rw [sub_tup, List.getElem?_map, List.getElem?_eq_getElem hi]; rfl
  have s2 : ∀ M, subD M (gdD gs[min v2 v1]) (.int 0) = some (.str gs[min v2 v1].name) := fun M => sub_t0 M _ _
  have e3' : callF T sub FUEL j fd [.ext (ns.map .int), .ref 0, .int 60] M2 = .ok (.int (v3 : Int)) M3 := e3
  have e5' : callF T sub FUEL j fd [.ext (ns.map .int), .ref 0, .int 100] M4 = .ok (.int (v5 : Int)) M5 := e5
  have e7' : callF T sub FUEL j fd [.ext (ns.map .int), .ref 0, .int 4] M6 = .ok (.int (v7 : Int)) M7 := e7
  have ka : ∀ M, kept (askD ask) M = .ok (askD ask) M := fun M => by cases ask <;> rfl
  rw [run h _ rfl]
  unfold L_booking
  simp only [ends_rtN, ends_nxN, ends_excN, bind_okN, bind_excN, ret_someN, retB_someN, retL_someN, retE_someN, ev_var, ev_cst, ev_gint, ev_gstr, ev_gfn, ev_bin, ev_neg, ev_not, ev_bop, ev_cmp, ev_chain, ev_ite, ev_call, ev_isi, ev_blt, ev_mth, ev_sub, ev_slc, ev_tup, ev_lst, ev_lc, ev_live, ev_srt, ev_srk, evs_nil, evs_cons, evx_nil, evx_cons, evO_none, evO_some, evB_one, evB_and, evB_or, evT_nil, evT_one, exs_nil, exs_cons, nxt_nxN, nxt_rtN, nxt_excN, ex_asg, ex_own, ex_par, ex_app, ex_exn, ex_sti, ex_sto, ex_aug, ex_exp, ex_ret, ex_ifs, ex_fors, ex_whl, ex_rse, ex_tri, ex_frz, cstD, Tg.put, Tg.puts, startD, wipeD, kept_intN, kept_blN, kept_strN, kept_nonN, kept_tupN, kept_lstN, kept_extN, kept_refN, kept_fnN, kept_excN, cmp_eq_int, cmp_ne_int, cmp_lt_intN, cmp_le_intN, cmp_gt_intN, cmp_ge_intN, List.map_cons, List.map_nil, List.length_cons, List.length_nil, Nat.reduceAdd, Nat.reduceSub, Nat.reduceLeDiff, List.replicate, List.cons_append, List.nil_append, List.append_nil, List.getElem?_cons_zero, List.getElem?_cons_succ, List.getElem?_nil, List.set_cons_zero, List.set_cons_succ, List.all_cons, List.all_nil, nown, Bool.and_true, Bool.true_and, Bool.and_false, Bool.false_and, if_true, if_false, Bool.false_eq_true, Bool.not_true, Bool.not_false, reduceIte, len6, Int.cast_ofNat_Int, beq_self_eq_true, Int.reduceBEq, Int.reduceAdd, Int.reduceNeg, decide_true, decide_false, Int.reduceLT, Int.reduceLE, Int.reduceToNat, ln, e1, e2, min_int, em, s1, s2, e3', e4, ka, e5', e6, kept_rd, e7']
  rfl
end
end L2.Z
set_option Elab.async false
set_option linter.all false
set_option maxRecDepth 100000
set_option maxHeartbeats 4000000
set_option exponentiation.threshold 9000
/-! ### houses that stand, from their parts -/
namespace L2.Z
open PySem
theorem word_ok {z : Str} (h : isWord z = true) : PyData.strOk z = true ∧ z.length ≤ 8 ∧ plB (.str z) = true := by
  unfold isWord at h
  simp only [Bool.and_eq_true, decide_eq_true_eq, List.all_eq_true] at h
  obtain ⟨h1, h2, h3⟩ := h
  have hs : PyData.strOk z = true := by
    unfold PyData.strOk
    rw [Array.all_eq_true_iff_forall_mem]
    intro c hc
    have hm : c ∈ letters := h3 c (by simpa using hc)
    have hl : ∀ c ∈ letters, decide (c < 0x110000) = true := by decide +kernel
    exact hl c hm
  refine ⟨hs, h2, ?_⟩
  show (PyData.strOk z && decide (z.length ≤ 1000)) = true
  rw [hs, decide_eq_true (by omega)]; rfl
structure GdV (g : Gd) : Prop where
  name : isWord g.name = true
  fr : isWord g.fr = true
  to : isWord g.to = true
  ne : (g.fr == g.to) = false
  lv : 0 ≤ g.lv ∧ g.lv ≤ 999
  cm : 0 ≤ g.cm ∧ g.cm ≤ 999
  lt : g.lv < g.cm
  seats : 1 ≤ g.seats ∧ g.seats ≤ 9
theorem pl_999 {i : Int} (h : 0 ≤ i ∧ i ≤ 9999) : plB (.int i) = true := pl_small (Nat.lt_of_lt_of_le (show _ < 2 ^ 14 by omega) (pow_le' (by decide)))
theorem GdV.ok {g : Gd} (h : GdV g) : isGoingD (gdD g) = true ∧ plB (gdD g) = true ∧ dep (gdD g) = 1 := by
  refine ⟨?_, ?_, rfl⟩
  · have e : isGoingD (gdD g) = (isWord g.name && isWord g.fr && isWord g.to && (!(g.fr == g.to) && isWholeD (.int g.lv) 0 999 && isWholeD (.int g.cm) 0 999) && (decide (g.lv < g.cm) && isWholeD (.int g.seats) 1 9)) := rfl
    rw [e, h.name, h.fr, h.to, h.ne, whole_ok h.lv, whole_ok h.cm, whole_ok h.seats, decide_eq_true h.lt]; rfl
  · have e : plB (gdD g) = ((plB (.str g.name) && (plB (.str g.fr) && (plB (.str g.to) && (plB (.int g.lv) && (plB (.int g.cm) && (plB (.int g.seats) && true)))))) && decide (6 ≤ 1000)) := rfl
    have := h.lv; have := h.cm; have := h.seats
    rw [e, (word_ok h.name).2.2, (word_ok h.fr).2.2, (word_ok h.to).2.2, pl_999 (by omega), pl_999 (by omega), pl_999 (by omega)]; rfl
structure KV (fare : Int) (ch : Rat) (rank : Int) (ask : Option Int) : Prop where
  fare : 0 ≤ fare ∧ fare ≤ 999
  pos : 0 < ch
  le : ch ≤ 1
  den : ch.den < 2 ^ 2000
  rank : 0 ≤ rank ∧ rank ≤ 9
  ask : ∀ a, ask = some a → 0 ≤ a ∧ a ≤ 999
theorem KV.kind {fare : Int} {ch : Rat} {rank : Int} {ask : Option Int} (h : KV fare ch rank ask) : plB (kindD fare ch rank ask) = true ∧ isKindD (kindD fare ch rank ask) = true := kind_ok fare ch rank ask h.fare h.pos h.le h.den h.rank h.ask
theorem KOk.kv {fare : Int} {ch : Rat} {rank : Int} {ask : Option Int} (h : KOk fare ch rank ask) : KV fare ch rank ask :=
  ⟨by have := h.fare; omega, h.ch.pos, h.ch.le, Nat.lt_of_le_of_lt h.ch.den (Nat.lt_of_lt_of_le (show 7 < 2 ^ 3 by decide) (pow_le' (by decide))), by have := h.rank; omega, fun a e => by have := h.ask a e; omega⟩
structure BkV (names : List Str) (b : Bk) : Prop where
  name : isWord b.name = true
  going : names.contains b.going = true
  gw : isWord b.going = true
  k : KV b.fare b.ch b.rank b.ask
theorem BkV.ok {names : List Str} {b : Bk} (h : BkV names b) : isBookingD names (bkD b) = true ∧ plB (bkD b) = true ∧ dep (bkD b) ≤ 2 := by
  obtain ⟨k1, k2⟩ := h.k.kind
  refine ⟨?_, ?_, ?_⟩
  · have e : isBookingD names (bkD b) = (isWord b.name && (names.contains b.going && isKindD (kindD b.fare b.ch b.rank b.ask))) := rfl
    rw [e, h.name, h.going, k2]; rfl
  · have e1 : plB (kindD b.fare b.ch b.rank b.ask) = ((plB (.int b.fare) && (plB (rd b.ch) && (plB (.int b.rank) && (plB (askD b.ask) && true)))) && decide (4 ≤ 1000)) := rfl
    rw [e1] at k1
    simp only [Bool.and_eq_true] at k1
    have e : plB (bkD b) = ((plB (.str b.name) && (plB (.str b.going) && (plB (.int b.fare) && (plB (rd b.ch) && (plB (.int b.rank) && (plB (askD b.ask) && true)))))) && decide (6 ≤ 1000)) := rfl
    rw [e, (word_ok h.name).2.2, (word_ok h.gw).2.2, k1.1.1, k1.1.2.1, k1.1.2.2.1, k1.1.2.2.2.1]; rfl
  · have e : dep (bkD b) = max 0 (max 0 (max 0 (max 1 (max 0 (max (dep (askD b.ask)) 0))))) + 1 := rfl
    have e2 : dep (askD b.ask) = 0 := by cases b.ask <;> rfl
    rw [e, e2]; decide
structure TabV (rows : List (Int × Int)) : Prop where
  in1 : ∀ p ∈ rows, (0 ≤ p.1 ∧ p.1 ≤ 9999) ∧ (0 ≤ p.2 ∧ p.2 ≤ 9999)
  r1 : riseI (rows.map (·.1)) = true
  r2 : riseI (rows.map (·.2)) = true
  first : ∃ q r, rows = (0, q) :: r
  len : rows.length ≤ 1000
theorem rowsOf_emb : ∀ rows : List (Int × Int), rowsOf (rows.map rowD) = rows
  | [] => rfl
  | p :: r => by
    have e : rowsOf ((p :: r).map rowD) = (p.1, p.2) :: rowsOf (r.map rowD) := rfl
    rw [e, rowsOf_emb r]
theorem plBs_all {ds : List D} (h : ∀ d ∈ ds, plB d = true) : plBs ds = true := by
  induction ds with
  | nil => rfl
  | cons d ds ih => rw [plBs, h d List.mem_cons_self, ih fun x hx => h x (List.mem_cons_of_mem _ hx)]; rfl
theorem TabV.ok {rows : List (Int × Int)} (h : TabV rows) (w : Str) (hw : w = "own" ∨ w = "last") : isRuleD (.tup [.str w, .tup (rows.map rowD)]) = true ∧ plB (.tup [.str w, .tup (rows.map rowD)]) = true ∧ dep (.tup [.str w, .tup (rows.map rowD)]) ≤ 4 := by
  have hr : (rows.map rowD).all isRowD = true := by
    rw [List.all_eq_true]
    intro d hd
    obtain ⟨p, hp, rfl⟩ := List.mem_map.mp hd
    obtain ⟨h1, h2⟩ := h.in1 p hp
    have e : isRowD (rowD p) = (isWholeD (.int p.1) 0 9999 && isWholeD (.int p.2) 0 9999) := rfl
    rw [e, whole_ok h1, whole_ok h2]; rfl
  have hpl : ∀ d ∈ rows.map rowD, plB d = true := fun d hd => by
    obtain ⟨p, hp, rfl⟩ := List.mem_map.mp hd
    obtain ⟨h1, h2⟩ := h.in1 p hp
    have e : plB (rowD p) = ((plB (.int p.1) && (plB (.int p.2) && true)) && decide (2 ≤ 1000)) := rfl
    rw [e, pl_999 h1, pl_999 h2]; rfl
  obtain ⟨q, r, hq⟩ := h.first
  refine ⟨?_, ?_, ?_⟩
  · have e : isRuleD (.tup [.str w, .tup (rows.map rowD)]) = ((w == "own" || w == "last") && ((rows.map rowD).all isRowD && (riseI ((rowsOf (rows.map rowD)).map (·.1)) && (riseI ((rowsOf (rows.map rowD)).map (·.2)) && (match rowsOf (rows.map rowD) with
      | p :: _ => p.1 == 0
      | [] => false))))) := rfl
    have ew : (w == "own" || w == "last") = true := by rcases hw with rfl | rfl <;> decide
    rw [e, hr, rowsOf_emb, h.r1, h.r2, hq, ew]
    rfl
  · have e : plB (.tup [.str w, .tup (rows.map rowD)]) = ((plB (.str w) && ((plBs (rows.map rowD) && decide ((rows.map rowD).length ≤ 1000)) && true)) && decide (2 ≤ 1000)) := rfl
    have hw' : plB (.str w) = true := by rcases hw with rfl | rfl <;> decide +kernel
    have hl := h.len
    rw [e, hw', plBs_all hpl, decide_eq_true (by simpa using hl)]; rfl
  · have e : dep (.tup [.str w, .tup (rows.map rowD)]) = max 0 (max (deps (rows.map rowD) + 1) 0) + 1 := rfl
    have : deps (rows.map rowD) ≤ 1 := deps_all fun d hd => by
      obtain ⟨p, hp, rfl⟩ := List.mem_map.mp hd
      exact Nat.le_refl _
    rw [e]; omega
theorem namesD_gd (gs : List Gd) : namesD (gs.map gdD) = gs.map (·.name) := by
  unfold namesD
  rw [List.map_map]; rfl
theorem namesD_bk (bs : List Bk) : namesD (bs.map bkD) = bs.map (·.name) := by
  unfold namesD
  rw [List.map_map]; rfl
structure HV (gs : List Gd) (bs : List Bk) (w : Str) (rows : List (Int × Int)) : Prop where
  gl : 1 ≤ gs.length ∧ gs.length ≤ 6
  g : ∀ g ∈ gs, GdV g
  gr : riseS (gs.map (·.name)) = true
  bl : bs.length ≤ 12
  b : ∀ b ∈ bs, BkV (gs.map (·.name)) b
  br : riseS (bs.map (·.name)) = true
  w : w = "own" ∨ w = "last"
  t : TabV rows
theorem HV.ok {gs : List Gd} {bs : List Bk} {w : Str} {rows : List (Int × Int)} (h : HV gs bs w rows) : HOk gs bs w rows := by
  obtain ⟨t1, t2, t3⟩ := h.t.ok w h.w
  have gl := h.gl
  have bl := h.bl
  refine ⟨?_, ?_, ?_⟩
  · have e : isHouseD (houseD gs bs w rows) = ((decide (1 ≤ (gs.map gdD).length) && decide ((gs.map gdD).length ≤ 6) && (gs.map gdD).all isGoingD) && ((riseS (namesD (gs.map gdD)) && decide ((bs.map bkD).length ≤ 12) && (bs.map bkD).all (isBookingD (namesD (gs.map gdD)))) && (riseS (namesD (bs.map bkD)) && isRuleD (.tup [.str w, .tup (rows.map rowD)])))) := rfl
    have e1 : (gs.map gdD).all isGoingD = true := by
      rw [List.all_eq_true]
      intro d hd
      obtain ⟨g, hg, rfl⟩ := List.mem_map.mp hd
      exact (h.g g hg).ok.1
    have e2 : (bs.map bkD).all (isBookingD (gs.map (·.name))) = true := by
      rw [List.all_eq_true]
      intro d hd
      obtain ⟨b, hb, rfl⟩ := List.mem_map.mp hd
      exact (h.b b hb).ok.1
    rw [e, namesD_gd, namesD_bk, List.length_map, List.length_map, decide_eq_true gl.1, decide_eq_true gl.2, e1, h.gr, decide_eq_true bl, e2, h.br, t1]; rfl
  · have e : plB (houseD gs bs w rows) = (((plBs (gs.map gdD) && decide ((gs.map gdD).length ≤ 1000)) && ((plBs (bs.map bkD) && decide ((bs.map bkD).length ≤ 1000)) && (plB (.tup [.str w, .tup (rows.map rowD)]) && true))) && decide (3 ≤ 1000)) := rfl
    rw [e, plBs_all fun d hd => by
      obtain ⟨g, hg, rfl⟩ := List.mem_map.mp hd
      exact (h.g g hg).ok.2.1, plBs_all fun d hd => by
      obtain ⟨b, hb, rfl⟩ := List.mem_map.mp hd
      exact (h.b b hb).ok.2.1, t2, List.length_map, List.length_map, decide_eq_true (show gs.length ≤ 1000 by omega), decide_eq_true (show bs.length ≤ 1000 by omega)]
    rfl
  · have e : dep (houseD gs bs w rows) = max (deps (gs.map gdD) + 1) (max (deps (bs.map bkD) + 1) (max (dep (.tup [.str w, .tup (rows.map rowD)])) 0)) + 1 := rfl
    have e1 : deps (gs.map gdD) ≤ 1 := deps_all fun d hd => by
      obtain ⟨g, hg, rfl⟩ := List.mem_map.mp hd
      exact Nat.le_of_eq (h.g g hg).ok.2.2
    have e2 : deps (bs.map bkD) ≤ 2 := deps_all fun d hd => by
      obtain ⟨b, hb, rfl⟩ := List.mem_map.mp hd
      exact (h.b b hb).ok.2.2
    rw [e]; omega
end L2.Z
set_option Elab.async false
set_option linter.all false
set_option maxRecDepth 100000
set_option maxHeartbeats 4000000
set_option exponentiation.threshold 9000
/-! ### draws: goings, tables, houses -/
namespace L2.Z
open PySem
def L_goings_turn (draw pick : Nat) : List S := [.asg (.nm 5 x0 p0) (.call pick x0 p0 [(.var 0 x0 p0), (.var 1 x0 p0), (.lst [(.tup [(.cst (.str "ayr") 0 p0), (.cst (.str "bex") 0 p0)] 0 p0), (.tup [(.cst (.str "ayr") 0 p0), (.cst (.str "bex") 0 p0)] 0 p0), (.tup [(.cst (.str "ayr") 0 p0), (.cst (.str "cog") 0 p0)] 0 p0), (.tup [(.cst (.str "cog") 0 p0), (.cst (.str "bex") 0 p0)] 0 p0), (.tup [(.cst (.str "bex") 0 p0), (.cst (.str "ayr") 0 p0)] 0 p0)] p0)] p0) p0, .asg (.nm 6 x0 p0) (.call pick x0 p0 [(.var 0 x0 p0), (.var 1 x0 p0), (.lst [(.cst (.int 15) 0 p0), (.cst (.int 30) 0 p0), (.call draw x0 p0 [(.var 0 x0 p0), (.var 1 x0 p0), (.cst (.int 40) 0 p0)] p0), (.call draw x0 p0 [(.var 0 x0 p0), (.var 1 x0 p0), (.cst (.int 40) 0 p0)] p0)] p0)] p0) p0, .asg (.nm 7 x0 p0) (.bin .Add (.bin .Add (.var 6 x0 p0) (.cst (.int 1) 0 p0) p0) (.call draw x0 p0 [(.var 0 x0 p0), (.var 1 x0 p0), (.cst (.int 20) 0 p0)] p0) p0) p0, .ifs (.cmp .Gt (.call draw x0 p0 [(.var 0 x0 p0), (.var 1 x0 p0), (.cst (.int 3) 0 p0)] p0) (.cst (.int 0) 0 p0) p0) [.asg (.nm 7 x0 p0) (.bin .Add (.bin .Mult (.bin .FloorDiv (.var 7 x0 p0) (.cst (.int 15) 0 p0) p0) (.cst (.int 15) 0 p0) p0) (.cst (.int 15) 0 p0) p0) p0] [] p0, .app 3 x0 p0 p0 (.tup [(.sub (.cst (.str "ghijkl") 0 p0) (.var 4 x0 p0) p0), (.sub (.var 5 x0 p0) (.cst (.int 0) 0 p0) p0), (.sub (.var 5 x0 p0) (.cst (.int 1) 0 p0) p0), (.var 6 x0 p0), (.var 7 x0 p0), (.bin .Add (.cst (.int 1) 0 p0) (.call draw x0 p0 [(.var 0 x0 p0), (.var 1 x0 p0), (.cst (.int 3) 0 p0)] p0) p0)] 0 p0) p0 p0]
def L_goings (draw pick : Nat) : List S := [
  .own 3 x0 p0 (.lst [] p0) p0,
  .fors (.nm 4 x0 p0) (.rng p0 p0) [(.bin .Add (.cst (.int 1) 0 p0) (.call draw x0 p0 [(.var 0 x0 p0), (.var 1 x0 p0), (.var 2 x0 p0)] p0) p0)] (L_goings_turn draw pick) p0,
  .ret (.blt .tuple p0 [(.var 3 x0 p0)] p0) p0]
def L_table_turn (draw pick : Nat) : List S := [.asg (.nm 4 x0 p0) (.call pick x0 p0 [(.var 0 x0 p0), (.var 1 x0 p0), (.lst [(.cst (.int 15) 0 p0), (.cst (.int 15) 0 p0), (.bin .Add (.cst (.int 1) 0 p0) (.call draw x0 p0 [(.var 0 x0 p0), (.var 1 x0 p0), (.cst (.int 15) 0 p0)] p0) p0)] p0)] p0) p0, .app 2 x0 p0 p0 (.tup [(.bin .Add (.sub (.sub (.var 2 x0 p0) (.neg (.cst (.int 1) 0 p0) p0) p0) (.cst (.int 0) 0 p0) p0) (.var 4 x0 p0) p0), (.bin .Add (.bin .Add (.sub (.sub (.var 2 x0 p0) (.neg (.cst (.int 1) 0 p0) p0) p0) (.cst (.int 1) 0 p0) p0) (.cst (.int 1) 0 p0) p0) (.call draw x0 p0 [(.var 0 x0 p0), (.var 1 x0 p0), (.cst (.int 50) 0 p0)] p0) p0)] 0 p0) p0 p0]
def L_table (draw pick : Nat) : List S := [
  .own 2 x0 p0 (.lst [(.tup [(.cst (.int 0) 0 p0), (.call draw x0 p0 [(.var 0 x0 p0), (.var 1 x0 p0), (.cst (.int 30) 0 p0)] p0)] 0 p0)] p0) p0,
  .fors (.nm 3 x0 p0) (.rng p0 p0) [(.call draw x0 p0 [(.var 0 x0 p0), (.var 1 x0 p0), (.cst (.int 3) 0 p0)] p0)] (L_table_turn draw pick) p0,
  .ret (.blt .tuple p0 [(.var 2 x0 p0)] p0) p0]
def L_house (goings draw booking pick table : Nat) : List S := [
  .asg (.nm 4 x0 p0) (.call goings x0 p0 [(.var 0 x0 p0), (.var 1 x0 p0), (.var 2 x0 p0)] p0) p0,
  .asg (.nm 5 x0 p0) (.slc (.cst (.str "abcdefmnopqr") 0 p0) none (some (.bin .Add (.cst (.int 1) 0 p0) (.call draw x0 p0 [(.var 0 x0 p0), (.var 1 x0 p0), (.var 3 x0 p0)] p0) p0)) p0 p0) p0,
  .asg (.nm 6 x0 p0) (.blt .tuple p0 [(.lc (.call booking x0 p0 [(.var 0 x0 p0), (.var 1 x0 p0), (.var 8 x0 p0), (.var 4 x0 p0)] p0) (.nm 8 x0 p0) .one [(.var 5 x0 p0)] [] sc0 [(x0, 7), (x0, 8)] p0)] p0) p0,
  .ret (.tup [(.var 4 x0 p0), (.var 6 x0 p0), (.tup [(.call pick x0 p0 [(.var 0 x0 p0), (.var 1 x0 p0), (.lst [(.cst (.str "own") 0 p0), (.cst (.str "last") 0 p0)] p0)] p0), (.call table x0 p0 [(.var 0 x0 p0), (.var 1 x0 p0)] p0)] 0 p0)] 0 p0) p0]
/-- names of goings, by their place -/
def gname (k : Nat) : Str := ⟨#[103 + k]⟩
def EndsOk (a b : Str) : Prop := (a, b) = (("ayr" : Str), ("bex" : Str)) ∨ (a, b) = (("ayr" : Str), ("cog" : Str)) ∨ (a, b) = (("cog" : Str), ("bex" : Str)) ∨ (a, b) = (("bex" : Str), ("ayr" : Str))
structure GOk (k : Nat) (g : Gd) : Prop where
  name : g.name = gname k
  ends : EndsOk g.fr g.to
  lv : 0 ≤ g.lv ∧ g.lv < 40
  cm : g.lv < g.cm ∧ g.cm ≤ 75
  seats : ∃ s : Nat, g.seats = (s : Int) ∧ 1 ≤ s ∧ s ≤ 3
def GsOk (gs : List Gd) : Prop := ∀ k g, gs[k]? = some g → GOk k g
theorem GsOk.nil : GsOk [] := fun k g h => by simp at h
theorem GsOk.snoc {gs : List Gd} {g : Gd} (h : GsOk gs) (hg : GOk gs.length g) : GsOk (gs ++ [g]) := fun k x hx => by
  by_cases e : k < gs.length
  · rw [List.getElem?_append_left e] at hx
    exact h k x hx
  · rw [List.getElem?_append_right (by omega)] at hx
    have : k = gs.length := by
      have := (List.getElem?_eq_some_iff.mp hx).1
      simp at this; omega
    subst this
    simp at hx
    subst hx; exact hg
theorem g_letter : ∀ k : Nat, k < 6 → ∀ M, subD M (.str "ghijkl") (.int (k : Int)) = some (.str (gname k)) := by
  intro k hk M
  have : ∀ k : Fin 6, subD [] (.str "ghijkl") (.int ((k : Nat) : Int)) = some (.str (gname k)) := by
    intro k
    match k with
    | ⟨0, _⟩ => rfl
    | ⟨1, _⟩ => rfl
    | ⟨2, _⟩ => rfl
    | ⟨3, _⟩ => rfl
    | ⟨4, _⟩ => rfl
    | ⟨5, _⟩ => rfl
  exact this ⟨k, hk⟩
section
variable {T : Nat → Option Fn} {sub : Nat → Nat → Bool}
theorem goings_turn {fd fp : Nat} (hd : Has T fd 3 6 L_draw) (hp : Has T fp 3 3 (L_pick fd)) {ns : List Int} (hl : ns.length ≤ 63) {b : Nat} {M' M : Mem} (t : Town ns b M' M) (hb : b + 7 < 2 ^ 50) (gs : List Gd) (hg : gs.length < 6) (n : Nat) (hn : 2 ≤ n) (o2 o5 o6 o7 : Option D) :
    ∃ (g : Gd) (M1 : Mem) (o5' o6' o7' : Option D), exs ⟨callF T sub FUEL n, sub, FUEL⟩ (L_goings_turn fd fp) [some (.ext (ns.map .int)), some (.ref 0), o2, some (.own (gs.map gdD)), some (.int (gs.length : Nat)), o5, o6, o7] M = .ok (.nx [some (.ext (ns.map .int)), some (.ref 0), o2, some (.own ((gs ++ [g]).map gdD)), some (.int (gs.length : Nat)), o5', o6', o7']) M1 ∧ Town ns (b + 7) M' M1 ∧ GOk gs.length g := by
  obtain ⟨x, M1, e1, t1, h1⟩ := run_pickT (sub := sub) hd hp hl t (by omega) [.tup [.str "ayr", .str "bex"], .tup [.str "ayr", .str "bex"], .tup [.str "ayr", .str "cog"], .tup [.str "cog", .str "bex"], .tup [.str "bex", .str "ayr"]] (show 0 < 5 by decide) (show 5 ≤ 1000 by decide) (fun x hx => by
    simp only [List.mem_cons, List.not_mem_nil, or_false] at hx
    rcases hx with rfl | rfl | rfl | rfl | rfl <;> rfl) n (by omega)
  obtain ⟨a, z, rfl, hends⟩ : ∃ a z, x = .tup [.str a, .str z] ∧ EndsOk a z := by
    simp only [List.mem_cons, List.not_mem_nil, or_false] at h1
    rcases h1 with rfl | rfl | rfl | rfl | rfl
    · exact ⟨_, _, rfl, .inl rfl⟩
    · exact ⟨_, _, rfl, .inl rfl⟩
    · exact ⟨_, _, rfl, .inr (.inl rfl)⟩
    · exact ⟨_, _, rfl, .inr (.inr (.inl rfl))⟩
    · exact ⟨_, _, rfl, .inr (.inr (.inr rfl))⟩
  obtain ⟨v2, M2, e2, t2, h2⟩ := run_drawT (sub := sub) hd hl t1 (by omega) 40 (by decide) (by decide) n (by omega)
  obtain ⟨v3, M3, e3, t3, h3⟩ := run_drawT (sub := sub) hd hl t2 (by omega) 40 (by decide) (by decide) n (by omega)
  obtain ⟨y, M4, e4, t4, h4⟩ := run_pickT (sub := sub) hd hp hl t3 (by omega) [.int 15, .int 30, .int (v2 : Int), .int (v3 : Int)] (show 0 < 4 by decide) (show 4 ≤ 1000 by decide) (fun x hx => by
    simp only [List.mem_cons, List.not_mem_nil, or_false] at hx
    rcases hx with rfl | rfl | rfl | rfl <;> rfl) n (by omega)
  obtain ⟨lv, rfl, hlv⟩ : ∃ lv : Int, y = .int lv ∧ 0 ≤ lv ∧ lv < 40 := by
    simp only [List.mem_cons, List.not_mem_nil, or_false] at h4
    rcases h4 with rfl | rfl | rfl | rfl
    · exact ⟨_, rfl, by decide⟩
    · exact ⟨_, rfl, by decide⟩
    · exact ⟨_, rfl, by omega⟩
    · exact ⟨_, rfl, by omega⟩
  obtain ⟨v5, M5, e5, t5, h5⟩ := run_drawT (sub := sub) hd hl t4 (by omega) 20 (by decide) (by decide) n (by omega)
  obtain ⟨v6, M6, e6, t6, h6⟩ := run_drawT (sub := sub) hd hl t5 (by omega) 3 (by decide) (by decide) n (by omega)
  obtain ⟨v7, M7, e7, t7, h7⟩ := run_drawT (sub := sub) hd hl t6 (by omega) 3 (by decide) (by decide) n (by omega)
  have e2' : callF T sub FUEL n fd [.ext (ns.map .int), .ref 0, .int 40] M1 = .ok (.int (v2 : Int)) M2 := e2
  have e3' : callF T sub FUEL n fd [.ext (ns.map .int), .ref 0, .int 40] M2 = .ok (.int (v3 : Int)) M3 := e3
  have e5' : callF T sub FUEL n fd [.ext (ns.map .int), .ref 0, .int 20] M4 = .ok (.int (v5 : Int)) M5 := e5
  have e6' : callF T sub FUEL n fd [.ext (ns.map .int), .ref 0, .int 3] M5 = .ok (.int (v6 : Int)) M6 := e6
  have e7' : callF T sub FUEL n fd [.ext (ns.map .int), .ref 0, .int 3] M6 = .ok (.int (v7 : Int)) M7 := e7
  have ll : ((gs.map gdD).length < sizeLine) = True := eq_true (Nat.lt_of_lt_of_le (show _ < 7 by simp; omega) (by decide))
  have gl := g_letter gs.length hg
  have e7'' : (1 : Int) + (v7 : Int) = ((v7 + 1 : Nat) : Int) := by omega
  by_cases hv : (0 : Int) < (v6 : Int)
  · refine ⟨⟨gname gs.length, a, z, lv, (lv + 1 + (v5 : Int)) / 15 * 15 + 15, ((v7 + 1 : Nat) : Int)⟩, M7, some (.tup [.str a, .str z]), some (.int lv), some (.int ((lv + 1 + (v5 : Int)) / 15 * 15 + 15)), ?_, t7, ⟨rfl, hends, hlv, ⟨by dsimp only; omega, by dsimp only; omega⟩, v7 + 1, rfl, by omega, by omega⟩⟩
    have mu : ∀ M, binD .Mult M (.int ((lv + 1 + (v5 : Int)) / 15)) (.int 15) = some (.int ((lv + 1 + (v5 : Int)) / 15 * 15)) := fun M => mul_int M _ _ (lt_big (k := 10) (by omega) (by decide)) (lt_big (k := 10) (by decide) (by decide))
    unfold L_goings_turn
    simp only [ends_rtN, ends_nxN, ends_excN, bind_okN, bind_excN, ret_someN, retB_someN, retL_someN, retE_someN, ev_var, ev_cst, ev_gint, ev_gstr, ev_gfn, ev_bin, ev_neg, ev_not, ev_bop, ev_cmp, ev_chain, ev_ite, ev_call, ev_isi, ev_blt, ev_mth, ev_sub, ev_slc, ev_tup, ev_lst, ev_lc, ev_live, ev_srt, ev_srk, evs_nil, evs_cons, evx_nil, evx_cons, evO_none, evO_some, evB_one, evB_and, evB_or, evT_nil, evT_one, exs_nil, exs_cons, nxt_nxN, nxt_rtN, nxt_excN, ex_asg, ex_own, ex_par, ex_app, ex_exn, ex_sti, ex_sto, ex_aug, ex_exp, ex_ret, ex_ifs, ex_fors, ex_whl, ex_rse, ex_tri, ex_frz, cstD, Tg.put, Tg.puts, startD, wipeD, kept_intN, kept_blN, kept_strN, kept_nonN, kept_tupN, kept_lstN, kept_extN, kept_refN, kept_fnN, kept_excN, cmp_eq_int, cmp_ne_int, cmp_lt_intN, cmp_le_intN, cmp_gt_intN, cmp_ge_intN, List.map_cons, List.map_nil, List.length_cons, List.length_nil, Nat.reduceAdd, Nat.reduceSub, Nat.reduceLeDiff, List.replicate, List.cons_append, List.nil_append, List.append_nil, List.getElem?_cons_zero, List.getElem?_cons_succ, List.getElem?_nil, List.set_cons_zero, List.set_cons_succ, List.all_cons, List.all_nil, nown, Bool.and_true, Bool.true_and, Bool.and_false, Bool.false_and, if_true, if_false, Bool.false_eq_true, Bool.not_true, Bool.not_false, reduceIte, len6, Int.cast_ofNat_Int, beq_self_eq_true, Int.reduceBEq, Int.reduceAdd, Int.reduceNeg, decide_true, decide_false, Int.reduceLT, Int.reduceLE, Int.reduceToNat, e1, e2', e3', e4, e5', e6', e7', add_int, decide_eq_true hv, div_int _ _ 15 (by decide) (lt_big8 (k := 10) (by decide) (by decide)), mu, gl, sub_t0, sub_t1, ll, e7'']
    rw [List.map_append]
    rfl
  · refine ⟨⟨gname gs.length, a, z, lv, lv + 1 + (v5 : Int), ((v7 + 1 : Nat) : Int)⟩, M7, some (.tup [.str a, .str z]), some (.int lv), some (.int (lv + 1 + (v5 : Int))), ?_, t7, ⟨rfl, hends, hlv, ⟨by dsimp only; omega, by dsimp only; omega⟩, v7 + 1, rfl, by omega, by omega⟩⟩
    unfold L_goings_turn
    simp only [ends_rtN, ends_nxN, ends_excN, bind_okN, bind_excN, ret_someN, retB_someN, retL_someN, retE_someN, ev_var, ev_cst, ev_gint, ev_gstr, ev_gfn, ev_bin, ev_neg, ev_not, ev_bop, ev_cmp, ev_chain, ev_ite, ev_call, ev_isi, ev_blt, ev_mth, ev_sub, ev_slc, ev_tup, ev_lst, ev_lc, ev_live, ev_srt, ev_srk, evs_nil, evs_cons, evx_nil, evx_cons, evO_none, evO_some, evB_one, evB_and, evB_or, evT_nil, evT_one, exs_nil, exs_cons, nxt_nxN, nxt_rtN, nxt_excN, ex_asg, ex_own, ex_par, ex_app, ex_exn, ex_sti, ex_sto, ex_aug, ex_exp, ex_ret, ex_ifs, ex_fors, ex_whl, ex_rse, ex_tri, ex_frz, cstD, Tg.put, Tg.puts, startD, wipeD, kept_intN, kept_blN, kept_strN, kept_nonN, kept_tupN, kept_lstN, kept_extN, kept_refN, kept_fnN, kept_excN, cmp_eq_int, cmp_ne_int, cmp_lt_intN, cmp_le_intN, cmp_gt_intN, cmp_ge_intN, List.map_cons, List.map_nil, List.length_cons, List.length_nil, Nat.reduceAdd, Nat.reduceSub, Nat.reduceLeDiff, List.replicate, List.cons_append, List.nil_append, List.append_nil, List.getElem?_cons_zero, List.getElem?_cons_succ, List.getElem?_nil, List.set_cons_zero, List.set_cons_succ, List.all_cons, List.all_nil, nown, Bool.and_true, Bool.true_and, Bool.and_false, Bool.false_and, if_true, if_false, Bool.false_eq_true, Bool.not_true, Bool.not_false, reduceIte, len6, Int.cast_ofNat_Int, beq_self_eq_true, Int.reduceBEq, Int.reduceAdd, Int.reduceNeg, decide_true, decide_false, Int.reduceLT, Int.reduceLE, Int.reduceToNat, e1, e2', e3', e4, e5', e6', e7', add_int, decide_eq_false hv, gl, sub_t0, sub_t1, ll, e7'']
    rw [List.map_append]
    rfl
theorem goings_loop {fd fp : Nat} (hd : Has T fd 3 6 L_draw) (hp : Has T fp 3 3 (L_pick fd)) {ns : List Int} (hl : ns.length ≤ 63) (n : Nat) (hn : 2 ≤ n) (o2 : Option D) (M' : Mem) : ∀ (m : Nat) (gs : List Gd) (b : Nat) (M : Mem) (o4 o5 o6 o7 : Option D), Town ns b M' M → b + 7 * m < 2 ^ 50 → gs.length + m ≤ 6 → GsOk gs →
    ∃ (gs' : List Gd) (M1 : Mem) (o4' o5' o6' o7' : Option D), forW ⟨callF T sub FUEL n, sub, FUEL⟩ [some (.ext (ns.map .int)), some (.ref 0), o2, some (.own (gs.map gdD)), o4, o5, o6, o7] M (.nm 4 x0 p0) (L_goings_turn fd fp) ((List.range' gs.length m).map fun k => .int (k : Nat)) = .ok (.nx [some (.ext (ns.map .int)), some (.ref 0), o2, some (.own (gs'.map gdD)), o4', o5', o6', o7']) M1 ∧ Town ns (b + 7 * m) M' M1 ∧ GsOk gs' ∧ gs'.length = gs.length + m
  | 0, gs, b, M, o4, o5, o6, o7, t, _, _, hg => ⟨gs, M, o4, o5, o6, o7, rfl, t, hg, rfl⟩
  | m + 1, gs, b, M, o4, o5, o6, o7, t, hb, hm, hg => by
    obtain ⟨g, M1, p5, p6, p7, e, t1, hgo⟩ := goings_turn (sub := sub) hd hp hl t (by omega) gs (by omega) n hn o2 o5 o6 o7
    obtain ⟨gs', M2, q4, q5, q6, q7, e2, t2, h2, h3⟩ := goings_loop hd hp hl n hn o2 M' m (gs ++ [g]) (b + 7) M1 (some (.int (gs.length : Nat))) p5 p6 p7 t1 (by omega) (by simp; omega) (hg.snoc hgo)
    refine ⟨gs', M2, q4, q5, q6, q7, ?_, t2.mono (by omega), h2, by rw [h3]; simp; omega⟩
    rw [List.range'_succ, List.map_cons, forW_cons]
    simp only [Tg.put, List.set_cons_succ, List.set_cons_zero]
    rw [e, bind_okN]
    rw [List.length_append, List.length_singleton] at e2
    exact e2
theorem rng_int (m : Nat) (h : m ≤ 1000) (px p : Pos) : srcD (.rng px p) [.int (m : Int)] = some ((List.range' 0 m).map fun k => .int (k : Nat)) := by
  rw [rng_nat m h, List.range_eq_range']
theorem run_goings {f fd fp : Nat} (hd : Has T fd 3 6 L_draw) (hp : Has T fp 3 3 (L_pick fd)) (h : Has T f 3 8 (L_goings fd fp)) {ns : List Int} (hl : ns.length ≤ 63) {b : Nat} {M' M : Mem} (t : Town ns b M' M) (hb : b + 50 < 2 ^ 50) (mg : Nat) (h0 : 0 < mg) (h1 : mg ≤ 6) (n : Nat) (hn : 3 ≤ n) :
    ∃ (gs : List Gd) (M1 : Mem), callF T sub FUEL n f [.ext (ns.map .int), .ref 0, .int (mg : Int)] M = .ok (.tup (gs.map gdD)) M1 ∧ Town ns (b + 50) M' M1 ∧ GsOk gs ∧ 1 ≤ gs.length ∧ gs.length ≤ mg := by
  obtain ⟨j, rfl⟩ : ∃ j, n = j + 1 := ⟨n - 1, by omega⟩
  obtain ⟨v, M1, e1, t1, hv⟩ := run_drawT (sub := sub) hd hl t (by omega) mg h0 (Nat.lt_of_le_of_lt h1 (by decide)) j (by omega)
  obtain ⟨gs, M2, q4, q5, q6, q7, e2, t2, h2, h3⟩ := goings_loop (sub := sub) hd hp hl j (by omega) (some (.int (mg : Int))) M' (v + 1) [] (b + 1) M1 none none none none t1 (by omega) (by simp; omega) GsOk.nil
  refine ⟨gs, M2, ?_, t2.mono (by omega), h2, by simp at h3; omega, by simp at h3; omega⟩
  have ec : (1 : Int) + (v : Int) = ((v + 1 : Nat) : Int) := by omega
  have tp : ∀ M, bltD .tuple M [.own (gs.map gdD)] = some (.tup (gs.map gdD)) := fun M => rfl
  have nw : ∀ i : Int, nown (.int i) = true := fun i => rfl
  rw [run h _ rfl]
  unfold L_goings
  simp only [List.map_nil, List.length_nil] at e2
  simp only [isNew, ends_rtN, ends_nxN, ends_excN, bind_okN, bind_excN, ret_someN, retB_someN, retL_someN, retE_someN, ev_var, ev_cst, ev_gint, ev_gstr, ev_gfn, ev_bin, ev_neg, ev_not, ev_bop, ev_cmp, ev_chain, ev_ite, ev_call, ev_isi, ev_blt, ev_mth, ev_sub, ev_slc, ev_tup, ev_lst, ev_lc, ev_live, ev_srt, ev_srk, evs_nil, evs_cons, evx_nil, evx_cons, evO_none, evO_some, evB_one, evB_and, evB_or, evT_nil, evT_one, exs_nil, exs_cons, nxt_nxN, nxt_rtN, nxt_excN, ex_asg, ex_own, ex_par, ex_app, ex_exn, ex_sti, ex_sto, ex_aug, ex_exp, ex_ret, ex_ifs, ex_fors, ex_whl, ex_rse, ex_tri, ex_frz, cstD, Tg.put, Tg.puts, startD, wipeD, kept_intN, kept_blN, kept_strN, kept_nonN, kept_tupN, kept_lstN, kept_extN, kept_refN, kept_fnN, kept_excN, cmp_eq_int, cmp_ne_int, cmp_lt_intN, cmp_le_intN, cmp_gt_intN, cmp_ge_intN, List.map_cons, List.map_nil, List.length_cons, List.length_nil, Nat.reduceAdd, Nat.reduceSub, Nat.reduceLeDiff, List.replicate, List.cons_append, List.nil_append, List.append_nil, List.getElem?_cons_zero, List.getElem?_cons_succ, List.getElem?_nil, List.set_cons_zero, List.set_cons_succ, List.all_cons, List.all_nil, nown, Bool.and_true, Bool.true_and, Bool.and_false, Bool.false_and, if_true, if_false, Bool.false_eq_true, Bool.not_true, Bool.not_false, reduceIte, len6, Int.cast_ofNat_Int, beq_self_eq_true, Int.reduceBEq, Int.reduceAdd, Int.reduceNeg, decide_true, decide_false, Int.reduceLT, Int.reduceLE, Int.reduceToNat, e1, add_int, ec, rng_int (v + 1) (by omega), e2, tp]
/-! tables -/
theorem atI_last {α : Type} (xs : List α) (x : α) : atI (xs ++ [x]) (-1) = some x := by
  unfold atI
  have : ixN (xs ++ [x]).length (-1) = some xs.length := by
    unfold ixN
    rw [if_neg (by omega), if_pos (by simp; omega)]
    simp
    omega
  rw [this]
  simp
theorem sub_own_last (M : Mem) (xs : List D) (x : D) : subD M (.own (xs ++ [x])) (.int (-1)) = some x := atI_last xs x
theorem table_turn {fd fp : Nat} (hd : Has T fd 3 6 L_draw) (hp : Has T fp 3 3 (L_pick fd)) {ns : List Int} (hl : ns.length ≤ 63) {b : Nat} {M' M : Mem} (t : Town ns b M' M) (hb : b + 3 < 2 ^ 50) (pre : List (Int × Int)) (p : Int × Int) (hl2 : pre.length ≤ 10) (n : Nat) (hn : 2 ≤ n) (o3 o4 : Option D) :
    ∃ (m q : Int) (M1 : Mem) (o4' : Option D), exs ⟨callF T sub FUEL n, sub, FUEL⟩ (L_table_turn fd fp) [some (.ext (ns.map .int)), some (.ref 0), some (.own ((pre ++ [p]).map rowD)), o3, o4] M = .ok (.nx [some (.ext (ns.map .int)), some (.ref 0), some (.own ((pre ++ [p] ++ [(p.1 + m, p.2 + 1 + q)]).map rowD)), o3, o4']) M1 ∧ Town ns (b + 3) M' M1 ∧ (1 ≤ m ∧ m ≤ 15) ∧ 0 ≤ q ∧ q < 50 := by
  obtain ⟨v1, M1, e1, t1, h1⟩ := run_drawT (sub := sub) hd hl t (by omega) 15 (by decide) (by decide) n (by omega)
  obtain ⟨y, M2, e2, t2, h2⟩ := run_pickT (sub := sub) hd hp hl t1 (by omega) [.int 15, .int 15, .int (1 + (v1 : Int))] (show 0 < 3 by decide) (show 3 ≤ 1000 by decide) (fun x hx => by
    simp only [List.mem_cons, List.not_mem_nil, or_false] at hx
    rcases hx with rfl | rfl | rfl <;> rfl) n (by omega)
  obtain ⟨m, rfl, hm⟩ : ∃ m : Int, y = .int m ∧ 1 ≤ m ∧ m ≤ 15 := by
    simp only [List.mem_cons, List.not_mem_nil, or_false] at h2
    rcases h2 with rfl | rfl | rfl
    · exact ⟨_, rfl, by decide⟩
    · exact ⟨_, rfl, by decide⟩
    · exact ⟨_, rfl, by omega⟩
  obtain ⟨v3, M3, e3, t3, h3⟩ := run_drawT (sub := sub) hd hl t2 (by omega) 50 (by decide) (by decide) n (by omega)
  have e1' : callF T sub FUEL n fd [.ext (ns.map .int), .ref 0, .int 15] M = .ok (.int (v1 : Int)) M1 := e1
  have e3' : callF T sub FUEL n fd [.ext (ns.map .int), .ref 0, .int 50] M2 = .ok (.int (v3 : Int)) M3 := e3
  have sl : ∀ M, subD M (.own ((pre ++ [p]).map rowD)) (.int (-1)) = some (rowD p) := fun M => by
    rw [List.map_append]; exact sub_own_last M _ _
  have s0 : ∀ M, subD M (rowD p) (.int 0) = some (.int p.1) := fun M => sub_t0 M _ _
  have s1 : ∀ M, subD M (rowD p) (.int 1) = some (.int p.2) := fun M => sub_t1 M _ _ _
  have ll : (((pre ++ [p]).map rowD).length < sizeLine) = True := eq_true (Nat.lt_of_lt_of_le (show _ < 12 by simp; omega) (by decide))
  refine ⟨m, v3, M3, some (.int m), ?_, t3, hm, by omega, by omega⟩
  unfold L_table_turn
  simp only [ends_rtN, ends_nxN, ends_excN, bind_okN, bind_excN, ret_someN, retB_someN, retL_someN, retE_someN, ev_var, ev_cst, ev_gint, ev_gstr, ev_gfn, ev_bin, ev_neg, ev_not, ev_bop, ev_cmp, ev_chain, ev_ite, ev_call, ev_isi, ev_blt, ev_mth, ev_sub, ev_slc, ev_tup, ev_lst, ev_lc, ev_live, ev_srt, ev_srk, evs_nil, evs_cons, evx_nil, evx_cons, evO_none, evO_some, evB_one, evB_and, evB_or, evT_nil, evT_one, exs_nil, exs_cons, nxt_nxN, nxt_rtN, nxt_excN, ex_asg, ex_own, ex_par, ex_app, ex_exn, ex_sti, ex_sto, ex_aug, ex_exp, ex_ret, ex_ifs, ex_fors, ex_whl, ex_rse, ex_tri, ex_frz, cstD, Tg.put, Tg.puts, startD, wipeD, kept_intN, kept_blN, kept_strN, kept_nonN, kept_tupN, kept_lstN, kept_extN, kept_refN, kept_fnN, kept_excN, cmp_eq_int, cmp_ne_int, cmp_lt_intN, cmp_le_intN, cmp_gt_intN, cmp_ge_intN, List.map_cons, List.map_nil, List.length_cons, List.length_nil, Nat.reduceAdd, Nat.reduceSub, Nat.reduceLeDiff, List.replicate, List.cons_append, List.nil_append, List.append_nil, List.getElem?_cons_zero, List.getElem?_cons_succ, List.getElem?_nil, List.set_cons_zero, List.set_cons_succ, List.all_cons, List.all_nil, nown, Bool.and_true, Bool.true_and, Bool.and_false, Bool.false_and, if_true, if_false, Bool.false_eq_true, Bool.not_true, Bool.not_false, reduceIte, len6, Int.cast_ofNat_Int, beq_self_eq_true, Int.reduceBEq, Int.reduceAdd, Int.reduceNeg, decide_true, decide_false, Int.reduceLT, Int.reduceLE, Int.reduceToNat, e1', add_int, e2, sl, s0, s1, e3', ll]
  rw [List.map_append (l₁ := pre ++ [p])]
  rfl
/-- a drawn table -/
structure TOk (rows : List (Int × Int)) : Prop where
  v : TabV rows
  sm : ∀ p ∈ rows, p.1 < 100 ∧ p.2 < 200
  len : 1 ≤ rows.length ∧ rows.length ≤ 3
theorem tab1 (a : Int) (ha : 0 ≤ a ∧ a < 30) : TOk [(0, a)] := by
  refine ⟨⟨fun p hp => ?_, rfl, rfl, ⟨a, [], rfl⟩, by show 1 ≤ 1000; decide⟩, fun p hp => ?_, by show 1 ≤ 1; decide, by show 1 ≤ 3; decide⟩ <;>
  · rw [List.mem_singleton.mp hp]
    dsimp only
    omega
theorem tab2 (a m q : Int) (ha : 0 ≤ a ∧ a < 30) (hm : 1 ≤ m ∧ m ≤ 15) (hq : 0 ≤ q ∧ q < 50) : TOk [(0, a), (0 + m, a + 1 + q)] := by
  refine ⟨⟨fun p hp => ?_, ?_, ?_, ⟨a, _, rfl⟩, by show 2 ≤ 1000; decide⟩, fun p hp => ?_, by show 1 ≤ 2; decide, by show 2 ≤ 3; decide⟩
  · simp only [List.mem_cons, List.not_mem_nil, or_false] at hp
    rcases hp with rfl | rfl <;> (dsimp only; omega)
  · show (decide ((0 : Int) < 0 + m) && true) = true
    rw [decide_eq_true (by omega)]; rfl
  · show (decide (a < a + 1 + q) && true) = true
    rw [decide_eq_true (by omega)]; rfl
  · simp only [List.mem_cons, List.not_mem_nil, or_false] at hp
    rcases hp with rfl | rfl <;> (dsimp only; omega)
theorem tab3 (a m q m' q' : Int) (ha : 0 ≤ a ∧ a < 30) (hm : 1 ≤ m ∧ m ≤ 15) (hq : 0 ≤ q ∧ q < 50) (hm' : 1 ≤ m' ∧ m' ≤ 15) (hq' : 0 ≤ q' ∧ q' < 50) : TOk [(0, a), (0 + m, a + 1 + q), (0 + m + m', a + 1 + q + 1 + q')] := by
  refine ⟨⟨fun p hp => ?_, ?_, ?_, ⟨a, _, rfl⟩, by show 3 ≤ 1000; decide⟩, fun p hp => ?_, by show 1 ≤ 3; decide, by show 3 ≤ 3; decide⟩
  · simp only [List.mem_cons, List.not_mem_nil, or_false] at hp
    rcases hp with rfl | rfl | rfl <;> (dsimp only; omega)
  · show (decide ((0 : Int) < 0 + m) && (decide (0 + m < 0 + m + m') && true)) = true
    rw [decide_eq_true (by omega), decide_eq_true (by omega)]; rfl
  · show (decide (a < a + 1 + q) && (decide (a + 1 + q < a + 1 + q + 1 + q') && true)) = true
    rw [decide_eq_true (by omega), decide_eq_true (by omega)]; rfl
  · simp only [List.mem_cons, List.not_mem_nil, or_false] at hp
    rcases hp with rfl | rfl | rfl <;> (dsimp only; omega)
theorem run_table {f fd fp : Nat} (hd : Has T fd 3 6 L_draw) (hp : Has T fp 3 3 (L_pick fd)) (h : Has T f 2 5 (L_table fd fp)) {ns : List Int} (hl : ns.length ≤ 63) {b : Nat} {M' M : Mem} (t : Town ns b M' M) (hb : b + 10 < 2 ^ 50) (n : Nat) (hn : 3 ≤ n) :
    ∃ (rows : List (Int × Int)) (M1 : Mem), callF T sub FUEL n f [.ext (ns.map .int), .ref 0] M = .ok (.tup (rows.map rowD)) M1 ∧ Town ns (b + 10) M' M1 ∧ TOk rows := by
  obtain ⟨j, rfl⟩ : ∃ j, n = j + 1 := ⟨n - 1, by omega⟩
  obtain ⟨a, M1, e1, t1, h1⟩ := run_drawT (sub := sub) hd hl t (by omega) 30 (by decide) (by decide) j (by omega)
  obtain ⟨v, M2, e2, t2, h2⟩ := run_drawT (sub := sub) hd hl t1 (by omega) 3 (by decide) (by decide) j (by omega)
  obtain ⟨m, q, M3, o4, e3, t3, hm, hq⟩ := table_turn (sub := sub) hd hp hl t2 (by omega) [] (0, (a : Int)) (by decide) j (by omega) (some (.int 0)) none
  obtain ⟨m', q', M4, o4', e4, t4, hm', hq'⟩ := table_turn (sub := sub) hd hp hl t3 (by omega) [(0, (a : Int))] (0 + m, (a : Int) + 1 + q) (show 1 ≤ 10 by decide) j (by omega) (some (.int 1)) o4
  have ha : (0 : Int) ≤ (a : Int) ∧ (a : Int) < 30 := by omega
  have e1' : callF T sub FUEL j fd [.ext (ns.map .int), .ref 0, .int 30] M = .ok (.int (a : Int)) M1 := e1
  have e2' : callF T sub FUEL j fd [.ext (ns.map .int), .ref 0, .int 3] M1 = .ok (.int (v : Int)) M2 := e2
  have tp : ∀ xs M, bltD .tuple M [.own xs] = some (.tup xs) := fun xs M => rfl
  rw [run h _ rfl]
  unfold L_table
  have hv : v = 0 ∨ v = 1 ∨ v = 2 := by omega
  rcases hv with rfl | rfl | rfl
  · refine ⟨[(0, a)], M2, ?_, t2.mono (by omega), tab1 a ha⟩
    have r : ∀ px p, srcD (.rng px p) [.int ((0 : Nat) : Int)] = some [] := fun px p => rfl
    simp only [isNew, ends_rtN, ends_nxN, ends_excN, bind_okN, bind_excN, ret_someN, retB_someN, retL_someN, retE_someN, ev_var, ev_cst, ev_gint, ev_gstr, ev_gfn, ev_bin, ev_neg, ev_not, ev_bop, ev_cmp, ev_chain, ev_ite, ev_call, ev_isi, ev_blt, ev_mth, ev_sub, ev_slc, ev_tup, ev_lst, ev_lc, ev_live, ev_srt, ev_srk, evs_nil, evs_cons, evx_nil, evx_cons, evO_none, evO_some, evB_one, evB_and, evB_or, evT_nil, evT_one, exs_nil, exs_cons, nxt_nxN, nxt_rtN, nxt_excN, ex_asg, ex_own, ex_par, ex_app, ex_exn, ex_sti, ex_sto, ex_aug, ex_exp, ex_ret, ex_ifs, ex_fors, ex_whl, ex_rse, ex_tri, ex_frz, cstD, Tg.put, Tg.puts, startD, wipeD, kept_intN, kept_blN, kept_strN, kept_nonN, kept_tupN, kept_lstN, kept_extN, kept_refN, kept_fnN, kept_excN, cmp_eq_int, cmp_ne_int, cmp_lt_intN, cmp_le_intN, cmp_gt_intN, cmp_ge_intN, List.map_cons, List.map_nil, List.length_cons, List.length_nil, Nat.reduceAdd, Nat.reduceSub, Nat.reduceLeDiff, List.replicate, List.cons_append, List.nil_append, List.append_nil, List.getElem?_cons_zero, List.getElem?_cons_succ, List.getElem?_nil, List.set_cons_zero, List.set_cons_succ, List.all_cons, List.all_nil, nown, Bool.and_true, Bool.true_and, Bool.and_false, Bool.false_and, if_true, if_false, Bool.false_eq_true, Bool.not_true, Bool.not_false, reduceIte, len6, Int.cast_ofNat_Int, beq_self_eq_true, Int.reduceBEq, Int.reduceAdd, Int.reduceNeg, decide_true, decide_false, Int.reduceLT, Int.reduceLE, Int.reduceToNat, e1', e2', r, forW_nil, tp]
    rfl
  · refine ⟨[(0, a), (0 + m, a + 1 + q)], M3, ?_, t3.mono (by omega), tab2 a m q ha hm hq⟩
    have r : ∀ px p, srcD (.rng px p) [.int 1] = some [.int 0] := fun px p => rfl
    have e3' : exs ⟨callF T sub FUEL j, sub, FUEL⟩ (L_table_turn fd fp) [some (.ext (ns.map .int)), some (.ref 0), some (.own [.tup [.int 0, .int (a : Int)]]), some (.int 0), none] M2 = .ok (.nx [some (.ext (ns.map .int)), some (.ref 0), some (.own ([(0, (a : Int)), (0 + m, (a : Int) + 1 + q)].map rowD)), some (.int 0), o4]) M3 := e3
    simp only [isNew, ends_rtN, ends_nxN, ends_excN, bind_okN, bind_excN, ret_someN, retB_someN, retL_someN, retE_someN, ev_var, ev_cst, ev_gint, ev_gstr, ev_gfn, ev_bin, ev_neg, ev_not, ev_bop, ev_cmp, ev_chain, ev_ite, ev_call, ev_isi, ev_blt, ev_mth, ev_sub, ev_slc, ev_tup, ev_lst, ev_lc, ev_live, ev_srt, ev_srk, evs_nil, evs_cons, evx_nil, evx_cons, evO_none, evO_some, evB_one, evB_and, evB_or, evT_nil, evT_one, exs_nil, exs_cons, nxt_nxN, nxt_rtN, nxt_excN, ex_asg, ex_own, ex_par, ex_app, ex_exn, ex_sti, ex_sto, ex_aug, ex_exp, ex_ret, ex_ifs, ex_fors, ex_whl, ex_rse, ex_tri, ex_frz, cstD, Tg.put, Tg.puts, startD, wipeD, kept_intN, kept_blN, kept_strN, kept_nonN, kept_tupN, kept_lstN, kept_extN, kept_refN, kept_fnN, kept_excN, cmp_eq_int, cmp_ne_int, cmp_lt_intN, cmp_le_intN, cmp_gt_intN, cmp_ge_intN, List.map_cons, List.map_nil, List.length_cons, List.length_nil, Nat.reduceAdd, Nat.reduceSub, Nat.reduceLeDiff, List.replicate, List.cons_append, List.nil_append, List.append_nil, List.getElem?_cons_zero, List.getElem?_cons_succ, List.getElem?_nil, List.set_cons_zero, List.set_cons_succ, List.all_cons, List.all_nil, nown, Bool.and_true, Bool.true_and, Bool.and_false, Bool.false_and, if_true, if_false, Bool.false_eq_true, Bool.not_true, Bool.not_false, reduceIte, len6, Int.cast_ofNat_Int, beq_self_eq_true, Int.reduceBEq, Int.reduceAdd, Int.reduceNeg, decide_true, decide_false, Int.reduceLT, Int.reduceLE, Int.reduceToNat, e1', e2', r, forW_nil, forW_cons, e3', tp]
  · refine ⟨[(0, a), (0 + m, a + 1 + q), (0 + m + m', a + 1 + q + 1 + q')], M4, ?_, t4.mono (by omega), tab3 a m q m' q' ha hm hq hm' hq'⟩
    have r : ∀ px p, srcD (.rng px p) [.int 2] = some [.int 0, .int 1] := fun px p => rfl
    have e3' : exs ⟨callF T sub FUEL j, sub, FUEL⟩ (L_table_turn fd fp) [some (.ext (ns.map .int)), some (.ref 0), some (.own [.tup [.int 0, .int (a : Int)]]), some (.int 0), none] M2 = .ok (.nx [some (.ext (ns.map .int)), some (.ref 0), some (.own [rowD (0, (a : Int)), rowD (0 + m, (a : Int) + 1 + q)]), some (.int 0), o4]) M3 := e3
    have e4' : exs ⟨callF T sub FUEL j, sub, FUEL⟩ (L_table_turn fd fp) [some (.ext (ns.map .int)), some (.ref 0), some (.own [rowD (0, (a : Int)), rowD (0 + m, (a : Int) + 1 + q)]), some (.int 1), o4] M3 = .ok (.nx [some (.ext (ns.map .int)), some (.ref 0), some (.own ([(0, (a : Int)), (0 + m, (a : Int) + 1 + q), (0 + m + m', (a : Int) + 1 + q + 1 + q')].map rowD)), some (.int 1), o4']) M4 := e4
    simp only [isNew, ends_rtN, ends_nxN, ends_excN, bind_okN, bind_excN, ret_someN, retB_someN, retL_someN, retE_someN, ev_var, ev_cst, ev_gint, ev_gstr, ev_gfn, ev_bin, ev_neg, ev_not, ev_bop, ev_cmp, ev_chain, ev_ite, ev_call, ev_isi, ev_blt, ev_mth, ev_sub, ev_slc, ev_tup, ev_lst, ev_lc, ev_live, ev_srt, ev_srk, evs_nil, evs_cons, evx_nil, evx_cons, evO_none, evO_some, evB_one, evB_and, evB_or, evT_nil, evT_one, exs_nil, exs_cons, nxt_nxN, nxt_rtN, nxt_excN, ex_asg, ex_own, ex_par, ex_app, ex_exn, ex_sti, ex_sto, ex_aug, ex_exp, ex_ret, ex_ifs, ex_fors, ex_whl, ex_rse, ex_tri, ex_frz, cstD, Tg.put, Tg.puts, startD, wipeD, kept_intN, kept_blN, kept_strN, kept_nonN, kept_tupN, kept_lstN, kept_extN, kept_refN, kept_fnN, kept_excN, cmp_eq_int, cmp_ne_int, cmp_lt_intN, cmp_le_intN, cmp_gt_intN, cmp_ge_intN, List.map_cons, List.map_nil, List.length_cons, List.length_nil, Nat.reduceAdd, Nat.reduceSub, Nat.reduceLeDiff, List.replicate, List.cons_append, List.nil_append, List.append_nil, List.getElem?_cons_zero, List.getElem?_cons_succ, List.getElem?_nil, List.set_cons_zero, List.set_cons_succ, List.all_cons, List.all_nil, nown, Bool.and_true, Bool.true_and, Bool.and_false, Bool.false_and, if_true, if_false, Bool.false_eq_true, Bool.not_true, Bool.not_false, reduceIte, len6, Int.cast_ofNat_Int, beq_self_eq_true, Int.reduceBEq, Int.reduceAdd, Int.reduceNeg, decide_true, decide_false, Int.reduceLT, Int.reduceLE, Int.reduceToNat, e1', e2', r, forW_nil, forW_cons, e3', e4', tp]
end
end L2.Z
set_option Elab.async false
set_option linter.all false
set_option maxRecDepth 100000
set_option maxHeartbeats 4000000
set_option exponentiation.threshold 9000
/-! ### draws: houses -/
namespace L2.Z
open PySem
/-- names of bookings, by their place -/
def bcodes : List Nat := [97, 98, 99, 100, 101, 102, 109, 110, 111, 112, 113, 114]
def bname (k : Nat) : Str := ⟨#[bcodes.getD k 0]⟩
def bnames (n : Nat) : List Str := (List.range n).map bname
structure DH (mg mb : Nat) (gs : List Gd) (bs : List Bk) (w : Str) (rows : List (Int × Int)) : Prop where
  g : GsOk gs
  gl : 1 ≤ gs.length ∧ gs.length ≤ mg
  bn : bs.map (·.name) = bnames bs.length
  bl : 1 ≤ bs.length ∧ bs.length ≤ mb
  b : ∀ b ∈ bs, (∃ g ∈ gs, b.going = g.name) ∧ KOk b.fare b.ch b.rank b.ask
  w : w = "own" ∨ w = "last"
  t : TOk rows
theorem lcW_one {C : Cfg} {r r' : Env} {M M1 M2 : Mem} {elt : E} {tg : Tg} {own : List Nat} {d y : D} {ds ys : List D} (h1 : tg.put d (wipeD r own) = some r') (h2 : ev C elt r' M = .ok y M1) (h3 : nown y = true) (h4 : lcW C r M1 elt tg [] own ds = .ok ys M2) : lcW C r M elt tg [] own (d :: ds) = .ok (y :: ys) M2 := by
  have h5 : evT C [] r' M = .ok true M := evT_nil C r' M
  unfold lcW at h4 ⊢
  rw [mapE]
  simp only [calm, h1, h5, h2, bind_ok, kept_ok h3, h4]
theorem names_cut : ∀ v : Nat, v < 12 → items (.str (cutS "abcdefmnopqr" none (some (1 + (v : Int))))) = some ((bnames (v + 1)).map .str) := by
  intro v hv
  have : ∀ v : Fin 12, (cutS "abcdefmnopqr" none (some (1 + ((v : Nat) : Int)))).cps.toList = (List.range (v + 1)).map fun k => bcodes.getD k 0 := by decide +kernel
  have h := this ⟨v, hv⟩
  show some ((cutS "abcdefmnopqr" none (some (1 + (v : Int)))).cps.toList.map fun c => D.str ⟨#[c]⟩) = _
  rw [h, bnames, List.map_map, List.map_map]
  rfl
theorem gs_pos {gs : List Gd} (h : 1 ≤ gs.length) : 0 < gs.length := h
section
variable {T : Nat → Option Fn} {sub : Nat → Nat → Bool}
/-- the law's own defs for draws -/
structure Draws (T : Nat → Option Fn) (i : DIx) : Prop where
  town : Has T i.town 1 1 L_town
  draw : Has T i.draw 3 6 L_draw
  pick : Has T i.pick 3 3 (L_pick i.draw)
  low : Has T i.low 2 4 L_lowest
  goings : Has T i.goings 3 8 (L_goings i.draw i.pick)
  chance : Has T i.chance 2 3 (L_chance i.draw i.low)
  booking : Has T i.booking 4 6 (L_booking i.draw i.pick i.chance)
  table : Has T i.table 2 5 (L_table i.draw i.pick)
  house : Has T i.house 4 9 (L_house i.goings i.draw i.booking i.pick i.table)
theorem bookings_lc {i : DIx} (R : Draws T i) {ns : List Int} (hl : ns.length ≤ 63) (M' : Mem) (gs : List Gd) (hg : 0 < gs.length) (hg1 : gs.length ≤ 6) (n : Nat) (hn : 3 ≤ n) (o2 o3 o5 o6 o7 o8 : Option D) : ∀ (zs : List Str) (b : Nat) (M : Mem), Town ns b M' M → b + 8 * zs.length < 2 ^ 50 →
    ∃ (bs : List Bk) (M1 : Mem), lcW ⟨callF T sub FUEL n, sub, FUEL⟩ [some (.ext (ns.map .int)), some (.ref 0), o2, o3, some (.tup (gs.map gdD)), o5, o6, o7, o8] M (.call i.booking x0 p0 [(.var 0 x0 p0), (.var 1 x0 p0), (.var 8 x0 p0), (.var 4 x0 p0)] p0) (.nm 8 x0 p0) [] [7, 8] (zs.map .str) = .ok (bs.map bkD) M1 ∧ Town ns (b + 8 * zs.length) M' M1 ∧ bs.map (·.name) = zs ∧ ∀ b ∈ bs, (∃ g ∈ gs, b.going = g.name) ∧ KOk b.fare b.ch b.rank b.ask
  | [], b, M, t, _ => ⟨[], M, rfl, t, rfl, fun b hb => by cases hb⟩
  | z :: zs, b, M, t, hb => by
    rw [List.length_cons] at hb
    obtain ⟨bk, M1, e1, t1, h1, h2, h3⟩ := run_booking (sub := sub) R.draw R.pick R.low R.chance R.booking hl t (by omega) z gs hg hg1 n hn
    obtain ⟨bs, M2, e2, t2, h4, h5⟩ := bookings_lc R hl M' gs hg hg1 n hn o2 o3 o5 o6 o7 o8 zs (b + 8) M1 t1 (by omega)
    refine ⟨bk :: bs, M2, ?_, t2.mono (by rw [List.length_cons]; omega), by rw [List.map_cons, h1, h4], fun x hx => ?_⟩
    · rw [List.map_cons, List.map_cons]
      exact lcW_one rfl (by simp only [ends_rtN, ends_nxN, ends_excN, bind_okN, bind_excN, ret_someN, retB_someN, retL_someN, retE_someN, ev_var, ev_cst, ev_gint, ev_gstr, ev_gfn, ev_bin, ev_neg, ev_not, ev_bop, ev_cmp, ev_chain, ev_ite, ev_call, ev_isi, ev_blt, ev_mth, ev_sub, ev_slc, ev_tup, ev_lst, ev_lc, ev_live, ev_srt, ev_srk, evs_nil, evs_cons, evx_nil, evx_cons, evO_none, evO_some, evB_one, evB_and, evB_or, evT_nil, evT_one, exs_nil, exs_cons, nxt_nxN, nxt_rtN, nxt_excN, ex_asg, ex_own, ex_par, ex_app, ex_exn, ex_sti, ex_sto, ex_aug, ex_exp, ex_ret, ex_ifs, ex_fors, ex_whl, ex_rse, ex_tri, ex_frz, cstD, Tg.put, Tg.puts, startD, wipeD, kept_intN, kept_blN, kept_strN, kept_nonN, kept_tupN, kept_lstN, kept_extN, kept_refN, kept_fnN, kept_excN, cmp_eq_int, cmp_ne_int, cmp_lt_intN, cmp_le_intN, cmp_gt_intN, cmp_ge_intN, List.map_cons, List.map_nil, List.length_cons, List.length_nil, Nat.reduceAdd, Nat.reduceSub, Nat.reduceLeDiff, List.replicate, List.cons_append, List.nil_append, List.append_nil, List.getElem?_cons_zero, List.getElem?_cons_succ, List.getElem?_nil, List.set_cons_zero, List.set_cons_succ, List.all_cons, List.all_nil, nown, Bool.and_true, Bool.true_and, Bool.and_false, Bool.false_and, if_true, if_false, Bool.false_eq_true, Bool.not_true, Bool.not_false, reduceIte, len6, Int.cast_ofNat_Int, beq_self_eq_true, Int.reduceBEq, Int.reduceAdd, Int.reduceNeg, decide_true, decide_false, Int.reduceLT, Int.reduceLE, Int.reduceToNat, e1]) rfl e2
    · rcases List.mem_cons.mp hx with rfl | hx
      · exact ⟨h2, h3⟩
      · exact h5 x hx
theorem run_drawn {i : DIx} (R : Draws T i) {ns : List Int} (hl : ns.length ≤ 63) {b : Nat} {M' M : Mem} (t : Town ns b M' M) (hb : b + 200 < 2 ^ 50) (mg mb : Nat) (h0 : 0 < mg) (h1 : mg ≤ 6) (h2 : 0 < mb) (h3 : mb ≤ 12) (n : Nat) (hn : 5 ≤ n) :
    ∃ (gs : List Gd) (bs : List Bk) (w : Str) (rows : List (Int × Int)) (M1 : Mem), callF T sub FUEL n i.house [.ext (ns.map .int), .ref 0, .int (mg : Int), .int (mb : Int)] M = .ok (houseD gs bs w rows) M1 ∧ Town ns (b + 200) M' M1 ∧ DH mg mb gs bs w rows := by
  obtain ⟨j, rfl⟩ : ∃ j, n = j + 1 := ⟨n - 1, by omega⟩
  obtain ⟨gs, M1, e1, t1, g1, g2, g3⟩ := run_goings (sub := sub) R.draw R.pick R.goings hl t (by omega) mg h0 h1 j (by omega)
  obtain ⟨v, M2, e2, t2, hv⟩ := run_drawT (sub := sub) R.draw hl t1 (by omega) mb h2 (Nat.lt_of_le_of_lt h3 (by decide)) j (by omega)
  obtain ⟨bs, M3, e3, t3, b1, b2⟩ := bookings_lc (sub := sub) R hl M' gs (by omega) (by omega) j (by omega) (some (.int (mg : Int))) (some (.int (mb : Int))) (some (.str (cutS "abcdefmnopqr" none (some (1 + (v : Int)))))) none none none (bnames (v + 1)) (b + 50 + 1) M2 t2 (by simp [bnames]; omega)
  have bl : bs.length = v + 1 := by
    have := congrArg List.length b1
    simpa [bnames] using this
  have bl2 : (bnames (v + 1)).length = v + 1 := by simp [bnames]
  rw [bl2] at t3
  obtain ⟨x, M4, e4, t4, h4⟩ := run_pickT (sub := sub) R.draw R.pick hl t3 (by omega) [.str "own", .str "last"] (by decide) (by decide) (fun x hx => by
    simp only [List.mem_cons, List.not_mem_nil, or_false] at hx
    rcases hx with rfl | rfl <;> rfl) j (by omega)
  obtain ⟨w, rfl, hw⟩ : ∃ w, x = .str w ∧ (w = "own" ∨ w = "last") := by
    simp only [List.mem_cons, List.not_mem_nil, or_false] at h4
    rcases h4 with rfl | rfl
    · exact ⟨_, rfl, .inl rfl⟩
    · exact ⟨_, rfl, .inr rfl⟩
  obtain ⟨rows, M5, e5, t5, h5⟩ := run_table (sub := sub) R.draw R.pick R.table hl t4 (by omega) j (by omega)
  refine ⟨gs, bs, w, rows, M5, ?_, t5.mono (by omega), ⟨g1, ⟨g2, g3⟩, by rw [b1, bl], by omega, b2, hw, h5⟩⟩
  have sl : ∀ M, slcD M (.str "abcdefmnopqr") none (some (1 + (v : Int))) = some (.str (cutS "abcdefmnopqr" none (some (1 + (v : Int))))) := fun M => rfl
  have it : srcD .one [.str (cutS "abcdefmnopqr" none (some (1 + (v : Int))))] = some ((bnames (v + 1)).map .str) := names_cut v (by omega)
  have bb : (bs.map bkD).length ≤ sizeLine := big_le (by rw [List.length_map]; omega)
  have tp : ∀ M, bltD .tuple M [.lst (bs.map bkD)] = some (.tup (bs.map bkD)) := fun M => rfl
  rw [run R.house _ rfl]
  unfold L_house
  simp only [ends_rtN, ends_nxN, ends_excN, bind_okN, bind_excN, ret_someN, retB_someN, retL_someN, retE_someN, ev_var, ev_cst, ev_gint, ev_gstr, ev_gfn, ev_bin, ev_neg, ev_not, ev_bop, ev_cmp, ev_chain, ev_ite, ev_call, ev_isi, ev_blt, ev_mth, ev_sub, ev_slc, ev_tup, ev_lst, ev_lc, ev_live, ev_srt, ev_srk, evs_nil, evs_cons, evx_nil, evx_cons, evO_none, evO_some, evB_one, evB_and, evB_or, evT_nil, evT_one, exs_nil, exs_cons, nxt_nxN, nxt_rtN, nxt_excN, ex_asg, ex_own, ex_par, ex_app, ex_exn, ex_sti, ex_sto, ex_aug, ex_exp, ex_ret, ex_ifs, ex_fors, ex_whl, ex_rse, ex_tri, ex_frz, cstD, Tg.put, Tg.puts, startD, wipeD, kept_intN, kept_blN, kept_strN, kept_nonN, kept_tupN, kept_lstN, kept_extN, kept_refN, kept_fnN, kept_excN, cmp_eq_int, cmp_ne_int, cmp_lt_intN, cmp_le_intN, cmp_gt_intN, cmp_ge_intN, List.map_cons, List.map_nil, List.length_cons, List.length_nil, Nat.reduceAdd, Nat.reduceSub, Nat.reduceLeDiff, List.replicate, List.cons_append, List.nil_append, List.append_nil, List.getElem?_cons_zero, List.getElem?_cons_succ, List.getElem?_nil, List.set_cons_zero, List.set_cons_succ, List.all_cons, List.all_nil, nown, Bool.and_true, Bool.true_and, Bool.and_false, Bool.false_and, if_true, if_false, Bool.false_eq_true, Bool.not_true, Bool.not_false, reduceIte, len6, Int.cast_ofNat_Int, beq_self_eq_true, Int.reduceBEq, Int.reduceAdd, Int.reduceNeg, decide_true, decide_false, Int.reduceLT, Int.reduceLE, Int.reduceToNat, e1, e2, add_int, sl, it, e3, bb, tp, e4, e5]
  rfl
end
/-! drawn houses stand -/
theorem EndsOk.v {a b : Str} (h : EndsOk a b) : isWord a = true ∧ isWord b = true ∧ (a == b) = false := by
  rcases h with h | h | h | h <;> (cases h; decide +kernel)
theorem gname_word : ∀ k : Nat, k < 6 → isWord (gname k) = true := by
  intro k hk
  have : ∀ k : Fin 6, isWord (gname k) = true := by decide +kernel
  exact this ⟨k, hk⟩
theorem bname_word : ∀ k : Nat, k < 12 → isWord (bname k) = true := by
  intro k hk
  have : ∀ k : Fin 12, isWord (bname k) = true := by decide +kernel
  exact this ⟨k, hk⟩
theorem GsOk.names {gs : List Gd} (h : GsOk gs) : gs.map (·.name) = (List.range gs.length).map gname := by
  apply List.ext_getElem?
  intro k
  rw [List.getElem?_map, List.getElem?_map]
  by_cases e : k < gs.length
  · rw [List.getElem?_eq_getElem e, List.getElem?_range e]
    exact congrArg some (h k gs[k] (List.getElem?_eq_getElem e)).name
  · rw [List.getElem?_eq_none (by omega), List.getElem?_eq_none (by simp; omega)]; rfl
theorem GOk.v {k : Nat} {g : Gd} (h : GOk k g) (hk : k < 6) : GdV g := by
  obtain ⟨s, hs, h1, h2⟩ := h.seats
  have := h.lv
  have := h.cm
  obtain ⟨e1, e2, e3⟩ := h.ends.v
  exact ⟨by rw [h.name]; exact gname_word k hk, e1, e2, e3, by omega, by omega, by omega, by omega⟩
theorem rise_names (f : Nat → Str) (N : Nat) (hf : ∀ n : Nat, n ≤ N → riseS ((List.range n).map f) = true) {n : Nat} (hn : n ≤ N) : riseS ((List.range n).map f) = true := hf n hn
theorem gnames_rise {n : Nat} (h : n ≤ 6) : riseS ((List.range n).map gname) = true := by
  have : ∀ n : Fin 7, riseS ((List.range n).map gname) = true := by decide +kernel
  exact this ⟨n, by omega⟩
theorem bnames_rise {n : Nat} (h : n ≤ 12) : riseS (bnames n) = true := by
  have : ∀ n : Fin 13, riseS (bnames n) = true := by decide +kernel
  exact this ⟨n, by omega⟩
section
variable {mg mb : Nat} {gs : List Gd} {bs : List Bk} {w : Str} {rows : List (Int × Int)}
theorem DH.gv (h : DH mg mb gs bs w rows) (hm : mg ≤ 6) : ∀ g ∈ gs, GdV g := fun g hg => by
  obtain ⟨k, hk, rfl⟩ := List.getElem_of_mem hg
  have := h.gl
  exact (h.g k _ (List.getElem?_eq_getElem hk)).v (by omega)
theorem DH.bv (h : DH mg mb gs bs w rows) (hm : mg ≤ 6) (hb : mb ≤ 12) : ∀ b ∈ bs, BkV (gs.map (·.name)) b := fun b hb' => by
  obtain ⟨⟨g, hg, e⟩, hk⟩ := h.b b hb'
  have hn : b.name ∈ bnames bs.length := by rw [← h.bn]; exact List.mem_map_of_mem (f := (·.name)) hb'
  obtain ⟨k, hk', e2⟩ := List.mem_map.mp hn
  have hk' := List.mem_range.mp hk'
  have := h.bl
  refine ⟨by rw [← e2]; exact bname_word k (by omega), ?_, by rw [e]; exact (h.gv hm g hg).name, hk.kv⟩
  rw [List.contains_iff_mem, List.mem_map]
  exact ⟨g, hg, e.symm⟩
theorem DH.hv (h : DH mg mb gs bs w rows) (hm : mg ≤ 6) (hb : mb ≤ 12) : HV gs bs w rows := by
  have := h.gl
  have := h.bl
  exact ⟨by omega, h.gv hm, by rw [h.g.names]; exact gnames_rise (by omega), by omega, h.bv hm hb, by rw [h.bn]; exact bnames_rise (by omega), h.w, h.t.v⟩
end
end L2.Z
set_option Elab.async false
set_option linter.all false
set_option maxRecDepth 100000
set_option maxHeartbeats 2000000
/-! ### the plain law of k33 -/
namespace L2.Z
open PySem
/-- the place of a kind -/
def kapK (rank : Int) : Option Int → Int × Int
  | some a => (0, a)
  | none => (1, -rank)
theorem key_kap (b : Bk) : (keyT b).1 = (kapK b.rank b.ask).1 ∧ (keyT b).2.1 = (kapK b.rank b.ask).2 := by
  unfold keyT kapK
  cases b.ask <;> exact ⟨rfl, rfl⟩
/-- further ones: behind all others, rising, all of a kind -/
structure Fur (l c : List Bk) (fare : Int) (ch : Rat) (rank : Int) (ask : Option Int) : Prop where
  ap : Apart (l ++ c)
  k : ∀ b ∈ c, b.fare = fare ∧ b.ch = ch ∧ b.rank = rank ∧ b.ask = ask
  up : c.Pairwise fun a b => sl a.name < sl b.name
  be : ∀ a ∈ l, ∀ b ∈ c, sl a.name < sl b.name
section
variable {l c c' : List Bk} {fare : Int} {ch : Rat} {rank : Int} {ask : Option Int}
theorem Fur.ins (h : Fur l c fare ch rank ask) : inOrder (l ++ c) = (inOrder l).filter (leP2 (kapK rank ask)) ++ (c ++ (inOrder l).filter (fun b => !leP2 (kapK rank ask) b)) :=
  inOrder_ins h.ap (fun b hb => by obtain ⟨_, _, h3, h4⟩ := h.k b hb; rw [← h3, ← h4]; exact key_kap b) h.up h.be
theorem Fur.er (h : Fur l c fare ch rank ask) : c.map er = List.replicate c.length ⟨x0, x0, fare, ch, 0, ask⟩ := by
  rw [List.eq_replicate_iff]
  refine ⟨by simp, fun b hb => ?_⟩
  obtain ⟨x, hx, rfl⟩ := List.mem_map.mp hb
  obtain ⟨h1, h2, _, h4⟩ := h.k x hx
  unfold L2.Z.er
  rw [h1, h2, h4]
theorem Fur.same (h : Fur l c fare ch rank ask) (h' : Fur l c' fare ch rank ask) (e : c.length = c'.length) (w : Str) (seats : Nat) (first : Int) : worthQ w seats first (inOrder (l ++ c)) = worthQ w seats first (inOrder (l ++ c')) := by
  refine worth_congr ?_
  rw [h.ins, h'.ins, List.map_append, List.map_append, List.map_append, List.map_append, h.er, h'.er, e]
end
/-! those who ask nothing -/
theorem both_zero (seats : Nat) (first : Int) : ∀ (a b : List Bk), (∀ x ∈ a, payQ first x = 0) → bothQ seats first (a ++ b) = bothQ seats first b
  | [], b, _ => rfl
  | x :: a, b, h => by
    rw [List.cons_append, bothQ, both_zero seats first a b fun y hy => h y (List.mem_cons_of_mem _ hy), h x List.mem_cons_self]; grind
theorem fares_append : ∀ (a b : List Bk), faresQ (a ++ b) = faresQ a + faresQ b
  | [], b => by rw [List.nil_append, fares_nil]; grind
  | x :: a, b => by rw [List.cons_append, fares_cons, fares_cons, fares_append a b]; grind
theorem fares_free : ∀ (a : List Bk), (∀ x ∈ a, x.fare = 0) → faresQ a = 0
  | [], _ => fares_nil
  | x :: a, h => by
    rw [fares_cons, h x List.mem_cons_self, fares_free a fun y hy => h y (List.mem_cons_of_mem _ hy)]
    rw [show ((0 : Int) : Rat) = 0 from rfl]; grind
theorem idle_same {l c : List Bk} {ch : Rat} (h : Fur l c 0 ch 0 (some 0)) (hl : ∀ b ∈ l, ∀ a, b.ask = some a → 0 ≤ a) (seats : Nat) (first : Int) : worthQ "own" seats first (inOrder (l ++ c)) = worthQ "own" seats first (inOrder l) := by
  have ha : ∀ x ∈ (inOrder l).filter (leP2 (kapK 0 (some 0))), payQ first x = 0 := fun x hx => by
    obtain ⟨h1, h2⟩ := List.mem_filter.mp hx
    have hx' := inOrder_mem h1
    unfold leP2 at h2
    rw [decide_eq_true_eq] at h2
    unfold payQ
    cases e : x.ask with
    | some a =>
      have hk : keyT x = (0, a, x.name) := by unfold keyT; rw [e]
      rw [hk] at h2
      have := hl x hx' a e
      have e0 : a = 0 := by
        have h3 : (0 : Int) < 0 ∨ (0 : Int) = 0 ∧ a ≤ 0 := h2
        omega
      rw [e0]; rfl
    | none =>
      have hk : keyT x = (1, -x.rank, x.name) := by unfold keyT; rw [e]
      rw [hk] at h2
      have h3 : (1 : Int) < 0 ∨ (1 : Int) = 0 ∧ _ := h2
      omega
  have hc : ∀ x ∈ c, payQ first x = 0 := fun x hx => by
    unfold payQ
    rw [(h.k x hx).2.2.2]; rfl
  have e : inOrder l = (inOrder l).filter (leP2 (kapK 0 (some 0))) ++ (inOrder l).filter (fun b => !leP2 (kapK 0 (some 0)) b) := by
    have := Fur.ins (l := l) (c := []) (fare := 0) (ch := ch) (rank := 0) (ask := some 0) ⟨by
      have := h.ap
      rw [List.append_nil]
      unfold Apart at this ⊢
      rw [List.map_append] at this
      exact (List.nodup_append.mp this).1, (fun b hb => by cases hb), List.Pairwise.nil, (fun a _ b hb => by cases hb)⟩
    rw [List.append_nil, List.nil_append] at this
    exact this
  rw [worth_own, worth_own, h.ins]
  conv => rhs; rw [e]
  rw [both_zero _ _ _ _ ha, both_zero _ _ _ _ ha, both_zero _ _ _ _ hc, fares_append, fares_append, fares_append, fares_free c fun x hx => (h.k x hx).1]
  grind
/-! enough seats -/
theorem sum_short {l : List Rat} {k : Nat} (h : l.length ≤ k) : sumQ (l.drop k) = 0 := by
  rw [List.drop_eq_nil_of_le h]; rfl
theorem both_enough (seats : Nat) (first : Int) : ∀ l : List Bk, l.length ≤ seats → bothQ seats first l = 0
  | [], _ => rfl
  | b :: l, h => by
    rw [List.length_cons] at h
    rw [bothQ, both_enough seats first l (by omega)]
    unfold tailQ
    rw [sum_short (by rw [cntQ_len, chs_len]; omega)]; grind
theorem lastSum_enough (seats : Nat) (un : List Bk) : ∀ (r pre : List Bk) (s : Rat), r.length + un.length ≤ seats → lastSum seats un pre r s = s
  | [], _, _, _ => rfl
  | b :: r, pre, s, h => by
    rw [List.length_cons] at h
    rw [lastSum, lastSum_enough seats un r _ _ (by omega)]
    unfold lastOne lastQ moreQ
    rw [sum_short (by rw [cntQ_len, chs_len]; omega), List.getD_eq_getElem?_getD, List.getElem?_eq_none (by rw [cntQ_len, List.length_append, chs_len, chs_len]; omega)]
    rw [show (none : Option Rat).getD 0 = 0 from rfl]
    grind
theorem worth_enough (w : Str) (seats : Nat) (first : Int) (l : List Bk) (h : l.length ≤ seats) : worthQ w seats first l = faresQ l := by
  have hb := both_enough seats first l h
  unfold worthQ willQ
  split
  · have := both_eq seats first l
    rw [hb] at this
    grind
  · have hl : meanLastQ seats l = 0 := by
      unfold meanLastQ
      exact lastSum_enough seats (unw l) (wil l) [] 0 (by have := wil_unw l; omega)
    have ho : othersQ seats first l = 0 := by
      have : ∀ l : List Bk, l.length ≤ seats → othersQ seats first l = 0 := by
        intro l
        induction l with
        | nil => intro _; exact others_nil _ _
        | cons b l ih =>
          intro h
          rw [List.length_cons] at h
          rw [others_cons, ih (by omega)]
          unfold tailQ
          rw [sum_short (by rw [cntQ_len, chs_len]; omega)]
          split <;> grind
      exact this l h
    rw [hl, ho]; grind
theorem fares_perm {a b : List Bk} (h : a.Perm b) : faresQ a = faresQ b := by
  induction h with
  | nil => rfl
  | cons x _ ih => rw [fares_cons, fares_cons, ih]
  | swap x y l => rw [fares_cons, fares_cons, fares_cons, fares_cons]; grind
  | trans _ _ h1 h2 => rw [h1, h2]
end L2.Z
set_option Elab.async false
set_option linter.all false
set_option maxRecDepth 100000
set_option maxHeartbeats 4000000
set_option exponentiation.threshold 9000
/-! ### asks over drawn houses; k33's further ones -/
namespace L2.Z
open PySem
def L_worth (lookK whole ww c : Nat) : List S := [
  .exp (.call lookK x0 p0 [(.var 0 x0 p0), (.var 1 x0 p0), (.var 2 x0 p0)] p0) p0,
  .ifs (.not (.call whole x0 p0 [(.var 3 x0 p0), (.cst (.int 0) 0 p0), (.gint x0 12 p0)] p0) p0) [.rse c x0 p0 x0 0 p0 p0 p0] [] p0,
  .ret (.call ww x0 p0 [(.var 0 x0 p0), (.var 1 x0 p0), (.var 2 x0 p0), (.var 3 x0 p0)] p0) p0]
theorem lb420 : LB 420 24 10000 := ⟨by decide, by decide, by decide, by decide +kernel⟩
section
variable {T : Nat → Option Fn} {sub : Nat → Nat → Bool} {i : Ix} {h : HIx} {s : SIx} {gs : List Gd} {bs : List Bk} {w : Str} {p : Int × Int} {rows : List (Int × Int)} {z : Str} {g : Gd} {seats : Nat} {fare : Int} {ch : Rat} {rank : Int} {ask : Option Int} {D' N A : Nat}
theorem Ask.worth (K : Ask gs bs w p rows z g seats fare ch rank ask D' N A) (S : Sell2 T i h s) {f c : Nat} (hf : Has T f 4 4 (L_worth s.lookK h.whole i.worth c)) (m : Nat) (hm : m ≤ 12) : Cal T sub FUEL 9 f [houseD gs bs w (p :: rows), .str z, kindD fare ch rank ask, .int (m : Nat)] (rd (Wm bs w p z seats fare ch rank ask m)) := by
  refine cal_of (k := 8) hf rfl fun n hn M => ?_
  have h1 := K.look (sub := sub) S n (by omega)
  have h2 := (K.run (sub := sub) S m hm).1 n hn
  have h3 := run_is_whole (sub := sub) (fuel := FUEL) S.H.parts.wh (.int (m : Int)) 0 12 (pl_small (by rw [Int.natAbs_natCast]; exact Nat.lt_of_le_of_lt hm (by decide))) n (by omega)
  rw [whole_ok (by omega)] at h3
  have kh : ∀ M, kept (houseD gs bs w (p :: rows)) M = .ok (houseD gs bs w (p :: rows)) M := fun _ => rfl
  have kk : ∀ M, kept (kindD fare ch rank ask) M = .ok (kindD fare ch rank ask) M := fun _ => rfl
  generalize houseD gs bs w (p :: rows) = HH at *
  generalize kindD fare ch rank ask = KK at *
  unfold L_worth
  simp only [ends_rtN, ends_nxN, ends_excN, bind_okN, bind_excN, ret_someN, retB_someN, retL_someN, retE_someN, ev_var, ev_cst, ev_gint, ev_gstr, ev_gfn, ev_bin, ev_neg, ev_not, ev_bop, ev_cmp, ev_chain, ev_ite, ev_call, ev_isi, ev_blt, ev_mth, ev_sub, ev_slc, ev_tup, ev_lst, ev_lc, ev_live, ev_srt, ev_srk, evs_nil, evs_cons, evx_nil, evx_cons, evO_none, evO_some, evB_one, evB_and, evB_or, evT_nil, evT_one, exs_nil, exs_cons, nxt_nxN, nxt_rtN, nxt_excN, ex_asg, ex_own, ex_par, ex_app, ex_exn, ex_sti, ex_sto, ex_aug, ex_exp, ex_ret, ex_ifs, ex_fors, ex_whl, ex_rse, ex_tri, ex_frz, cstD, Tg.put, Tg.puts, startD, wipeD, kept_intN, kept_blN, kept_strN, kept_nonN, kept_tupN, kept_lstN, kept_extN, kept_refN, kept_fnN, kept_excN, cmp_eq_int, cmp_ne_int, cmp_lt_intN, cmp_le_intN, cmp_gt_intN, cmp_ge_intN, List.map_cons, List.map_nil, List.length_cons, List.length_nil, Nat.reduceAdd, Nat.reduceSub, Nat.reduceLeDiff, List.replicate, List.cons_append, List.nil_append, List.append_nil, List.getElem?_cons_zero, List.getElem?_cons_succ, List.getElem?_nil, List.set_cons_zero, List.set_cons_succ, List.all_cons, List.all_nil, nown, Bool.and_true, Bool.true_and, Bool.and_false, Bool.false_and, if_true, if_false, Bool.false_eq_true, Bool.not_true, Bool.not_false, reduceIte, len6, Int.cast_ofNat_Int, beq_self_eq_true, Int.reduceBEq, Int.reduceAdd, Int.reduceNeg, decide_true, decide_false, Int.reduceLT, Int.reduceLE, Int.reduceToNat, kh, kk, h1, h2, h3, kept_rd]
theorem ask_of (hv : HV gs bs w (p :: rows)) (hg : gs.find? (fun g => g.name == z) = some g) (hs : g.seats = (seats : Int)) (k : KV fare ch rank ask) (cb : ∀ b ∈ bs, Un1 420 b.ch) (cc : Un1 420 ch) : Ask gs bs w p rows z g seats fare ch rank ask 420 24 10000 := by
  have hz0 := List.find?_some hg
  have hz : z = g.name := (eq_of_beq hz0).symm
  have hgm := List.mem_of_find?_eq_some hg
  have hp := hv.t.in1 p List.mem_cons_self
  have fl : (bs.filter fun b => b.going == z).length ≤ bs.length := List.length_filter_le _ _
  have bl := hv.bl
  refine ⟨hv.ok, by rw [hz]; exact (word_ok (hv.g g hgm).name).1, hg, hs, k.kind.1, k.kind.2, lb420, by omega, cb, cc, fun b hb => ⟨fun a e => ?_, ?_⟩, ⟨fun a e => ?_, ?_⟩, ?_⟩
  · have := (hv.b b hb).k.ask a e; omega
  · have := (hv.b b hb).k.fare; omega
  · have := k.ask a e; omega
  · have := k.fare; omega
  · omega
end
/-! rising names -/
abbrev Ris (l : List Bk) : Prop := l.Pairwise fun a b => sl a.name < sl b.name
theorem Ris.apart {l : List Bk} (h : Ris l) : Apart l := by
  unfold Apart
  rw [List.nodup_iff_pairwise_ne, List.pairwise_map]
  refine List.Pairwise.imp (fun {a b} hab e => ?_) h
  rw [e] at hab
  exact List.lt_irrefl _ hab
theorem ris_of {l : List Bk} (h : riseS (l.map (·.name)) = true) : Ris l := by
  have := (riseS_iff _).mp h
  rwa [List.pairwise_map] at this
theorem fur_of {l c : List Bk} {fare : Int} {ch : Rat} {rank : Int} {ask : Option Int} (hl : Ris l) (hc : Ris c) (be : ∀ a ∈ l, ∀ b ∈ c, sl a.name < sl b.name) (k : ∀ b ∈ c, b.fare = fare ∧ b.ch = ch ∧ b.rank = rank ∧ b.ask = ask) : Fur l c fare ch rank ask :=
  ⟨Ris.apart (List.pairwise_append.mpr ⟨hl, hc, be⟩), k, hc, be⟩
/-- names that come ahead of all further ones -/
def Low (l : List Bk) : Prop := ∀ b ∈ l, ∃ c t, sl b.name = c :: t ∧ c ≤ 122
theorem further_ris (z : Str) (fare : Int) (ch : Rat) (rank : Int) (ask : Option Int) (m : Nat) : Ris (further z fare ch rank ask m) := by
  unfold further
  rw [Ris, List.pairwise_map]
  refine List.pairwise_lt_range.imp fun {i j} h => ?_
  show ([126, 97 + i] : List Nat) < [126, 97 + j]
  exact List.cons_lt_cons_iff.mpr (.inr ⟨rfl, List.cons_lt_cons_iff.mpr (.inl (by omega))⟩)
theorem further_be {l : List Bk} (h : Low l) (z : Str) (fare : Int) (ch : Rat) (rank : Int) (ask : Option Int) (m : Nat) : ∀ a ∈ l, ∀ b ∈ further z fare ch rank ask m, sl a.name < sl b.name := fun a ha b hb => by
  obtain ⟨k, _, rfl⟩ := List.mem_map.mp hb
  obtain ⟨c, t, e, hc⟩ := h a ha
  rw [e]
  show c :: t < ([126, 97 + k] : List Nat)
  exact List.cons_lt_cons_iff.mpr (.inl (by omega))
theorem further_k {z : Str} {fare : Int} {ch : Rat} {rank : Int} {ask : Option Int} {m : Nat} : ∀ b ∈ further z fare ch rank ask m, b.fare = fare ∧ b.ch = ch ∧ b.rank = rank ∧ b.ask = ask := fun b hb => by
  obtain ⟨h1, h2, h3, h4, _⟩ := further_mem hb
  exact ⟨h2, h1, h4, h3⟩
theorem fur_more {l : List Bk} (hl : Ris l) (h : Low l) (z : Str) (fare : Int) (ch : Rat) (rank : Int) (ask : Option Int) (m : Nat) : Fur l (further z fare ch rank ask m) fare ch rank ask :=
  fur_of hl (further_ris z fare ch rank ask m) (further_be h z fare ch rank ask m) further_k
def zzName (k : Nat) : Str := ⟨#[122, 122, 97 + k]⟩
def zzBk (g : Str) (fare : Int) (ch : Rat) (rank : Int) (ask : Option Int) (k : Nat) : Bk := ⟨zzName k, g, fare, ch, rank, ask⟩
def zzs (g : Str) (fare : Int) (ch : Rat) (rank : Int) (ask : Option Int) (m : Nat) : List Bk := (List.range m).map (zzBk g fare ch rank ask)
theorem zzs_ris (z : Str) (fare : Int) (ch : Rat) (rank : Int) (ask : Option Int) (m : Nat) : Ris (zzs z fare ch rank ask m) := by
  unfold zzs
  rw [Ris, List.pairwise_map]
  refine List.pairwise_lt_range.imp fun {i j} h => ?_
  show ([122, 122, 97 + i] : List Nat) < [122, 122, 97 + j]
  exact List.cons_lt_cons_iff.mpr (.inr ⟨rfl, List.cons_lt_cons_iff.mpr (.inr ⟨rfl, List.cons_lt_cons_iff.mpr (.inl (by omega))⟩)⟩)
theorem zzs_low (z : Str) (fare : Int) (ch : Rat) (rank : Int) (ask : Option Int) (m : Nat) : Low (zzs z fare ch rank ask m) := fun b hb => by
  obtain ⟨k, _, rfl⟩ := List.mem_map.mp hb
  exact ⟨122, [122, 97 + k], rfl, by decide⟩
/-- names of one letter, r at most -/
def One (l : List Bk) : Prop := ∀ b ∈ l, ∃ c, sl b.name = [c] ∧ c ≤ 114
theorem One.low {l : List Bk} (h : One l) : Low l := fun b hb => by
  obtain ⟨c, e, hc⟩ := h b hb
  exact ⟨c, [], e, by omega⟩
theorem zzs_be {l : List Bk} (h : One l) (z : Str) (fare : Int) (ch : Rat) (rank : Int) (ask : Option Int) (m : Nat) : ∀ a ∈ l, ∀ b ∈ zzs z fare ch rank ask m, sl a.name < sl b.name := fun a ha b hb => by
  obtain ⟨k, _, rfl⟩ := List.mem_map.mp hb
  obtain ⟨c, e, hc⟩ := h a ha
  rw [e]
  show [c] < ([122, 122, 97 + k] : List Nat)
  exact List.cons_lt_cons_iff.mpr (.inl (by omega))
theorem zzs_k {z : Str} {fare : Int} {ch : Rat} {rank : Int} {ask : Option Int} {m : Nat} : ∀ b ∈ zzs z fare ch rank ask m, b.fare = fare ∧ b.ch = ch ∧ b.rank = rank ∧ b.ask = ask := fun b hb => by
  obtain ⟨k, _, rfl⟩ := List.mem_map.mp hb
  exact ⟨rfl, rfl, rfl, rfl⟩
theorem fur_zz {l : List Bk} (hl : Ris l) (h : One l) (z : Str) (fare : Int) (ch : Rat) (rank : Int) (ask : Option Int) (k m : Nat) : Fur l (zzs z fare ch rank ask k ++ further z fare ch rank ask m) fare ch rank ask := by
  refine fur_of hl ?_ ?_ ?_
  · exact List.pairwise_append.mpr ⟨zzs_ris z fare ch rank ask k, further_ris z fare ch rank ask m, further_be (zzs_low z fare ch rank ask k) z fare ch rank ask m⟩
  · intro a ha b hb
    rcases List.mem_append.mp hb with hb | hb
    · exact zzs_be h z fare ch rank ask k a ha b hb
    · exact further_be h.low z fare ch rank ask m a ha b hb
  · intro b hb
    rcases List.mem_append.mp hb with hb | hb
    · exact zzs_k b hb
    · exact further_k b hb
section
variable {mg mb : Nat} {gs : List Gd} {bs : List Bk} {w : Str} {rows : List (Int × Int)}
theorem DH.one (h : DH mg mb gs bs w rows) (hb : mb ≤ 12) : One bs := fun b hb' => by
  have hn : b.name ∈ bnames bs.length := by rw [← h.bn]; exact List.mem_map_of_mem (f := (·.name)) hb'
  obtain ⟨k, hk', e2⟩ := List.mem_map.mp hn
  have hk' := List.mem_range.mp hk'
  have := h.bl
  refine ⟨bcodes.getD k 0, by rw [← e2]; rfl, ?_⟩
  have : ∀ k : Fin 12, bcodes.getD k 0 ≤ 114 := by decide
  exact this ⟨k, by omega⟩
theorem DH.ris (h : DH mg mb gs bs w rows) (hb : mb ≤ 12) : Ris bs := by
  have := h.bl
  exact ris_of (by rw [h.bn]; exact bnames_rise (by omega))
end
/-- bookings of a going -/
abbrev here (bs : List Bk) (z : Str) : List Bk := bs.filter fun b => b.going == z
theorem one_here {bs : List Bk} (h : One bs) (z : Str) : One (here bs z) := fun b hb => h b (List.mem_filter.mp hb).1
theorem ris_here {bs : List Bk} (h : Ris bs) (z : Str) : Ris (here bs z) := h.sublist List.filter_sublist
theorem here_here (bs : List Bk) (z : Str) : here (here bs z) z = here bs z := by
  unfold here
  rw [List.filter_filter]
  congr 1
  funext b
  rw [Bool.and_self]
theorem here_zz (bs : List Bk) (z : Str) (fare : Int) (ch : Rat) (rank : Int) (ask : Option Int) (k : Nat) : here (bs ++ zzs z fare ch rank ask k) z = here bs z ++ zzs z fare ch rank ask k := by
  unfold here
  rw [List.filter_append]
  congr 1
  rw [List.filter_eq_self]
  intro b hb
  obtain ⟨k, _, rfl⟩ := List.mem_map.mp hb
  exact beq_self_eq_true z
/-- so many more, or some of them booked already -/
theorem W_zz {bs : List Bk} (ho : One bs) (hr : Ris bs) (w : Str) (p : Int × Int) (z : Str) (seats : Nat) (fare : Int) (ch : Rat) (rank : Int) (ask : Option Int) (k m : Nat) (h : k ≤ m) : Wm (bs ++ zzs z fare ch rank ask k) w p z seats fare ch rank ask (m - k) = Wm bs w p z seats fare ch rank ask m := by
  have e1 : allBk (bs ++ zzs z fare ch rank ask k) z fare ch rank ask (m - k) = inOrder (here bs z ++ (zzs z fare ch rank ask k ++ further z fare ch rank ask (m - k))) := by
    have e : allBk (bs ++ zzs z fare ch rank ask k) z fare ch rank ask (m - k) = inOrder (here (bs ++ zzs z fare ch rank ask k) z ++ further z fare ch rank ask (m - k)) := rfl
    rw [e, here_zz, List.append_assoc]
  have e2 : allBk bs z fare ch rank ask m = inOrder (here bs z ++ further z fare ch rank ask m) := rfl
  unfold Wm
  rw [e1, e2]
  refine (fur_zz (ris_here hr z) (one_here ho z) z fare ch rank ask k (m - k)).same (fur_more (ris_here hr z) (one_here ho z).low z fare ch rank ask m) ?_ w seats p.2
  simp [zzs, further]
  omega
theorem W_here (bs : List Bk) (w : Str) (p : Int × Int) (z : Str) (seats : Nat) (fare : Int) (ch : Rat) (rank : Int) (ask : Option Int) (m : Nat) : Wm (here bs z) w p z seats fare ch rank ask m = Wm bs w p z seats fare ch rank ask m := by
  have e : allBk (here bs z) z fare ch rank ask m = inOrder (here (here bs z) z ++ further z fare ch rank ask m) := rfl
  unfold Wm
  rw [e, here_here]; rfl
theorem W_idle {bs : List Bk} (ho : One bs) (hr : Ris bs) (hl : ∀ b ∈ bs, ∀ a, b.ask = some a → 0 ≤ a) (p : Int × Int) (z : Str) (seats : Nat) (ch : Rat) (m : Nat) : Wm bs "own" p z seats 0 ch 0 (some 0) m = Wm bs "own" p z seats 0 ch 0 (some 0) 0 := by
  have hh : ∀ b ∈ here bs z, ∀ a, b.ask = some a → 0 ≤ a := fun b hb => hl b (List.mem_filter.mp hb).1
  have e : ∀ m, Wm bs "own" p z seats 0 ch 0 (some 0) m = worthQ "own" seats p.2 (inOrder (here bs z)) := fun m => idle_same (fur_more (ris_here hr z) (one_here ho z).low z 0 ch 0 (some 0) m) hh seats p.2
  rw [e, e]
theorem W_wide {bs : List Bk} (w : Str) (p : Int × Int) (z : Str) (fare : Int) (ch : Rat) (rank : Int) (ask : Option Int) (m : Nat) (hm : (here bs z).length + m ≤ 9) : Wm bs w p z 9 fare ch rank ask m = faresQ (here bs z) + (m : Rat) * ((fare : Rat) * ch) := by
  have e : allBk bs z fare ch rank ask m = inOrder (here bs z ++ further z fare ch rank ask m) := rfl
  unfold Wm
  rw [e, worth_enough _ _ _ _ (by rw [inOrder_len, List.length_append, further_len]; exact hm), fares_perm (inOrder_perm _), fares_append, fares_all fare ch (further z fare ch rank ask m) fun b hb => ⟨(further_mem hb).1, (further_mem hb).2.1⟩, further_len]
end L2.Z
set_option Elab.async false
set_option linter.all false
set_option maxRecDepth 100000
set_option maxHeartbeats 4000000
set_option exponentiation.threshold 9000
/-! ### k33: the law's own run -/
namespace L2.Z
open PySem
def ix33 : Ix := ⟨0, 1, 2, 3, 4, 5, 6, 7, 21, 22, 23, 24, 25, 26, 27, 28, 20, 19, 30⟩
def hx33 : HIx := ⟨8, 9, 10, 11, 12, 13, 14, 15, 16, 17, 18, 1, 2⟩
def sx33 : SIx := ⟨29, 4, 32⟩
def dx33 : DIx := ⟨34, 35, 36, 37, 40, 41, 42, 43, 44⟩
def L_law33 : List S := [
  .asg (.nm 1 x0 p0) (.call 34 x0 p0 [(.var 0 x0 p0)] p0) p0,
  .asg (.nm 2 x0 p0) (.call 44 x0 p0 [(.var 0 x0 p0), (.var 1 x0 p0), (.cst (.int 2) 0 p0), (.cst (.int 5) 0 p0)] p0) p0,
  .asg (.tp [(.nm 3 x0 p0), (.nm 4 x0 p0), (.nm 5 x0 p0)] 0 p0) (.var 2 x0 p0) p0,
  .asg (.nm 6 x0 p0) (.sub (.sub (.var 3 x0 p0) (.cst (.int 0) 0 p0) p0) (.cst (.int 0) 0 p0) p0) p0,
  .asg (.nm 7 x0 p0) (.slc (.call 42 x0 p0 [(.var 0 x0 p0), (.var 1 x0 p0), (.cst (.str "a") 0 p0), (.var 3 x0 p0)] p0) (some (.cst (.int 2) 0 p0)) none p0 p0) p0,
  .asg (.nm 8 x0 p0) (.bin .Add (.cst (.int 1) 0 p0) (.call 35 x0 p0 [(.var 0 x0 p0), (.var 1 x0 p0), (.cst (.int 4) 0 p0)] p0) p0) p0,
  .asg (.nm 9 x0 p0) (.call 35 x0 p0 [(.var 0 x0 p0), (.var 1 x0 p0), (.bin .Add (.var 8 x0 p0) (.cst (.int 1) 0 p0) p0)] p0) p0,
  .asg (.nm 10 x0 p0) (.blt .tuple p0 [(.lc (.bin .Add (.tup [(.bin .Add (.cst (.str "zz") 0 p0) (.sub (.cst (.str "abcdef") 0 p0) (.var 21 x0 p0) p0) p0), (.var 6 x0 p0)] 0 p0) (.var 7 x0 p0) p0) (.nm 21 x0 p0) (.rng p0 p0) [(.var 9 x0 p0)] [] sc0 [(x0, 20), (x0, 21)] p0)] p0) p0,
  .asg (.nm 11 x0 p0) (.tup [(.var 3 x0 p0), (.bin .Add (.var 4 x0 p0) (.var 10 x0 p0) p0), (.var 5 x0 p0)] 0 p0) p0,
  .ifs (.cmp .NotEq (.call 31 x0 p0 [(.var 11 x0 p0), (.var 6 x0 p0), (.var 7 x0 p0), (.bin .Sub (.var 8 x0 p0) (.var 9 x0 p0) p0)] p0) (.call 31 x0 p0 [(.var 2 x0 p0), (.var 6 x0 p0), (.var 7 x0 p0), (.var 8 x0 p0)] p0) p0) [.ret (.cst (.bool false) 0 p0) p0] [] p0,
  .asg (.nm 13 x0 p0) (.tup [(.var 3 x0 p0), (.blt .tuple p0 [(.lc (.var 12 x0 p0) (.nm 12 x0 p0) .one [(.var 4 x0 p0)] [(.cmp .Eq (.sub (.var 12 x0 p0) (.cst (.int 1) 0 p0) p0) (.var 6 x0 p0) p0)] sc0 [(x0, 20), (x0, 12)] p0)] p0), (.var 5 x0 p0)] 0 p0) p0,
  .ifs (.cmp .NotEq (.call 33 x0 p0 [(.var 13 x0 p0), (.var 6 x0 p0), (.var 7 x0 p0)] p0) (.call 33 x0 p0 [(.var 2 x0 p0), (.var 6 x0 p0), (.var 7 x0 p0)] p0) p0) [.ret (.cst (.bool false) 0 p0) p0] [] p0,
  .asg (.nm 14 x0 p0) (.tup [(.var 3 x0 p0), (.var 4 x0 p0), (.tup [(.sub (.var 5 x0 p0) (.cst (.int 0) 0 p0) p0), (.slc (.sub (.var 5 x0 p0) (.cst (.int 1) 0 p0) p0) none (some (.cst (.int 1) 0 p0)) p0 p0)] 0 p0)] 0 p0) p0,
  .ifs (.cmp .NotEq (.call 31 x0 p0 [(.var 14 x0 p0), (.var 6 x0 p0), (.var 7 x0 p0), (.var 8 x0 p0)] p0) (.call 31 x0 p0 [(.var 2 x0 p0), (.var 6 x0 p0), (.var 7 x0 p0), (.var 8 x0 p0)] p0) p0) [.ret (.cst (.bool false) 0 p0) p0] [] p0,
  .asg (.nm 15 x0 p0) (.tup [(.cst (.int 0) 0 p0), (.sub (.var 7 x0 p0) (.cst (.int 1) 0 p0) p0), (.cst (.int 0) 0 p0), (.cst (.int 0) 0 p0)] 0 p0) p0,
  .ifs (.cmp .Eq (.sub (.var 5 x0 p0) (.cst (.int 0) 0 p0) p0) (.cst (.str "own") 0 p0) p0) [.asg (.nm 16 x0 p0) (.call 31 x0 p0 [(.var 2 x0 p0), (.var 6 x0 p0), (.var 15 x0 p0), (.cst (.int 0) 0 p0)] p0) p0, .fors (.nm 12 x0 p0) .one [(.call 33 x0 p0 [(.var 2 x0 p0), (.var 6 x0 p0), (.var 15 x0 p0)] p0)] [.ifs (.cmp .Lt (.bin .Mult (.sub (.var 12 x0 p0) (.cst (.int 0) 0 p0) p0) (.sub (.var 16 x0 p0) (.cst (.int 1) 0 p0) p0) p0) (.bin .Mult (.sub (.var 16 x0 p0) (.cst (.int 0) 0 p0) p0) (.sub (.var 12 x0 p0) (.cst (.int 1) 0 p0) p0) p0) p0) [.ret (.cst (.bool false) 0 p0) p0] [] p0] p0] [] p0,
  .asg (.nm 17 x0 p0) (.tup [(.tup [(.bin .Add (.slc (.sub (.var 3 x0 p0) (.cst (.int 0) 0 p0) p0) none (some (.cst (.int 5) 0 p0)) p0 p0) (.tup [(.cst (.int 9) 0 p0)] 0 p0) p0)] 0 p0), (.sub (.var 13 x0 p0) (.cst (.int 1) 0 p0) p0), (.var 5 x0 p0)] 0 p0) p0,
  .ifs (.cmp .LtE (.bin .Add (.blt .len p0 [(.sub (.var 13 x0 p0) (.cst (.int 1) 0 p0) p0)] p0) (.var 8 x0 p0) p0) (.cst (.int 9) 0 p0) p0) [.asg (.nm 18 x0 p0) (.tup [(.cst (.int 0) 0 p0), (.cst (.int 1) 0 p0)] 0 p0) p0, .fors (.nm 12 x0 p0) .one [(.sub (.var 13 x0 p0) (.cst (.int 1) 0 p0) p0)] [.asg (.nm 18 x0 p0) (.call 38 x0 p0 [(.var 18 x0 p0), (.call 39 x0 p0 [(.sub (.var 12 x0 p0) (.cst (.int 3) 0 p0) p0), (.tup [(.sub (.var 12 x0 p0) (.cst (.int 2) 0 p0) p0), (.cst (.int 1) 0 p0)] 0 p0)] p0)] p0) p0] p0, .asg (.nm 19 x0 p0) (.call 39 x0 p0 [(.tup [(.bin .Mult (.var 8 x0 p0) (.sub (.var 7 x0 p0) (.cst (.int 0) 0 p0) p0) p0), (.cst (.int 1) 0 p0)] 0 p0), (.sub (.var 7 x0 p0) (.cst (.int 1) 0 p0) p0)] p0) p0, .ifs (.cmp .NotEq (.call 31 x0 p0 [(.var 17 x0 p0), (.var 6 x0 p0), (.var 7 x0 p0), (.var 8 x0 p0)] p0) (.call 38 x0 p0 [(.var 18 x0 p0), (.var 19 x0 p0)] p0) p0) [.ret (.cst (.bool false) 0 p0) p0] [] p0] [] p0,
  .ret (.cst (.bool true) 0 p0) p0]
structure Law33 (T : Nat → Option Fn) : Prop where
  S : Sell2 T ix33 hx33 sx33
  R : Draws T dx33
  worth : Has T 31 4 4 (L_worth 29 8 30 3)
  worths : Has T 33 3 3 (L_worths 29 32)
  plus : Has T 38 2 2 (L_lplus 37)
  times : Has T 39 2 2 (L_ltimes 37)
  law : Has T 45 1 22 L_law33
theorem zz_letter : ∀ k : Nat, k < 6 → ∀ M, subD M (.str "abcdef") (.int (k : Int)) = some (.str ⟨#[97 + k]⟩) := by
  intro k hk M
  have : ∀ k : Fin 6, subD [] (.str "abcdef") (.int ((k : Nat) : Int)) = some (.str ⟨#[97 + (k : Nat)]⟩) := by
    intro k
    match k with
    | ⟨0, _⟩ => rfl
    | ⟨1, _⟩ => rfl
    | ⟨2, _⟩ => rfl
    | ⟨3, _⟩ => rfl
    | ⟨4, _⟩ => rfl
    | ⟨5, _⟩ => rfl
  exact this ⟨k, hk⟩
theorem add_zz (M : Mem) (c : Nat) : binD .Add M (.str "zz") (.str ⟨#[c]⟩) = some (.str ⟨#[122, 122, c]⟩) := rfl
section
variable {mg mb : Nat} {gs : List Gd} {bs : List Bk} {w : Str} {rows : List (Int × Int)}
theorem zz_rise {n k : Nat} (hn : n ≤ 5) (hk : k ≤ 4) : riseS (bnames n ++ (List.range k).map zzName) = true := by
  have : ∀ n : Fin 6, ∀ k : Fin 5, riseS (bnames n ++ (List.range k).map zzName) = true := by decide +kernel
  exact this ⟨n, by omega⟩ ⟨k, by omega⟩
theorem DH.hv_zz (h : DH mg 5 gs bs w rows) (hm : mg ≤ 6) {z : Str} (hz : (gs.map (·.name)).contains z = true) (hw : isWord z = true) {fare : Int} {ch : Rat} {rank : Int} {ask : Option Int} (k : KV fare ch rank ask) {n : Nat} (hn : n ≤ 4) : HV gs (bs ++ zzs z fare ch rank ask n) w rows := by
  have hv := h.hv hm (by decide)
  have bl := h.bl
  have e1 : (zzs z fare ch rank ask n).map (·.name) = (List.range n).map zzName := by
    unfold zzs
    rw [List.map_map]; rfl
  refine ⟨hv.gl, hv.g, hv.gr, by simp [zzs]; omega, fun b hb => ?_, ?_, hv.w, hv.t⟩
  · rcases List.mem_append.mp hb with hb | hb
    · exact hv.b b hb
    · obtain ⟨j, hj, rfl⟩ := List.mem_map.mp hb
      have hj := List.mem_range.mp hj
      refine ⟨?_, hz, hw, k⟩
      have : ∀ j : Fin 4, isWord (zzName j) = true := by decide +kernel
      exact this ⟨j, by omega⟩
  · rw [List.map_append, h.bn, e1]
    exact zz_rise (by omega) hn
theorem HV.hv_here (hv : HV gs bs w rows) (z : Str) : HV gs (here bs z) w rows := by
  have fl : (here bs z).length ≤ bs.length := List.length_filter_le _ _
  have bl := hv.bl
  refine ⟨hv.gl, hv.g, hv.gr, by omega, fun b hb => hv.b b (List.mem_filter.mp hb).1, ?_, hv.w, hv.t⟩
  have := ris_here (ris_of hv.br) z
  rw [riseS_iff, List.pairwise_map]
  exact this
theorem HV.hv_first {p : Int × Int} (hv : HV gs bs w (p :: rows)) : HV gs bs w [p] := by
  refine ⟨hv.gl, hv.g, hv.gr, hv.bl, hv.b, hv.br, hv.w, ?_⟩
  obtain ⟨q, r, e⟩ := hv.t.first
  refine ⟨fun x hx => hv.t.in1 x (by rw [List.mem_singleton.mp hx]; exact List.mem_cons_self), rfl, rfl, ⟨q, [], ?_⟩, by show 1 ≤ 1000; decide⟩
  cases e; rfl
theorem HV.hv_wide {z : Str} {g : Gd} (hv : HV gs bs w rows) (hg : g ∈ gs) (hb : ∀ b ∈ bs, b.going = g.name) {s : Int} (hs : 1 ≤ s ∧ s ≤ 9) : HV [{ g with seats := s }] bs w rows := by
  have gv := hv.g g hg
  refine ⟨by show 1 ≤ 1 ∧ 1 ≤ 6; decide, fun x hx => ?_, rfl, hv.bl, fun b hb' => ?_, hv.br, hv.w, hv.t⟩
  · rw [List.mem_singleton.mp hx]
    exact ⟨gv.name, gv.fr, gv.to, gv.ne, gv.lv, gv.cm, gv.lt, hs⟩
  · have bv := hv.b b hb'
    refine ⟨bv.name, ?_, bv.gw, bv.k⟩
    rw [hb b hb']
    simp
end
end L2.Z
set_option Elab.async false
set_option linter.all false
set_option maxRecDepth 100000
set_option maxHeartbeats 4000000
set_option exponentiation.threshold 9000
/-! ### k33: the law's own run, to its end -/
namespace L2.Z
open PySem
def L_idle_turn : List S := [.ifs (.cmp .Lt (.bin .Mult (.sub (.var 12 x0 p0) (.cst (.int 0) 0 p0) p0) (.sub (.var 16 x0 p0) (.cst (.int 1) 0 p0) p0) p0) (.bin .Mult (.sub (.var 16 x0 p0) (.cst (.int 0) 0 p0) p0) (.sub (.var 12 x0 p0) (.cst (.int 1) 0 p0) p0) p0) p0) [.ret (.cst (.bool false) 0 p0) p0] [] p0]
def L_fare_turn : List S := [.asg (.nm 18 x0 p0) (.call 38 x0 p0 [(.var 18 x0 p0), (.call 39 x0 p0 [(.sub (.var 12 x0 p0) (.cst (.int 3) 0 p0) p0), (.tup [(.sub (.var 12 x0 p0) (.cst (.int 2) 0 p0) p0), (.cst (.int 1) 0 p0)] 0 p0)] p0)] p0) p0]
def L_tail33 : List S := [
  .asg (.nm 17 x0 p0) (.tup [(.tup [(.bin .Add (.slc (.sub (.var 3 x0 p0) (.cst (.int 0) 0 p0) p0) none (some (.cst (.int 5) 0 p0)) p0 p0) (.tup [(.cst (.int 9) 0 p0)] 0 p0) p0)] 0 p0), (.sub (.var 13 x0 p0) (.cst (.int 1) 0 p0) p0), (.var 5 x0 p0)] 0 p0) p0,
  .ifs (.cmp .LtE (.bin .Add (.blt .len p0 [(.sub (.var 13 x0 p0) (.cst (.int 1) 0 p0) p0)] p0) (.var 8 x0 p0) p0) (.cst (.int 9) 0 p0) p0) [.asg (.nm 18 x0 p0) (.tup [(.cst (.int 0) 0 p0), (.cst (.int 1) 0 p0)] 0 p0) p0, .fors (.nm 12 x0 p0) .one [(.sub (.var 13 x0 p0) (.cst (.int 1) 0 p0) p0)] [.asg (.nm 18 x0 p0) (.call 38 x0 p0 [(.var 18 x0 p0), (.call 39 x0 p0 [(.sub (.var 12 x0 p0) (.cst (.int 3) 0 p0) p0), (.tup [(.sub (.var 12 x0 p0) (.cst (.int 2) 0 p0) p0), (.cst (.int 1) 0 p0)] 0 p0)] p0)] p0) p0] p0, .asg (.nm 19 x0 p0) (.call 39 x0 p0 [(.tup [(.bin .Mult (.var 8 x0 p0) (.sub (.var 7 x0 p0) (.cst (.int 0) 0 p0) p0) p0), (.cst (.int 1) 0 p0)] 0 p0), (.sub (.var 7 x0 p0) (.cst (.int 1) 0 p0) p0)] p0) p0, .ifs (.cmp .NotEq (.call 31 x0 p0 [(.var 17 x0 p0), (.var 6 x0 p0), (.var 7 x0 p0), (.var 8 x0 p0)] p0) (.call 38 x0 p0 [(.var 18 x0 p0), (.var 19 x0 p0)] p0) p0) [.ret (.cst (.bool false) 0 p0) p0] [] p0] [] p0,
  .ret (.cst (.bool true) 0 p0) p0]
section
variable {T : Nat → Option Fn} {sub : Nat → Nat → Bool}
/-- a walk over alike worths that only looks -/
theorem idle_loop (C : Cfg) (M : Mem) (q : Rat) (tq : Tame q) (pre : List (Option D)) (hp : pre.length = 12) (o13 o14 o15 o17 o18 o19 o20 o21 : Option D) : ∀ (l : List Rat) (o12 : Option D), (∀ x ∈ l, x = q) → ∃ p12, forW C (pre ++ [o12, o13, o14, o15, some (rd q), o17, o18, o19, o20, o21]) M (.nm 12 x0 p0) L_idle_turn (rds l) = .ok (.nx (pre ++ [p12, o13, o14, o15, some (rd q), o17, o18, o19, o20, o21])) M
  | [], o12, _ => ⟨o12, rfl⟩
  | x :: l, o12, h => by
    have hx : x = q := h x List.mem_cons_self
    subst hx
    obtain ⟨p12, ih⟩ := idle_loop C M x tq pre hp o13 o14 o15 o17 o18 o19 o20 o21 l (some (rd x)) fun y hy => h y (List.mem_cons_of_mem _ hy)
    refine ⟨p12, ?_⟩
    have e : rds (x :: l) = rd x :: rds l := rfl
    have lt : ∀ M, cmpD .Lt M (.int (x.num * (x.den : Int))) (.int (x.num * (x.den : Int))) = some false := fun M => by rw [cmp_lt_intN]; simp
    match pre, hp with
    | [a0, a1, a2, a3, a4, a5, a6, a7, a8, a9, a10, a11], _ =>
      rw [e, forW_cons]
      unfold L_idle_turn
      simp only [ends_rtN, ends_nxN, ends_excN, bind_okN, bind_excN, ret_someN, retB_someN, retL_someN, retE_someN, ev_var, ev_cst, ev_gint, ev_gstr, ev_gfn, ev_bin, ev_neg, ev_not, ev_bop, ev_cmp, ev_chain, ev_ite, ev_call, ev_isi, ev_blt, ev_mth, ev_sub, ev_slc, ev_tup, ev_lst, ev_lc, ev_live, ev_srt, ev_srk, evs_nil, evs_cons, evx_nil, evx_cons, evO_none, evO_some, evB_one, evB_and, evB_or, evT_nil, evT_one, exs_nil, exs_cons, nxt_nxN, nxt_rtN, nxt_excN, ex_asg, ex_own, ex_par, ex_app, ex_exn, ex_sti, ex_sto, ex_aug, ex_exp, ex_ret, ex_ifs, ex_fors, ex_whl, ex_rse, ex_tri, ex_frz, cstD, Tg.put, Tg.puts, startD, wipeD, kept_intN, kept_blN, kept_strN, kept_nonN, kept_tupN, kept_lstN, kept_extN, kept_refN, kept_fnN, kept_excN, cmp_eq_int, cmp_ne_int, cmp_lt_intN, cmp_le_intN, cmp_gt_intN, cmp_ge_intN, List.map_cons, List.map_nil, List.length_cons, List.length_nil, Nat.reduceAdd, Nat.reduceSub, Nat.reduceLeDiff, List.replicate, List.cons_append, List.nil_append, List.append_nil, List.getElem?_cons_zero, List.getElem?_cons_succ, List.getElem?_nil, List.set_cons_zero, List.set_cons_succ, List.all_cons, List.all_nil, nown, Bool.and_true, Bool.true_and, Bool.and_false, Bool.false_and, if_true, if_false, Bool.false_eq_true, Bool.not_true, Bool.not_false, reduceIte, len6, Int.cast_ofNat_Int, beq_self_eq_true, Int.reduceBEq, Int.reduceAdd, Int.reduceNeg, decide_true, decide_false, Int.reduceLT, Int.reduceLE, Int.reduceToNat, sub_rd0, sub_rd1, mul_int _ _ _ tq.n1 tq.d1, lt]
      exact ih
theorem fare_loop (hp : Has T 38 2 2 (L_lplus 37)) (ht : Has T 39 2 2 (L_ltimes 37)) (hw : Has T 37 2 4 L_lowest) (n : Nat) (hn : 2 ≤ n) (M : Mem) (pre : List (Option D)) (hpre : pre.length = 12) (o13 o14 o15 o16 o17 o19 o20 o21 : Option D) : ∀ (l : List Bk) (k : Nat) (s : Rat) (o12 : Option D), Sz 420 (1000 * k) s → (∀ b ∈ l, Un1 420 b.ch ∧ 0 ≤ b.fare ∧ b.fare ≤ 999) → k + l.length ≤ 100 →
    (∃ p12, forW ⟨callF T sub FUEL n, sub, FUEL⟩ (pre ++ [o12, o13, o14, o15, o16, o17, some (rd s), o19, o20, o21]) M (.nm 12 x0 p0) L_fare_turn (l.map bkD) = .ok (.nx (pre ++ [p12, o13, o14, o15, o16, o17, some (rd (s + faresQ l)), o19, o20, o21])) M) ∧ Sz 420 (1000 * (k + l.length)) (s + faresQ l)
  | [], k, s, o12, hs, _, _ => by
    refine ⟨⟨o12, ?_⟩, ?_⟩
    · rw [fares_nil, show s + 0 = s by grind]; rfl
    · rw [fares_nil, show s + 0 = s by grind]; exact hs
  | b :: l, k, s, o12, hs, hl, hk => by
    rw [List.length_cons] at hk
    obtain ⟨hc, hf⟩ := hl b List.mem_cons_self
    have sf : Sz 1 1000 (b.fare : Rat) := Sz.int (by decide) (by omega)
    have sp : Sz 420 1000 (b.ch * (b.fare : Rat)) := by
      have := hc.sz.mul sf
      rwa [Nat.mul_one, Nat.one_mul] at this
    have s1 : Sz 420 (1000 * (k + 1)) (s + b.ch * (b.fare : Rat)) := by
      rw [Nat.mul_add, Nat.mul_one]; exact hs.add sp
    have t0 : ∀ x : Rat, ∀ B, Sz 420 B x → B ≤ 1000 * 101 → Tame x := fun x B h hB => h.tame (Nat.lt_of_le_of_lt (Nat.mul_le_mul_right _ (Nat.succ_le_succ hB)) (Nat.lt_of_lt_of_le (show _ < 2 ^ 30 by decide) (pow_le' (by decide))))
    have tc : Tame b.ch := t0 _ _ hc.sz (by decide)
    have tf : Tame (b.fare : Rat) := t0 _ _ (sf.up (Nat.one_dvd _) (by decide)) (by decide)
    have tp : Tame (b.ch * (b.fare : Rat)) := t0 _ _ sp (by decide)
    have ts : Tame s := t0 _ _ hs (by omega)
    have r1 := run_ltimes (sub := sub) hw ht tc tf n hn
    have r2 := run_lplus (sub := sub) hw hp ts tp n hn
    have r1' : ∀ M, callF T sub FUEL n 39 [rd b.ch, .tup [.int b.fare, .int 1]] M = .ok (rd (b.ch * (b.fare : Rat))) M := r1
    obtain ⟨⟨p12, ih⟩, ih2⟩ := fare_loop hp ht hw n hn M pre hpre o13 o14 o15 o16 o17 o19 o20 o21 l (k + 1) (s + b.ch * (b.fare : Rat)) (some (bkD b)) s1 (fun x hx => hl x (List.mem_cons_of_mem _ hx)) (by omega)
    have ea : s + b.ch * (b.fare : Rat) + faresQ l = s + faresQ (b :: l) := by rw [fares_cons]; grind
    rw [ea] at ih ih2
    refine ⟨⟨p12, ?_⟩, by rw [List.length_cons, show k + (l.length + 1) = k + 1 + l.length by omega]; exact ih2⟩
    have s2 : ∀ M, subD M (bkD b) (.int 2) = some (.int b.fare) := fun M => sub_t2 M _ _ _ _
    have s3 : ∀ M, subD M (bkD b) (.int 3) = some (rd b.ch) := fun M => sub_t3 M _ _ _ _ _
    match pre, hpre with
    | [a0, a1, a2, a3, a4, a5, a6, a7, a8, a9, a10, a11], _ =>
      rw [List.map_cons, forW_cons]
      unfold L_fare_turn
      simp only [ends_rtN, ends_nxN, ends_excN, bind_okN, bind_excN, ret_someN, retB_someN, retL_someN, retE_someN, ev_var, ev_cst, ev_gint, ev_gstr, ev_gfn, ev_bin, ev_neg, ev_not, ev_bop, ev_cmp, ev_chain, ev_ite, ev_call, ev_isi, ev_blt, ev_mth, ev_sub, ev_slc, ev_tup, ev_lst, ev_lc, ev_live, ev_srt, ev_srk, evs_nil, evs_cons, evx_nil, evx_cons, evO_none, evO_some, evB_one, evB_and, evB_or, evT_nil, evT_one, exs_nil, exs_cons, nxt_nxN, nxt_rtN, nxt_excN, ex_asg, ex_own, ex_par, ex_app, ex_exn, ex_sti, ex_sto, ex_aug, ex_exp, ex_ret, ex_ifs, ex_fors, ex_whl, ex_rse, ex_tri, ex_frz, cstD, Tg.put, Tg.puts, startD, wipeD, kept_intN, kept_blN, kept_strN, kept_nonN, kept_tupN, kept_lstN, kept_extN, kept_refN, kept_fnN, kept_excN, cmp_eq_int, cmp_ne_int, cmp_lt_intN, cmp_le_intN, cmp_gt_intN, cmp_ge_intN, List.map_cons, List.map_nil, List.length_cons, List.length_nil, Nat.reduceAdd, Nat.reduceSub, Nat.reduceLeDiff, List.replicate, List.cons_append, List.nil_append, List.append_nil, List.getElem?_cons_zero, List.getElem?_cons_succ, List.getElem?_nil, List.set_cons_zero, List.set_cons_succ, List.all_cons, List.all_nil, nown, Bool.and_true, Bool.true_and, Bool.and_false, Bool.false_and, if_true, if_false, Bool.false_eq_true, Bool.not_true, Bool.not_false, reduceIte, len6, Int.cast_ofNat_Int, beq_self_eq_true, Int.reduceBEq, Int.reduceAdd, Int.reduceNeg, decide_true, decide_false, Int.reduceLT, Int.reduceLE, Int.reduceToNat, s2, s3, kept_rd, r1', r2]
      exact ih
theorem zz_lc (C : Cfg) (M : Mem) (z : Str) (fare : Int) (ch : Rat) (rank : Int) (ask : Option Int) (a0 a1 a2 a3 a4 a5 a8 a9 : Option D) (m : Nat) (hm : m ≤ 4) : lcW C [a0, a1, a2, a3, a4, a5, some (.str z), some (kindD fare ch rank ask), a8, a9, none, none, none, none, none, none, none, none, none, none, none, none] M (.bin .Add (.tup [(.bin .Add (.cst (.str "zz") 0 p0) (.sub (.cst (.str "abcdef") 0 p0) (.var 21 x0 p0) p0) p0), (.var 6 x0 p0)] 0 p0) (.var 7 x0 p0) p0) (.nm 21 x0 p0) [] [20, 21] ((List.range m).map fun k => .int (k : Nat)) = .ok ((zzs z fare ch rank ask m).map bkD) M := by
  unfold zzs
  rw [List.map_map]
  exact lcW_mapE (fun k : Nat => D.int (k : Nat)) (bkD ∘ zzBk z fare ch rank ask) (List.range m) fun k hk => by
    have hk12 : k < 6 := by have := List.mem_range.mp hk; omega
    refine ⟨_, rfl, by rw [evT_nil], ?_, rfl⟩
    simp only [ends_rtN, ends_nxN, ends_excN, bind_okN, bind_excN, ret_someN, retB_someN, retL_someN, retE_someN, ev_var, ev_cst, ev_gint, ev_gstr, ev_gfn, ev_bin, ev_neg, ev_not, ev_bop, ev_cmp, ev_chain, ev_ite, ev_call, ev_isi, ev_blt, ev_mth, ev_sub, ev_slc, ev_tup, ev_lst, ev_lc, ev_live, ev_srt, ev_srk, evs_nil, evs_cons, evx_nil, evx_cons, evO_none, evO_some, evB_one, evB_and, evB_or, evT_nil, evT_one, exs_nil, exs_cons, nxt_nxN, nxt_rtN, nxt_excN, ex_asg, ex_own, ex_par, ex_app, ex_exn, ex_sti, ex_sto, ex_aug, ex_exp, ex_ret, ex_ifs, ex_fors, ex_whl, ex_rse, ex_tri, ex_frz, cstD, Tg.put, Tg.puts, startD, wipeD, kept_intN, kept_blN, kept_strN, kept_nonN, kept_tupN, kept_lstN, kept_extN, kept_refN, kept_fnN, kept_excN, cmp_eq_int, cmp_ne_int, cmp_lt_intN, cmp_le_intN, cmp_gt_intN, cmp_ge_intN, List.map_cons, List.map_nil, List.length_cons, List.length_nil, Nat.reduceAdd, Nat.reduceSub, Nat.reduceLeDiff, List.replicate, List.cons_append, List.nil_append, List.append_nil, List.getElem?_cons_zero, List.getElem?_cons_succ, List.getElem?_nil, List.set_cons_zero, List.set_cons_succ, List.all_cons, List.all_nil, nown, Bool.and_true, Bool.true_and, Bool.and_false, Bool.false_and, if_true, if_false, Bool.false_eq_true, Bool.not_true, Bool.not_false, reduceIte, len6, Int.cast_ofNat_Int, beq_self_eq_true, Int.reduceBEq, Int.reduceAdd, Int.reduceNeg, decide_true, decide_false, Int.reduceLT, Int.reduceLE, Int.reduceToNat, zz_letter k hk12, add_zz, kindD]
    rw [add_tup _ [D.str ⟨#[122, 122, 97 + k]⟩, D.str z] [D.int fare, rd ch, D.int rank, askD ask] (show 6 ≤ sizeLine by decide)]
    rfl
theorem law33 (R : Law33 T) (ns : List Int) (hl : ns.length ≤ 63) (n : Nat) (hn : 12 ≤ n) : ∃ M, callF T sub FUEL n 45 [.ext (ns.map .int)] [] = .ok (.bl true) M := by
  obtain ⟨j, rfl⟩ : ∃ j, n = j + 1 := ⟨n - 1, by omega⟩
  have j1 : 1 ≤ j := by omega
  have t1 : callF T sub FUEL j 34 [.ext (ns.map .int)] [] = .ok (.ref 0) [townC 0 ns] := run_town (sub := sub) (fuel := FUEL) R.R.town ns hl j j1 []
  have tn0 : Town ns 0 [] [townC 0 ns] := town0 ns []
  obtain ⟨gs, bs, w, rows, M1, e1, tn1, dh⟩ := run_drawn (sub := sub) R.R hl tn0 (by decide) 2 5 (by decide) (by decide) (by decide) (by decide) j (by omega)
  have hv := dh.hv (by decide) (by decide)
  obtain ⟨q, rest, hr⟩ := hv.t.first
  obtain ⟨g, gt, hgs⟩ : ∃ g gt, gs = g :: gt := by
    cases gs with
    | nil => have := dh.gl; simp at this
    | cons g gt => exact ⟨g, gt, rfl⟩
  have hg0 : gs[0]? = some g := by rw [hgs]; rfl
  have go := dh.g 0 g hg0
  obtain ⟨s, hs, s1, s2⟩ := go.seats
  have gm : g ∈ gs := by rw [hgs]; exact List.mem_cons_self
  obtain ⟨kb, M2, e2, tn2, kn, _, kk⟩ := run_booking (sub := sub) R.R.draw R.R.pick R.R.low R.R.chance R.R.booking hl tn1 (by decide) "a" gs (by have := dh.gl; omega) (by have := dh.gl; omega) j (by omega)
  obtain ⟨vm, M3, e3, tn3, hvm⟩ := run_drawT (sub := sub) R.R.draw hl tn2 (by decide) 4 (by decide) (by decide) j (by omega)
  obtain ⟨vb, M4, e4, tn4, hvb⟩ := run_drawT (sub := sub) R.R.draw hl tn3 (by decide) (vm + 1 + 1) (by omega) (Nat.lt_of_lt_of_le (show _ < 2 ^ 4 by omega) (pow_le' (by decide))) j (by omega)
  obtain ⟨z, hz⟩ : ∃ z, g.name = z := ⟨_, rfl⟩
  obtain ⟨fare, hfare⟩ : ∃ x, kb.fare = x := ⟨_, rfl⟩
  obtain ⟨ch, hch⟩ : ∃ x, kb.ch = x := ⟨_, rfl⟩
  obtain ⟨rank, hrank⟩ : ∃ x, kb.rank = x := ⟨_, rfl⟩
  obtain ⟨ask, hask⟩ : ∃ x, kb.ask = x := ⟨_, rfl⟩
  obtain ⟨m, hm⟩ : ∃ m : Nat, (1 : Int) + (vm : Int) = (m : Int) := ⟨vm + 1, by omega⟩
  have hm' : m = vm + 1 := by omega
  rw [hfare, hch, hrank, hask] at kk
  have kv := kk.kv
  have cb : ∀ b ∈ bs, Un1 420 b.ch := fun b hb => (dh.b b hb).2.ch.un
  have cc : Un1 420 ch := kk.ch.un
  have hfind : gs.find? (fun g => g.name == z) = some g := by rw [hgs, List.find?_cons, hz]; simp
  have hzc : (gs.map (·.name)).contains z = true := find_in hfind
  have hzw : isWord z = true := by rw [← hz]; exact (hv.g g gm).name
  have zok := (word_ok hzw).1
  have one := dh.one (by decide)
  have ris := dh.ris (by decide)
  have asks : ∀ b ∈ bs, ∀ a, b.ask = some a → 0 ≤ a := fun b hb a e => ((dh.b b hb).2.ask a e).1
  refine ⟨M4, ?_⟩
  subst hr
  -- the houses
  have hvz := dh.hv_zz (by decide) hzc hzw kv (n := vb) (by omega)
  have hvh := hv.hv_here z
  have hvf := hv.hv_first
  have hvw := HV.hv_wide (z := z) hvh gm (fun b hb => by rw [hz]; exact eq_of_beq (List.mem_filter.mp hb).2) (s := 9) (by decide)
  have kvi : KV 0 ch 0 (some 0) := ⟨by decide, kv.pos, kv.le, kv.den, by decide, fun a e => by cases e; decide⟩
  have cbz : ∀ b ∈ bs ++ zzs z fare ch rank ask vb, Un1 420 b.ch := fun b hb => by
    rcases List.mem_append.mp hb with hb | hb
    · exact cb b hb
    · rw [(zzs_k b hb).2.1]; exact cc
  have cbh : ∀ b ∈ here bs z, Un1 420 b.ch := fun b hb => cb b (List.mem_filter.mp hb).1
  have a0 := ask_of hv hfind hs kv cb cc
  have az := ask_of hvz hfind hs kv cbz cc
  have ah := ask_of hvh hfind hs kv cbh cc
  have af := ask_of hvf hfind hs kv cb cc
  have ai := ask_of hv hfind hs kvi cb cc
  have aw := ask_of (g := { g with seats := 9 }) (seats := 9) hvw (z := z) (by rw [List.find?_cons, show (({ g with seats := 9 } : Gd).name == z) = true by rw [← hz]; exact beq_self_eq_true _]) rfl kv cbh cc
  have e1' : callF T sub FUEL j 44 [.ext (ns.map .int), .ref 0, .int 2, .int 5] [townC 0 ns] = .ok (.tup [.tup (gs.map gdD), .tup (bs.map bkD), .tup [.str w, .tup (rowD (0, q) :: rest.map rowD)]]) M1 := e1
  have e2' : callF T sub FUEL j 42 [.ext (ns.map .int), .ref 0, .str "a", .tup (gs.map gdD)] M1 = .ok (bkD kb) M2 := e2
  have e3' : callF T sub FUEL j 35 [.ext (ns.map .int), .ref 0, .int 4] M2 = .ok (.int (vm : Int)) M3 := e3
  have em1 : (m : Int) + 1 = ((vm + 1 + 1 : Nat) : Int) := by omega
  have e4' : callF T sub FUEL j 35 [.ext (ns.map .int), .ref 0, .int ((vm + 1 + 1 : Nat) : Int)] M3 = .ok (.int (vb : Int)) M4 := e4
  have em2 : (m : Int) - (vb : Int) = ((m - vb : Nat) : Int) := by omega
  have sk : ∀ M, slcD M (bkD kb) (some 2) none = some (kindD fare ch rank ask) := fun M => by
    rw [← hfare, ← hch, ← hrank, ← hask]
    unfold bkD
    rw [slc_tup, cut2]; rfl
  have kK : ∀ M, kept (kindD fare ch rank ask) M = .ok (kindD fare ch rank ask) M := fun _ => rfl
  have sG : ∀ M, subD M (.tup (gs.map gdD)) (.int 0) = some (gdD g) := fun M => by rw [hgs]; exact sub_t0 M _ _
  have sg0 : ∀ M, subD M (gdD g) (.int 0) = some (.str z) := fun M => by rw [← hz]; exact sub_t0 M _ _
  have kG : ∀ M, kept (gdD g) M = .ok (gdD g) M := fun _ => rfl
  have zl := fun a0 a1 a2 a3 a4 a5 a8 a9 M => zz_lc ⟨callF T sub FUEL j, sub, FUEL⟩ M z fare ch rank ask a0 a1 a2 a3 a4 a5 a8 a9 vb (by omega)
  have bl := dh.bl
  have zlen : (zzs z fare ch rank ask vb).length = vb := by simp [zzs]
  have bz : ((zzs z fare ch rank ask vb).map bkD).length ≤ sizeLine := big_le (by rw [List.length_map, zlen]; omega)
  have tp : ∀ (xs : List D) M, bltD .tuple M [.lst xs] = some (.tup xs) := fun xs M => rfl
  have ad : ∀ M, binD .Add M (.tup (bs.map bkD)) (.tup ((zzs z fare ch rank ask vb).map bkD)) = some (.tup ((bs ++ zzs z fare ch rank ask vb).map bkD)) := fun M => by
    rw [add_tup M _ _ (by rw [List.length_map, List.length_map, zlen]; exact big_le (by omega)), List.map_append]
  have c1 : ∀ M, callF T sub FUEL j 31 [.tup [.tup (gs.map gdD), .tup ((bs ++ zzs z fare ch rank ask vb).map bkD), .tup [.str w, .tup (rowD (0, q) :: rest.map rowD)]], .str z, kindD fare ch rank ask, .int ((m - vb : Nat) : Int)] M = .ok (rd (Wm bs w (0, q) z s fare ch rank ask m)) M := fun M => by
    rw [← W_zz one ris w (0, q) z s fare ch rank ask vb m (by omega)]
    exact az.worth (sub := sub) R.S R.worth (m - vb) (by omega) j (by omega) M
  have c2 : ∀ M, callF T sub FUEL j 31 [.tup [.tup (gs.map gdD), .tup (bs.map bkD), .tup [.str w, .tup (rowD (0, q) :: rest.map rowD)]], .str z, kindD fare ch rank ask, .int (m : Int)] M = .ok (rd (Wm bs w (0, q) z s fare ch rank ask m)) M := fun M => a0.worth (sub := sub) R.S R.worth m (by omega) j (by omega) M
  have nes : ∀ (x : Rat) M, cmpD .NotEq M (rd x) (rd x) = some false := fun x M => by rw [ne_rd]; simp
  have neL : ∀ (x : List Rat) M, cmpD .NotEq M (.lst (rds x)) (.lst (rds x)) = some false := fun x M => by rw [ne_rds]; simp
  have hlc : ∀ a0 a1 a2 a3 a4 a5 a7 a8 a9 a10 a11 M, lcW ⟨callF T sub FUEL j, sub, FUEL⟩ [a0, a1, a2, a3, a4, a5, some (.str z), a7, a8, a9, a10, a11, none, none, none, none, none, none, none, none, none, none] M (.var 12 x0 p0) (.nm 12 x0 p0) [(.cmp .Eq (.sub (.var 12 x0 p0) (.cst (.int 1) 0 p0) p0) (.var 6 x0 p0) p0)] [20, 12] (bs.map bkD) = .ok ((here bs z).map bkD) M := fun a0 a1 a2 a3 a4 a5 a7 a8 a9 a10 a11 M =>
    lcW_filtE bkD bkD (fun b => b.going == z) bs fun x hx => by
      have s1 : ∀ M, subD M (bkD x) (.int 1) = some (.str x.going) := fun M => sub_t1 M _ _ _
      refine ⟨_, rfl, ?_, fun _ => ⟨?_, rfl⟩⟩
      · simp only [ends_rtN, ends_nxN, ends_excN, bind_okN, bind_excN, ret_someN, retB_someN, retL_someN, retE_someN, ev_var, ev_cst, ev_gint, ev_gstr, ev_gfn, ev_bin, ev_neg, ev_not, ev_bop, ev_cmp, ev_chain, ev_ite, ev_call, ev_isi, ev_blt, ev_mth, ev_sub, ev_slc, ev_tup, ev_lst, ev_lc, ev_live, ev_srt, ev_srk, evs_nil, evs_cons, evx_nil, evx_cons, evO_none, evO_some, evB_one, evB_and, evB_or, evT_nil, evT_one, exs_nil, exs_cons, nxt_nxN, nxt_rtN, nxt_excN, ex_asg, ex_own, ex_par, ex_app, ex_exn, ex_sti, ex_sto, ex_aug, ex_exp, ex_ret, ex_ifs, ex_fors, ex_whl, ex_rse, ex_tri, ex_frz, cstD, Tg.put, Tg.puts, startD, wipeD, kept_intN, kept_blN, kept_strN, kept_nonN, kept_tupN, kept_lstN, kept_extN, kept_refN, kept_fnN, kept_excN, cmp_eq_int, cmp_ne_int, cmp_lt_intN, cmp_le_intN, cmp_gt_intN, cmp_ge_intN, List.map_cons, List.map_nil, List.length_cons, List.length_nil, Nat.reduceAdd, Nat.reduceSub, Nat.reduceLeDiff, List.replicate, List.cons_append, List.nil_append, List.append_nil, List.getElem?_cons_zero, List.getElem?_cons_succ, List.getElem?_nil, List.set_cons_zero, List.set_cons_succ, List.all_cons, List.all_nil, nown, Bool.and_true, Bool.true_and, Bool.and_false, Bool.false_and, if_true, if_false, Bool.false_eq_true, Bool.not_true, Bool.not_false, reduceIte, len6, Int.cast_ofNat_Int, beq_self_eq_true, Int.reduceBEq, Int.reduceAdd, Int.reduceNeg, decide_true, decide_false, Int.reduceLT, Int.reduceLE, Int.reduceToNat, s1, eq_str _ _ _ (hv.ok.bok x hx).2 zok]
      · simp only [ends_rtN, ends_nxN, ends_excN, bind_okN, bind_excN, ret_someN, retB_someN, retL_someN, retE_someN, ev_var, ev_cst, ev_gint, ev_gstr, ev_gfn, ev_bin, ev_neg, ev_not, ev_bop, ev_cmp, ev_chain, ev_ite, ev_call, ev_isi, ev_blt, ev_mth, ev_sub, ev_slc, ev_tup, ev_lst, ev_lc, ev_live, ev_srt, ev_srk, evs_nil, evs_cons, evx_nil, evx_cons, evO_none, evO_some, evB_one, evB_and, evB_or, evT_nil, evT_one, exs_nil, exs_cons, nxt_nxN, nxt_rtN, nxt_excN, ex_asg, ex_own, ex_par, ex_app, ex_exn, ex_sti, ex_sto, ex_aug, ex_exp, ex_ret, ex_ifs, ex_fors, ex_whl, ex_rse, ex_tri, ex_frz, cstD, Tg.put, Tg.puts, startD, wipeD, kept_intN, kept_blN, kept_strN, kept_nonN, kept_tupN, kept_lstN, kept_extN, kept_refN, kept_fnN, kept_excN, cmp_eq_int, cmp_ne_int, cmp_lt_intN, cmp_le_intN, cmp_gt_intN, cmp_ge_intN, List.map_cons, List.map_nil, List.length_cons, List.length_nil, Nat.reduceAdd, Nat.reduceSub, Nat.reduceLeDiff, List.replicate, List.cons_append, List.nil_append, List.append_nil, List.getElem?_cons_zero, List.getElem?_cons_succ, List.getElem?_nil, List.set_cons_zero, List.set_cons_succ, List.all_cons, List.all_nil, nown, Bool.and_true, Bool.true_and, Bool.and_false, Bool.false_and, if_true, if_false, Bool.false_eq_true, Bool.not_true, Bool.not_false, reduceIte, len6, Int.cast_ofNat_Int, beq_self_eq_true, Int.reduceBEq, Int.reduceAdd, Int.reduceNeg, decide_true, decide_false, Int.reduceLT, Int.reduceLE, Int.reduceToNat]
  have bh : ((here bs z).map bkD).length ≤ sizeLine := big_le (by rw [List.length_map]; have : (here bs z).length ≤ bs.length := List.length_filter_le _ _; omega)
  have WH : Wm (here bs z) w (0, q) z s fare ch rank ask = Wm bs w (0, q) z s fare ch rank ask := funext fun m => W_here bs w (0, q) z s fare ch rank ask m
  have c3 : ∀ M, callF T sub FUEL j 33 [.tup [.tup (gs.map gdD), .tup ((here bs z).map bkD), .tup [.str w, .tup (rowD (0, q) :: rest.map rowD)]], .str z, kindD fare ch rank ask] M = .ok (.lst (rds (WL (Wm bs w (0, q) z s fare ch rank ask)))) M := fun M => by
    rw [← WH]
    exact ah.worths (sub := sub) R.S R.worths j (by omega) M
  have c4 : ∀ M, callF T sub FUEL j 33 [.tup [.tup (gs.map gdD), .tup (bs.map bkD), .tup [.str w, .tup (rowD (0, q) :: rest.map rowD)]], .str z, kindD fare ch rank ask] M = .ok (.lst (rds (WL (Wm bs w (0, q) z s fare ch rank ask)))) M := fun M => a0.worths (sub := sub) R.S R.worths j (by omega) M
  have cutr : ∀ M, slcD M (.tup (rowD (0, q) :: rest.map rowD)) none (some 1) = some (.tup [rowD (0, q)]) := fun M => by
    rw [slc_tup, show (some (1 : Int)) = some ((1 : Nat) : Int) from rfl, cut_to]; rfl
  have c5 : ∀ M, callF T sub FUEL j 31 [.tup [.tup (gs.map gdD), .tup (bs.map bkD), .tup [.str w, .tup [rowD (0, q)]]], .str z, kindD fare ch rank ask, .int (m : Int)] M = .ok (rd (Wm bs w (0, q) z s fare ch rank ask m)) M := fun M => af.worth (sub := sub) R.S R.worth m (by omega) j (by omega) M
  have sK : ∀ M, subD M (kindD fare ch rank ask) (.int 1) = some (rd ch) := fun M => sub_t1 M _ _ _
  have sK0 : ∀ M, subD M (kindD fare ch rank ask) (.int 0) = some (.int fare) := fun M => sub_t0 M _ _
  have wok := hv.ok.wok
  have own1 : PyData.strOk ("own" : Str) = true := by decide +kernel
  have ew : ∀ M, cmpD .Eq M (.str w) (.str "own") = some (w == "own") := fun M => eq_str M w "own" wok own1
  -- the last part
  have cg : ∀ M, slcD M (gdD g) none (some 5) = some (.tup [.str g.name, .str g.fr, .str g.to, .int g.lv, .int g.cm]) := fun M => by
    unfold gdD
    rw [slc_tup, show (some (5 : Int)) = some ((5 : Nat) : Int) from rfl, cut_to]; rfl
  have ad9 : ∀ M, binD .Add M (.tup [.str g.name, .str g.fr, .str g.to, .int g.lv, .int g.cm]) (.tup [.int 9]) = some (gdD { g with seats := 9 }) := fun M => add_tup M [.str g.name, .str g.fr, .str g.to, .int g.lv, .int g.cm] [.int 9] (show 6 ≤ sizeLine by decide)
  have k9 : ∀ M, kept (gdD { g with seats := 9 }) M = .ok (gdD { g with seats := 9 }) M := fun _ => rfl
  have c6 : ∀ M, callF T sub FUEL j 31 [.tup [.tup [gdD { g with seats := 9 }], .tup ((here bs z).map bkD), .tup [.str w, .tup (rowD (0, q) :: rest.map rowD)]], .str z, kindD fare ch rank ask, .int (m : Int)] M = .ok (rd (Wm (here bs z) w (0, q) z 9 fare ch rank ask m)) M := fun M => aw.worth (sub := sub) R.S R.worth m (by omega) j (by omega) M
  have hlen : ∀ M, bltD .len M [.tup ((here bs z).map bkD)] = some (.int ((here bs z).length : Int)) := fun M => by rw [len_tup, List.length_map]
  have fin : ∀ (a2 a12 a14 a15 a16 : Option D), ends (exs ⟨callF T sub FUEL j, sub, FUEL⟩ L_tail33 [some (.ext (ns.map .int)), some (.ref 0), a2, some (.tup (gs.map gdD)), some (.tup (bs.map bkD)), some (.tup [.str w, .tup (rowD (0, q) :: rest.map rowD)]), some (.str z), some (kindD fare ch rank ask), some (.int (m : Int)), some (.int (vb : Int)), some (.tup ((zzs z fare ch rank ask vb).map bkD)), some (.tup [.tup (gs.map gdD), .tup ((bs ++ zzs z fare ch rank ask vb).map bkD), .tup [.str w, .tup (rowD (0, q) :: rest.map rowD)]]), a12, some (.tup [.tup (gs.map gdD), .tup ((here bs z).map bkD), .tup [.str w, .tup (rowD (0, q) :: rest.map rowD)]]), a14, a15, a16, none, none, none, none, none] M4) = .ok (.bl true) M4 := fun a2 a12 a14 a15 a16 => by
    unfold L_tail33
    by_cases hle : (((here bs z).length : Int) + (m : Int)) ≤ 9
    · have hle' : (here bs z).length + m ≤ 9 := by omega
      have cbf : ∀ b ∈ here bs z, Un1 420 b.ch ∧ 0 ≤ b.fare ∧ b.fare ≤ 999 := fun b hb => ⟨cbh b hb, (hvh.b b hb).k.fare⟩
      obtain ⟨⟨p12, hL⟩, hS⟩ := fare_loop (sub := sub) R.plus R.times R.R.low j (by omega) M4 [some (.ext (ns.map .int)), some (.ref 0), a2, some (.tup (gs.map gdD)), some (.tup (bs.map bkD)), some (.tup [.str w, .tup (rowD (0, q) :: rest.map rowD)]), some (.str z), some (kindD fare ch rank ask), some (.int (m : Int)), some (.int (vb : Int)), some (.tup ((zzs z fare ch rank ask vb).map bkD)), some (.tup [.tup (gs.map gdD), .tup ((bs ++ zzs z fare ch rank ask vb).map bkD), .tup [.str w, .tup (rowD (0, q) :: rest.map rowD)]])] rfl (some (.tup [.tup (gs.map gdD), .tup ((here bs z).map bkD), .tup [.str w, .tup (rowD (0, q) :: rest.map rowD)]])) a14 a15 a16 (some (.tup [.tup [gdD { g with seats := 9 }], .tup ((here bs z).map bkD), .tup [.str w, .tup (rowD (0, q) :: rest.map rowD)]])) none none none (here bs z) 0 0 a12 (Sz.zero _ (by decide)) cbf (by omega)
      unfold L_fare_turn at hL
      rw [rd_0] at hL
      simp only [List.cons_append, List.nil_append] at hL
      have mu : ∀ M, binD .Mult M (.int (m : Int)) (.int fare) = some (.int ((m : Int) * fare)) := fun M => mul_int M _ _ (lt_big (k := 10) (by omega) (by decide)) (lt_big (k := 10) (by have := kv.fare; omega) (by decide))
      have t0 : ∀ x : Rat, ∀ B, Sz 420 B x → B ≤ 1000 * 101 → Tame x := fun x B h hB => h.tame (Nat.lt_of_le_of_lt (Nat.mul_le_mul_right _ (Nat.succ_le_succ hB)) (Nat.lt_of_lt_of_le (show _ < 2 ^ 30 by decide) (pow_le' (by decide))))
      have mb : ((m : Int) * fare).natAbs ≤ 4000 := by
        have hf := kv.fare
        rw [Int.natAbs_mul]
        have h1 : (m : Int).natAbs ≤ 4 := by omega
        have h2 : fare.natAbs ≤ 1000 := by omega
        exact Nat.mul_le_mul h1 h2
      have sm : Sz 1 4000 (((m : Int) * fare : Int) : Rat) := Sz.int (by decide) mb
      have sw : Sz 420 4000 ((((m : Int) * fare : Int) : Rat) * ch) := by
        have := sm.mul cc.sz
        rwa [Nat.mul_one, Nat.one_mul] at this
      have r1 : ∀ M, callF T sub FUEL j 39 [.tup [.int ((m : Int) * fare), .int 1], rd ch] M = .ok (rd ((((m : Int) * fare : Int) : Rat) * ch)) M := run_ltimes (sub := sub) R.R.low R.times (t0 _ _ (sm.up (Nat.one_dvd _) (by decide)) (by decide)) (t0 _ _ cc.sz (by decide)) j (by omega)
      have r2 := run_lplus (sub := sub) R.R.low R.plus (t0 _ _ hS (by omega)) (t0 _ _ sw (by decide)) j (by omega)
      have W9 : Wm (here bs z) w (0, q) z 9 fare ch rank ask m = 0 + faresQ (here bs z) + ((((m : Int) * fare : Int) : Rat) * ch) := by
        rw [W_wide w (0, q) z fare ch rank ask m (by rw [here_here]; exact hle'), here_here, Rat.intCast_mul, Rat.intCast_natCast]
        grind
      rw [W9] at c6
      simp only [ends_rtN, ends_nxN, ends_excN, bind_okN, bind_excN, ret_someN, retB_someN, retL_someN, retE_someN, ev_var, ev_cst, ev_gint, ev_gstr, ev_gfn, ev_bin, ev_neg, ev_not, ev_bop, ev_cmp, ev_chain, ev_ite, ev_call, ev_isi, ev_blt, ev_mth, ev_sub, ev_slc, ev_tup, ev_lst, ev_lc, ev_live, ev_srt, ev_srk, evs_nil, evs_cons, evx_nil, evx_cons, evO_none, evO_some, evB_one, evB_and, evB_or, evT_nil, evT_one, exs_nil, exs_cons, nxt_nxN, nxt_rtN, nxt_excN, ex_asg, ex_own, ex_par, ex_app, ex_exn, ex_sti, ex_sto, ex_aug, ex_exp, ex_ret, ex_ifs, ex_fors, ex_whl, ex_rse, ex_tri, ex_frz, cstD, Tg.put, Tg.puts, startD, wipeD, kept_intN, kept_blN, kept_strN, kept_nonN, kept_tupN, kept_lstN, kept_extN, kept_refN, kept_fnN, kept_excN, cmp_eq_int, cmp_ne_int, cmp_lt_intN, cmp_le_intN, cmp_gt_intN, cmp_ge_intN, List.map_cons, List.map_nil, List.length_cons, List.length_nil, Nat.reduceAdd, Nat.reduceSub, Nat.reduceLeDiff, List.replicate, List.cons_append, List.nil_append, List.append_nil, List.getElem?_cons_zero, List.getElem?_cons_succ, List.getElem?_nil, List.set_cons_zero, List.set_cons_succ, List.all_cons, List.all_nil, nown, Bool.and_true, Bool.true_and, Bool.and_false, Bool.false_and, if_true, if_false, Bool.false_eq_true, Bool.not_true, Bool.not_false, reduceIte, len6, Int.cast_ofNat_Int, beq_self_eq_true, Int.reduceBEq, Int.reduceAdd, Int.reduceNeg, decide_true, decide_false, Int.reduceLT, Int.reduceLE, Int.reduceToNat, sG, cg, ad9, k9, sub_t1, hlen, add_int, decide_eq_true hle, src_one_tup, hL, sK0, mu, sK, kept_rd, r1, r2, kK, c6, nes]
    · simp only [ends_rtN, ends_nxN, ends_excN, bind_okN, bind_excN, ret_someN, retB_someN, retL_someN, retE_someN, ev_var, ev_cst, ev_gint, ev_gstr, ev_gfn, ev_bin, ev_neg, ev_not, ev_bop, ev_cmp, ev_chain, ev_ite, ev_call, ev_isi, ev_blt, ev_mth, ev_sub, ev_slc, ev_tup, ev_lst, ev_lc, ev_live, ev_srt, ev_srk, evs_nil, evs_cons, evx_nil, evx_cons, evO_none, evO_some, evB_one, evB_and, evB_or, evT_nil, evT_one, exs_nil, exs_cons, nxt_nxN, nxt_rtN, nxt_excN, ex_asg, ex_own, ex_par, ex_app, ex_exn, ex_sti, ex_sto, ex_aug, ex_exp, ex_ret, ex_ifs, ex_fors, ex_whl, ex_rse, ex_tri, ex_frz, cstD, Tg.put, Tg.puts, startD, wipeD, kept_intN, kept_blN, kept_strN, kept_nonN, kept_tupN, kept_lstN, kept_extN, kept_refN, kept_fnN, kept_excN, cmp_eq_int, cmp_ne_int, cmp_lt_intN, cmp_le_intN, cmp_gt_intN, cmp_ge_intN, List.map_cons, List.map_nil, List.length_cons, List.length_nil, Nat.reduceAdd, Nat.reduceSub, Nat.reduceLeDiff, List.replicate, List.cons_append, List.nil_append, List.append_nil, List.getElem?_cons_zero, List.getElem?_cons_succ, List.getElem?_nil, List.set_cons_zero, List.set_cons_succ, List.all_cons, List.all_nil, nown, Bool.and_true, Bool.true_and, Bool.and_false, Bool.false_and, if_true, if_false, Bool.false_eq_true, Bool.not_true, Bool.not_false, reduceIte, len6, Int.cast_ofNat_Int, beq_self_eq_true, Int.reduceBEq, Int.reduceAdd, Int.reduceNeg, decide_true, decide_false, Int.reduceLT, Int.reduceLE, Int.reduceToNat, sG, cg, ad9, k9, sub_t1, hlen, add_int, decide_eq_false hle]
  unfold L_tail33 at fin
  rw [run R.law _ rfl]
  unfold L_law33
  have rn : ∀ px p, srcD (.rng px p) [.int (vb : Int)] = some ((List.range vb).map fun k => .int (k : Nat)) := fun px p => rng_nat vb (by omega) px p
  simp only [ends_rtN, ends_nxN, ends_excN, bind_okN, bind_excN, ret_someN, retB_someN, retL_someN, retE_someN, ev_var, ev_cst, ev_gint, ev_gstr, ev_gfn, ev_bin, ev_neg, ev_not, ev_bop, ev_cmp, ev_chain, ev_ite, ev_call, ev_isi, ev_blt, ev_mth, ev_sub, ev_slc, ev_tup, ev_lst, ev_lc, ev_live, ev_srt, ev_srk, evs_nil, evs_cons, evx_nil, evx_cons, evO_none, evO_some, evB_one, evB_and, evB_or, evT_nil, evT_one, exs_nil, exs_cons, nxt_nxN, nxt_rtN, nxt_excN, ex_asg, ex_own, ex_par, ex_app, ex_exn, ex_sti, ex_sto, ex_aug, ex_exp, ex_ret, ex_ifs, ex_fors, ex_whl, ex_rse, ex_tri, ex_frz, cstD, Tg.put, Tg.puts, startD, wipeD, kept_intN, kept_blN, kept_strN, kept_nonN, kept_tupN, kept_lstN, kept_extN, kept_refN, kept_fnN, kept_excN, cmp_eq_int, cmp_ne_int, cmp_lt_intN, cmp_le_intN, cmp_gt_intN, cmp_ge_intN, List.map_cons, List.map_nil, List.length_cons, List.length_nil, Nat.reduceAdd, Nat.reduceSub, Nat.reduceLeDiff, List.replicate, List.cons_append, List.nil_append, List.append_nil, List.getElem?_cons_zero, List.getElem?_cons_succ, List.getElem?_nil, List.set_cons_zero, List.set_cons_succ, List.all_cons, List.all_nil, nown, Bool.and_true, Bool.true_and, Bool.and_false, Bool.false_and, if_true, if_false, Bool.false_eq_true, Bool.not_true, Bool.not_false, reduceIte, len6, Int.cast_ofNat_Int, beq_self_eq_true, Int.reduceBEq, Int.reduceAdd, Int.reduceNeg, decide_true, decide_false, Int.reduceLT, Int.reduceLE, Int.reduceToNat, t1, e1', sG, sg0, kG, e2', sk, kK, e3', add_int, hm, em1, e4', rn, zl, bz, tp, ad, sub_int, em2, c1, c2, kept_rd, nes, src_one_tup, hlc, bh, c3, c4, neL, sub_t0, sub_t1, cutr, c5, sK, ew]
  cases hw : (w == "own") with
  | false =>
    exact fin _ _ _ _ _
  | true =>
    have ew' : w = "own" := eq_of_beq hw
    subst ew'
    have d1 : ∀ M, callF T sub FUEL j 31 [.tup [.tup (gs.map gdD), .tup (bs.map bkD), .tup [.str "own", .tup (rowD (0, q) :: rest.map rowD)]], .str z, .tup [.int 0, rd ch, .int 0, .int 0], .int 0] M = .ok (rd (Wm bs "own" (0, q) z s 0 ch 0 (some 0) 0)) M := fun M => ai.worth (sub := sub) R.S R.worth 0 (by decide) j (by omega) M
    have d2 : ∀ M, callF T sub FUEL j 33 [.tup [.tup (gs.map gdD), .tup (bs.map bkD), .tup [.str "own", .tup (rowD (0, q) :: rest.map rowD)]], .str z, .tup [.int 0, rd ch, .int 0, .int 0]] M = .ok (.lst (rds (WL (Wm bs "own" (0, q) z s 0 ch 0 (some 0))))) M := fun M => ai.worths (sub := sub) R.S R.worths j (by omega) M
    have tq := (ai.run (sub := sub) R.S 0 (by decide)).2
    obtain ⟨p12, hL⟩ := idle_loop ⟨callF T sub FUEL j, sub, FUEL⟩ M4 (Wm bs "own" (0, q) z s 0 ch 0 (some 0) 0) tq [some (.ext (ns.map .int)), some (.ref 0), some (.tup [.tup (gs.map gdD), .tup (bs.map bkD), .tup [.str "own", .tup (rowD (0, q) :: rest.map rowD)]]), some (.tup (gs.map gdD)), some (.tup (bs.map bkD)), some (.tup [.str "own", .tup (rowD (0, q) :: rest.map rowD)]), some (.str z), some (kindD fare ch rank ask), some (.int (m : Int)), some (.int (vb : Int)), some (.tup ((zzs z fare ch rank ask vb).map bkD)), some (.tup [.tup (gs.map gdD), .tup ((bs ++ zzs z fare ch rank ask vb).map bkD), .tup [.str "own", .tup (rowD (0, q) :: rest.map rowD)]])] rfl (some (.tup [.tup (gs.map gdD), .tup ((here bs z).map bkD), .tup [.str "own", .tup (rowD (0, q) :: rest.map rowD)]])) (some (.tup [.tup (gs.map gdD), .tup (bs.map bkD), .tup [.str "own", .tup [rowD (0, q)]]])) (some (.tup [.int 0, rd ch, .int 0, .int 0])) none none none none none (WL (Wm bs "own" (0, q) z s 0 ch 0 (some 0))) none (fun x hx => by
      obtain ⟨k, _, rfl⟩ := List.mem_map.mp hx
      exact W_idle one ris asks (0, q) z s ch k)
    unfold L_idle_turn at hL
    simp only [List.cons_append, List.nil_append] at hL
    simp only [ends_rtN, ends_nxN, ends_excN, bind_okN, bind_excN, ret_someN, retB_someN, retL_someN, retE_someN, ev_var, ev_cst, ev_gint, ev_gstr, ev_gfn, ev_bin, ev_neg, ev_not, ev_bop, ev_cmp, ev_chain, ev_ite, ev_call, ev_isi, ev_blt, ev_mth, ev_sub, ev_slc, ev_tup, ev_lst, ev_lc, ev_live, ev_srt, ev_srk, evs_nil, evs_cons, evx_nil, evx_cons, evO_none, evO_some, evB_one, evB_and, evB_or, evT_nil, evT_one, exs_nil, exs_cons, nxt_nxN, nxt_rtN, nxt_excN, ex_asg, ex_own, ex_par, ex_app, ex_exn, ex_sti, ex_sto, ex_aug, ex_exp, ex_ret, ex_ifs, ex_fors, ex_whl, ex_rse, ex_tri, ex_frz, cstD, Tg.put, Tg.puts, startD, wipeD, kept_intN, kept_blN, kept_strN, kept_nonN, kept_tupN, kept_lstN, kept_extN, kept_refN, kept_fnN, kept_excN, cmp_eq_int, cmp_ne_int, cmp_lt_intN, cmp_le_intN, cmp_gt_intN, cmp_ge_intN, List.map_cons, List.map_nil, List.length_cons, List.length_nil, Nat.reduceAdd, Nat.reduceSub, Nat.reduceLeDiff, List.replicate, List.cons_append, List.nil_append, List.append_nil, List.getElem?_cons_zero, List.getElem?_cons_succ, List.getElem?_nil, List.set_cons_zero, List.set_cons_succ, List.all_cons, List.all_nil, nown, Bool.and_true, Bool.true_and, Bool.and_false, Bool.false_and, if_true, if_false, Bool.false_eq_true, Bool.not_true, Bool.not_false, reduceIte, len6, Int.cast_ofNat_Int, beq_self_eq_true, Int.reduceBEq, Int.reduceAdd, Int.reduceNeg, decide_true, decide_false, Int.reduceLT, Int.reduceLE, Int.reduceToNat, d1, d2, kept_rd, src_one_lst, hL]
    exact fin _ _ _ _ _
end
end L2.Z
set_option maxHeartbeats 0
/-! #### soldtwice_k33_whole_sold_on: the head -/
namespace K33
open PySem PySem.Spec PyProof.Rows L2 L2.Z
def b : List Stmt := PySem.Challenge.pw_soldtwice_k33_whole_sold_on.main.body
def own : List (Str × Str) := [("counted", "later"), ("stays_by", "found"), ("_law_goings", "rows"), ("_law_table", "rows")]
def live : List Str := ["_law_town"]
def subP : List (Nat × Nat) := [(0, 0), (1, 1), (1, 0), (2, 2), (2, 0), (3, 3), (3, 0), (4, 4), (4, 0)]
def sub (e c : Nat) : Bool := subP.contains (e, c)
def nm : Nms := nmsOf b own live
def T : Nat → Option Fn := TOf (tblOf b own live)
def li : Nat := 60
def loose : List Str := (PySem.Challenge.pw_soldtwice_k33_whole_sold_on.main.scope.names.map (·.1)).filter fun x => decide (x ≠ "law") && decide (x ≠ "__name__")
abbrev R : PySem.W.OpenRow := PySem.W.OpenLaw.row PySem.Challenge.rw_soldtwice_k33_whole_sold_on
abbrev hk : PySem.W.Hook := He.hookX 4 (faLs nm) (fnDs b own live) [] [] (exL nm.cls sub)
def ob (s : PySem.W.SharedT) : He.AlX := He.obsX 4 (faLs nm) (fnDs b own live) [] [] (exL nm.cls sub) (HandSHeadRun.getT s)
theorem ob_eq (s : PySem.W.SharedT) : ob s = hk.obs s.abs := He.obsX_eq (HandSHeadRun.getT_eq s)
theorem run (w : World) : HandSHeadRun.RunEq R (PySem.W.view R.prog [li]) hk ob 6000 loose w := by
  intro os
  kernel_rfl
theorem chk (K : PySem.W.Frag) : chkAll b own live K = true := by kernel_rfl
theorem subOk : subB nm.cls sub := by
  intro e c h
  have h1 : (e, c) ∈ subP := List.contains_iff_mem.mp h
  have h2 : subP.all (fun p => (nm.cls[p.1]?).isSome) = true := by kernel_rfl
  exact List.all_eq_true.mp h2 (e, c) h1
/-- the law, from what the evaluator says -/
theorem fin {n fuel : Nat} (hr : Room (3 * n) callerA) (lf : Nat) {F : Fn} (hF : T lf = some F) (hname : F.name = ("law" : Str)) (hps : F.ps = [("script" : Str)])
    (hlaw : ∀ ns : List Int, ns.length ≤ 63 → ∃ M, callF T sub fuel n lf [.ext (ns.map D.int)] [] = .ok (.bl true) M) : PySem.Challenge.rw_soldtwice_k33_whole_sold_on.Holds := by
  open PySem.W PySem.Calls in
  w_on; o_law
  refine HandSHeadRun.head_any (r := OpenLaw.row PySem.Challenge.rw_soldtwice_k33_whole_sold_on) (q := view (OpenLaw.row PySem.Challenge.rw_soldtwice_k33_whole_sold_on).prog [li]) (H := hk) (ob := ob) (M := 6000) (loose := loose) (d := HandSHeadRun.topDef (OpenLaw.row PySem.Challenge.rw_soldtwice_k33_whole_sold_on).prog li) (kwd := []) ob_eq
    (by kernel_rfl) (fun s => by kernel_rfl) run (by kernel_rfl) (by kernel_rfl) (by kernel_rfl) (by rfl) (by first | assumption | decide +kernel) (by decide +kernel) ⟨rfl, rfl, rfl, rfl, rfl, by decide +kernel⟩ ?hw ?hc
  case hw => w_witness2
  case hc =>
    refine L2.walk_ofE (l := PySem.Challenge.rw_soldtwice_k33_whole_sold_on) (n := 63) (k := 3 * n) (x := "script") (CX := CXA (PySem.Challenge.rw_soldtwice_k33_whole_sold_on).prog) rfl (by decide) (by kernel_rfl) hr ?F (fun _ _ _ _ z => cxa_none z)
    intro w mg fa h Y G hmg0
    obtain ⟨K, KX, c⟩ := Y
    have hmg : mg F.name = some (.ref fa) := by
      have e : (HandSHeadRun.topDef (OpenLaw.row PySem.Challenge.rw_soldtwice_k33_whole_sold_on).prog li).name = ("law" : PySem.Str) := by kernel_rfl
      rw [hname, ← e]
      exact hmg0
    obtain ⟨fd, sp, hb, hsp, hF⟩ := law_fn (P := (PySem.Challenge.rw_soldtwice_k33_whole_sold_on).prog) (w := w) (most := 63) (setup_of KX G c (chk K) subOk) hF hps hmg hlaw
    exact ⟨K, fd, sp, KX, hb, hsp, hF⟩
end K33


namespace K33
open L2.Z
theorem tbl : Law33 T := ⟨⟨⟨⟨⟨(by unfold Has; kernel_rfl), (by unfold Has; kernel_rfl)⟩, (by unfold Has; kernel_rfl), (by unfold Has; kernel_rfl), (by unfold Has; kernel_rfl), (by unfold Has; kernel_rfl), (by unfold Has; kernel_rfl)⟩, (by unfold Has; kernel_rfl), (by unfold Has; kernel_rfl), (by unfold Has; kernel_rfl), (by unfold Has; kernel_rfl), (by unfold Has; kernel_rfl), (by unfold Has; kernel_rfl), (by unfold Has; kernel_rfl), (by unfold Has; kernel_rfl), (by unfold Has; kernel_rfl), (by unfold Has; kernel_rfl), (by unfold Has; kernel_rfl), (by unfold Has; kernel_rfl)⟩, ⟨⟨(by unfold Has; kernel_rfl), (by unfold Has; kernel_rfl), (by unfold Has; kernel_rfl), (by unfold Has; kernel_rfl), (by unfold Has; kernel_rfl)⟩, (by unfold Has; kernel_rfl), (by unfold Has; kernel_rfl), (by unfold Has; kernel_rfl), (by unfold Has; kernel_rfl), (by unfold Has; kernel_rfl), (by unfold Has; kernel_rfl), (by unfold Has; kernel_rfl)⟩, (by unfold Has; kernel_rfl), (by unfold Has; kernel_rfl)⟩, ⟨(by unfold Has; kernel_rfl), (by unfold Has; kernel_rfl), (by unfold Has; kernel_rfl), (by unfold Has; kernel_rfl), (by unfold Has; kernel_rfl), (by unfold Has; kernel_rfl), (by unfold Has; kernel_rfl), (by unfold Has; kernel_rfl), (by unfold Has; kernel_rfl)⟩, (by unfold Has; kernel_rfl), (by unfold Has; kernel_rfl), (by unfold Has; kernel_rfl), (by unfold Has; kernel_rfl), (by unfold Has; kernel_rfl)⟩
def FL : Fn := (T 45).getD ⟨"", "", [], [], []⟩
theorem hFL : T 45 = some FL := by kernel_rfl
theorem nmL : FL.name = ("law" : PySem.Str) := by kernel_rfl
theorem psL : FL.ps = [("script" : PySem.Str)] := by kernel_rfl
end K33
theorem PySem.Challenge.cw_soldtwice_k33_whole_sold_on_holds : PySem.Challenge.rw_soldtwice_k33_whole_sold_on.Holds := by
  exact K33.fin (n := 12) (fuel := L2.Z.FUEL) ⟨by decide +kernel, by decide +kernel, by decide +kernel⟩ 45 K33.hFL K33.nmL K33.psL fun ns h => L2.Z.law33 K33.tbl ns h 12 (by decide)
