import PyProof.Rows.All
import Wide.All
import OpenK.AllK
import Wide.FinOn
import PySem.Challenge.RW_on0112_01
set_option maxRecDepth 100000
set_option Elab.async false
set_option linter.all false
namespace Mine
open PySem PySem.W PyProof.Rows

/-! names and texts: one table, coded by number -/
noncomputable def nmL : List Str := ([
  "and", "or", "xor", "nand", "nor", "xnor", "mux", "lut", "cell", "not",
  "buf", "C", "m", "i", "o", "k", "bits", "row", "place", "full",
  "t", "bit", "high", "low", "found", "places", "j", "kept", "result", "replaced",
  "net", "netlist", "cells", "count", "inputs", "outputs", "a", "b", "opposite", "form",
  "kind", "s", "table", "ins", "small", "nets", "inverse", "param", "script", "numbers_in",
  "box", "many", "how_many", "met", "wide", "pairs", "free", "line", "lap", "before",
  "made", "last", "due", "self", "name", "width", "out", "rest", "held", "spot",
  "old", "new", "one", "two", "port", "row_number", "full_table", "var_table", "cofactor", "depends",
  "support", "spread", "shrink", "final_net", "rebuilt_cells", "rebuilt", "and_form", "or_form", "xor_form", "turned_form",
  "gate_form", "select_form", "table_bit", "table_over", "table_form", "are_opposite", "library_form", "simple_form", "_law_box", "_law_of",
  "_law_value", "_law_cell", "_law_same", "_law_rebuilt", "law", "__init__", "new_net", "new_nets", "add_input", "add_output",
  "add_cell", "drive", "Netlist", "range", "tuple", "sum", "len", "list", "dict", "max"] : List String).map Str.ofString
noncomputable def nm (i : Nat) : Str := match nmL[i]? with
  | some x => x
  | none => ⟨#[1114112 + i]⟩
theorem nmL_nodup : nmL.Nodup := by decide +kernel
theorem nmL_low : (nmL.all fun x => x.cps.toList.all fun c => decide (c < 1114112)) = true := by decide +kernel
theorem nm_inj {i j : Nat} (h : nm i = nm j) : i = j := by
  have low : ∀ {x : Str} {n : Nat}, x ∈ nmL → x ≠ ⟨#[1114112 + n]⟩ := by
    intro x n hx e
    have h1 := List.all_eq_true.mp nmL_low x hx
    subst e
    have h2 := List.all_eq_true.mp h1 (1114112 + n) (by simp)
    have h3 := of_decide_eq_true h2
    omega
  unfold nm at h
  split at h
  · rename_i x hx
    split at h
    · rename_i y hy
      subst h
      obtain ⟨hi, ei⟩ := List.getElem?_eq_some_iff.mp hx
      obtain ⟨hj, ej⟩ := List.getElem?_eq_some_iff.mp hy
      exact (List.getElem_inj (h₀ := hi) (h₁ := hj) nmL_nodup).mp (ei.trans ej.symm)
    · exact absurd h (low (List.mem_of_getElem? hx))
  · split at h
    · rename_i y hy
      exact absurd h.symm (low (List.mem_of_getElem? hy))
    · have : (1114112 + i) = (1114112 + j) := by simpa using h
      omega
theorem nm_eq {i j : Nat} : nm i = nm j ↔ i = j := ⟨nm_inj, fun h => h ▸ rfl⟩

/-! abstract values, objects -/
inductive V where
  | none
  | bool (b : Bool)
  | int (i : Int)
  | str (k : Nat)
  | tup (l : List V)
  | ref (i : Nat)
  | inst (d : Nat)
  | rng (lo : Int) (n : Nat)
  | frz (ns : List Int)
  deriving Inhabited
inductive O where
  | list (l : List V)
  | dict (l : List (Int × V))
  | sdict (l : List (Nat × V))
  | ns (l : List (Nat × V))
  deriving Inhabited
abbrev Hp := List O

/-- what stands fixed in a proof: the program, the world, the heap at the call's start -/
structure Gl where
  prog : Program
  w : World
  h0 : Heap
  mg : Str → Option Value
  mb : Str → Option Value
  K : Frag
  C : Addr
  g : h0.Ns mainGlobals mg
  b : h0.Ns builtinsNs mb
  lim : h0.NoLimit
  kin : K.In h0

noncomputable def Imm (G : Gl) (o : Obj) : Prop :=
  (∃ vs n, o = { cls := .type "tuple", dict := none, data := .seq vs n, slots := #[] }) ∨ (∃ dx, o = instObj G.C dx) ∨
  ∃ vs, o = { cls := .type "range", dict := none, data := .fields vs, slots := #[] }

theorem Imm.notDict {G : Gl} {o : Obj} (h : Imm G o) {es ep} : o.data ≠ .dict es ep := by
  rcases h with ⟨_, _, rfl⟩ | ⟨_, rfl⟩ | ⟨_, rfl⟩ <;> intro e <;> cases e
theorem Imm.notCell {G : Gl} {o : Obj} (h : Imm G o) {v} : o.data ≠ .cell v := by
  rcases h with ⟨_, _, rfl⟩ | ⟨_, rfl⟩ | ⟨_, rfl⟩ <;> intro e <;> cases e
theorem Imm.notList {G : Gl} {o : Obj} (h : Imm G o) : o.cls ≠ .type "list" := by
  rcases h with ⟨_, _, rfl⟩ | ⟨_, rfl⟩ | ⟨_, rfl⟩ <;> intro e <;> simp at e

mutual
inductive VR (G : Gl) (α : List Addr) (h : Heap) : Value → V → Prop
  | none : VR G α h .none .none
  | bool (b : Bool) : VR G α h (.bool b) (.bool b)
  | int (i : Int) (t : Tok) : VR G α h (.int i t) (.int i)
  | str (k : Nat) (t : Tok) : VR G α h (.str (nm k) t) (.str k)
  | tup {a : Addr} {vs : List Value} {n : Nat} {ds : List V} : h.get? a = some { cls := .type "tuple", dict := none, data := .seq vs.toArray n, slots := #[] } → VRs G α h vs ds → VR G α h (.ref a) (.tup ds)
  | ref {i : Nat} {a : Addr} : α[i]? = some a → VR G α h (.ref a) (.ref i)
  | inst {a dx : Addr} {d : Nat} : h.get? a = some (instObj G.C dx) → α[d]? = some dx → VR G α h (.ref a) (.inst d)
  | rng {a : Addr} {lo : Int} {n : Nat} {t u v : Tok} : IsRange h a lo (lo + n) 1 t u v → -1000000 ≤ lo → lo + n ≤ 1000000 → VR G α h (.ref a) (.rng lo n)
  | frz {a : Addr} {vs : List Value} {ns : List Int} : G.h0.IsList a vs.toArray → IntsAre vs ns → VR G α h (.ref a) (.frz ns)
inductive VRs (G : Gl) (α : List Addr) (h : Heap) : List Value → List V → Prop
  | nil : VRs G α h [] []
  | cons {v : Value} {vs : List Value} {d : V} {ds : List V} : VR G α h v d → VRs G α h vs ds → VRs G α h (v :: vs) (d :: ds)
end

/-- a step of the heap that may write W alone (and what is new) -/
structure Ext (G : Gl) (W α : List Addr) (h : Heap) (α' : List Addr) (h' : Heap) : Prop where
  pre : ∃ β, α' = α ++ β ∧ ∀ a ∈ β, h.get? a = none
  keep : ∀ b o, h.get? b = some o → (b ∉ W ∨ Imm G o) → h'.get? b = some o
  stay : ∀ b o, h.get? b = some o → ∃ o', h'.get? b = some o'

theorem fresh_at (h : Heap) : h.get? h.objs.size = none := by
  cases e : h.get? h.objs.size with
  | none => rfl
  | some o => exact absurd (Heap.lt_size e) (Nat.lt_irrefl _)
theorem Ext.refl {G : Gl} {W α : List Addr} {h : Heap} : Ext G W α h α h := ⟨⟨[], by simp, fun _ h => nomatch h⟩, fun _ _ e _ => e, fun _ o e => ⟨o, e⟩⟩
theorem Ext.get {G : Gl} {W α α' : List Addr} {h h' : Heap} (x : Ext G W α h α' h') {i : Nat} {a : Addr} (e : α[i]? = some a) : α'[i]? = some a := by
  obtain ⟨β, rfl, _⟩ := x.pre
  rw [List.getElem?_append_left (List.getElem?_eq_some_iff.mp e).1]; exact e
theorem Ext.back {G : Gl} {W α α' : List Addr} {h h' : Heap} (x : Ext G W α h α' h') {a : Addr} (e : h'.get? a = none) : h.get? a = none := by
  cases q : h.get? a with
  | none => rfl
  | some o => obtain ⟨o', e'⟩ := x.stay a o q; rw [e] at e'; cases e'
/-- W' : what may be written in the second step; what it holds beyond W is new in the first -/
theorem Ext.trans {G : Gl} {W W' α α₁ α₂ : List Addr} {h h₁ h₂ : Heap} (x : Ext G W α h α₁ h₁) (y : Ext G W' α₁ h₁ α₂ h₂)
    (hW : ∀ a ∈ W', a ∈ W ∨ h.get? a = none) : Ext G W α h α₂ h₂ := by
  obtain ⟨β, rfl, hβ⟩ := x.pre
  obtain ⟨γ, rfl, hγ⟩ := y.pre
  refine ⟨⟨β ++ γ, by simp, fun a ha => ?_⟩, fun b o e hb => y.keep b o (x.keep b o e hb) ?_, fun b o e => ?_⟩
  · rcases List.mem_append.mp ha with ha | ha
    · exact hβ a ha
    · exact x.back (hγ a ha)
  · rcases hb with hb | hb
    · refine .inl fun hm => ?_
      rcases hW b hm with q | q
      · exact hb q
      · rw [q] at e; cases e
    · exact .inr hb
  · obtain ⟨o', e'⟩ := x.stay b o e; exact y.stay b o' e'
/-- the usual chain: the written part of the second step is the ledger that the first one left -/
theorem Ext.then {G : Gl} {α α₁ α₂ : List Addr} {h h₁ h₂ : Heap} (x : Ext G α α h α₁ h₁) (y : Ext G α₁ α₁ h₁ α₂ h₂) : Ext G α α h α₂ h₂ :=
  x.trans y fun a ha => by
    obtain ⟨β, rfl, hβ⟩ := x.pre
    rcases List.mem_append.mp ha with q | q
    · exact .inl q
    · exact .inr (hβ a q)
theorem Ext.weaken {G : Gl} {W W' α α' : List Addr} {h h' : Heap} (x : Ext G W α h α' h') (hW : ∀ a ∈ W, a ∈ W') : Ext G W' α h α' h' :=
  ⟨x.pre, fun b o e hb => x.keep b o e (hb.imp (fun q m => q (hW b m)) id), x.stay⟩

theorem Ext.of_keeps {G : Gl} {W α : List Addr} {h h' : Heap} (hk : ∀ b o, h.get? b = some o → h'.get? b = some o) : Ext G W α h α h' :=
  ⟨⟨[], by simp, fun _ h => nomatch h⟩, fun b o e _ => hk b o e, fun b o e => ⟨o, hk b o e⟩⟩
theorem Ext.push {G : Gl} {W α : List Addr} {h : Heap} (o : Obj) : Ext G W α h α (h.push o) := .of_keeps fun _ _ e => Heap.get?_push_of_some _ e
/-- a new object at a, which then stands in the ledger -/
theorem Ext.newL {G : Gl} {W α : List Addr} {h h' : Heap} {a : Addr} (hk : ∀ b o, h.get? b = some o → h'.get? b = some o) (ha : h.get? a = none) : Ext G W α h (α ++ [a]) h' :=
  ⟨⟨[a], rfl, fun b hb => by simp at hb; rw [hb]; exact ha⟩, fun b o e _ => hk b o e, fun b o e => ⟨o, hk b o e⟩⟩

mutual
theorem VR.mono {G : Gl} {α α' : List Addr} {h h' : Heap} (hα : ∀ (i : Nat) (a : Addr), α[i]? = some a → α'[i]? = some a) (hi : ∀ b o, h.get? b = some o → Imm G o → h'.get? b = some o) :
    ∀ {v : Value} {d : V}, VR G α h v d → VR G α' h' v d
  | _, _, .none => .none
  | _, _, .bool b => .bool b
  | _, _, .int i t => .int i t
  | _, _, .str k t => .str k t
  | _, _, .tup e r => .tup (hi _ _ e (.inl ⟨_, _, rfl⟩)) (VRs.mono hα hi r)
  | _, _, .ref e => .ref (hα _ _ e)
  | _, _, .inst e f => .inst (hi _ _ e (.inr (.inl ⟨_, rfl⟩))) (hα _ _ f)
  | _, _, .rng e p q => .rng (hi _ _ e (.inr (.inr ⟨_, rfl⟩))) p q
  | _, _, .frz e f => .frz e f
theorem VRs.mono {G : Gl} {α α' : List Addr} {h h' : Heap} (hα : ∀ (i : Nat) (a : Addr), α[i]? = some a → α'[i]? = some a) (hi : ∀ b o, h.get? b = some o → Imm G o → h'.get? b = some o) :
    ∀ {vs : List Value} {ds : List V}, VRs G α h vs ds → VRs G α' h' vs ds
  | _, _, .nil => .nil
  | _, _, .cons e r => .cons (VR.mono hα hi e) (VRs.mono hα hi r)
end
theorem VR.ext {G : Gl} {W α α' : List Addr} {h h' : Heap} {v : Value} {d : V} (x : VR G α h v d) (y : Ext G W α h α' h') : VR G α' h' v d :=
  x.mono (fun _ _ e => y.get e) fun b o e i => y.keep b o e (.inr i)
theorem VRs.ext {G : Gl} {W α α' : List Addr} {h h' : Heap} {vs : List Value} {ds : List V} (x : VRs G α h vs ds) (y : Ext G W α h α' h') : VRs G α' h' vs ds :=
  x.mono (fun _ _ e => y.get e) fun b o e i => y.keep b o e (.inr i)
theorem VRs.length {G : Gl} {α : List Addr} {h : Heap} : ∀ {vs : List Value} {ds : List V}, VRs G α h vs ds → vs.length = ds.length
  | _, _, .nil => rfl
  | _, _, .cons _ r => by simp [VRs.length r]
theorem VRs.append {G : Gl} {α : List Addr} {h : Heap} : ∀ {vs ws : List Value} {ds es : List V}, VRs G α h vs ds → VRs G α h ws es → VRs G α h (vs ++ ws) (ds ++ es)
  | _, _, _, _, .nil, k => k
  | _, _, _, _, .cons e r, k => .cons e (VRs.append r k)
theorem VRs.get {G : Gl} {α : List Addr} {h : Heap} : ∀ {vs : List Value} {ds : List V}, VRs G α h vs ds → ∀ {k : Nat} {d : V}, ds[k]? = some d → ∃ v, vs[k]? = some v ∧ VR G α h v d
  | _, _, .nil, k, d, e => by simp at e
  | _, _, .cons x r, 0, d, e => by simp at e; subst e; exact ⟨_, rfl, x⟩
  | _, _, .cons x r, k + 1, d, e => by simpa using VRs.get r (k := k) (d := d) (by simpa using e)
theorem VRs.rev {G : Gl} {α : List Addr} {h : Heap} : ∀ {vs : List Value} {ds : List V}, VRs G α h vs ds → VRs G α h vs.reverse ds.reverse
  | _, _, .nil => .nil
  | _, _, .cons x r => by rw [List.reverse_cons, List.reverse_cons]; exact (VRs.rev r).append (.cons x .nil)
theorem VRs.take {G : Gl} {α : List Addr} {h : Heap} (n : Nat) : ∀ {vs : List Value} {ds : List V}, VRs G α h vs ds → VRs G α h (vs.take n) (ds.take n) := by
  induction n with
  | zero => intro vs ds _; simp only [List.take_zero]; exact .nil
  | succ n ih =>
    intro vs ds x
    cases x with
    | nil => exact .nil
    | cons x r => exact .cons x (ih r)
theorem VRs.drop {G : Gl} {α : List Addr} {h : Heap} (n : Nat) : ∀ {vs : List Value} {ds : List V}, VRs G α h vs ds → VRs G α h (vs.drop n) (ds.drop n) := by
  induction n with
  | zero => intro vs ds x; exact x
  | succ n ih =>
    intro vs ds x
    cases x with
    | nil => exact .nil
    | cons x r => exact ih r
theorem VRs.ints {G : Gl} {α : List Addr} {h : Heap} {vs : List Value} {ns : List Int} (x : IntsAre vs ns) : VRs G α h vs (ns.map V.int) := by
  induction x with
  | nil => exact .nil
  | cons _ _ _ ih => exact .cons (.int _ _) ih
theorem VRs.ints_of {G : Gl} {α : List Addr} {h : Heap} : ∀ {vs : List Value} {ns : List Int}, VRs G α h vs (ns.map V.int) → IntsAre vs ns
  | _, [], x => by cases x; exact .nil
  | _, n :: ns, x => by
    cases x with
    | cons e r => cases e; exact .cons _ _ (VRs.ints_of r)

/-- an object of the ledger -/
noncomputable def look {β : Type} (x : Nat) : List (Nat × β) → Option β
  | [] => none
  | (y, v) :: r => bif y == x then some v else look x r
noncomputable def lookI {β : Type} (x : Int) : List (Int × β) → Option β
  | [] => none
  | (y, v) :: r => if y = x then some v else lookI x r

theorem look_nil {β : Type} (x : Nat) : look x ([] : List (Nat × β)) = none := rfl
theorem look_c {β : Type} (x y : Nat) (v : β) (r) : look x ((y, v) :: r) = bif y == x then some v else look x r := rfl
theorem look_cons {β : Type} (x y : Nat) (v : β) (r) : look x ((y, v) :: r) = if y = x then some v else look x r := by
  rw [look_c]
  by_cases h : y = x
  · rw [if_pos h, beq_iff_eq.mpr h]; rfl
  · rw [if_neg h, beq_eq_false_iff_ne.mpr h]; rfl

noncomputable def OR (G : Gl) (α : List Addr) (h : Heap) (a : Addr) : O → Prop
  | .list l => ∃ vs n, h.get? a = some { cls := .type "list", dict := none, data := .seq vs.toArray n, slots := #[] } ∧ VRs G α h vs l
  | .dict l => ∃ kvs, h.DictOf (intKind G.prog G.w) a kvs ∧ kvs.length ≤ l.length ∧ ∀ k, match lookI k l with
      | some d => ∃ v, valueAt kvs k = some v ∧ VR G α h v d
      | none => valueAt kvs k = none
  | .sdict l => ∃ kvs, h.DictOf (strKind G.prog G.w) a kvs ∧ kvs.length ≤ l.length ∧ ∀ k, match look k l with
      | some d => ∃ v, valueAt kvs (nm k) = some v ∧ VR G α h v d
      | none => valueAt kvs (nm k) = none

  | .ns l => ∃ es n, h.get? a = some (dictOf es n) ∧ es.length ≤ l.length ∧ (∀ e ∈ es, ∃ m t, e.key = .str m t) ∧ ∀ k, match look k l with
      | some d => ∃ e, es.find? (fun e => e.key.isStr (nm k)) = some e ∧ VR G α h e.val d
      | none => es.find? (fun e => e.key.isStr (nm k)) = none

theorem OR.occ {G : Gl} {α : List Addr} {h : Heap} {a : Addr} {o : O} (x : OR G α h a o) : ∃ ob, h.get? a = some ob ∧ ¬ Imm G ob := by
  cases o with
  | list l => obtain ⟨vs, n, e, _⟩ := x; exact ⟨_, e, fun i => i.notList rfl⟩
  | dict l => obtain ⟨f, ⟨o, es, ep, e, _, hd, _⟩, _⟩ := x; exact ⟨_, e, fun i => i.notDict hd⟩
  | sdict l => obtain ⟨f, ⟨o, es, ep, e, _, hd, _⟩, _⟩ := x; exact ⟨_, e, fun i => i.notDict hd⟩
  | ns l => obtain ⟨es, n, e, _⟩ := x; exact ⟨_, e, fun i => i.notDict rfl⟩
theorem OR.keep {G : Gl} {α α' : List Addr} {h h' : Heap} {a : Addr} {o : O} (x : OR G α h a o) (ha : ∀ ob, h.get? a = some ob → h'.get? a = some ob)
    (hα : ∀ (i : Nat) (a : Addr), α[i]? = some a → α'[i]? = some a) (hi : ∀ b o, h.get? b = some o → Imm G o → h'.get? b = some o) : OR G α' h' a o := by
  cases o with
  | list l => obtain ⟨vs, n, e, r⟩ := x; exact ⟨vs, n, ha _ e, r.mono hα hi⟩
  | dict l =>
    obtain ⟨kvs, ⟨o, es, ep, e, r⟩, hz, hf⟩ := x
    refine ⟨kvs, ⟨o, es, ep, ha _ e, r⟩, hz, fun k => ?_⟩
    have := hf k
    split
    · rename_i d hd; rw [hd] at this; obtain ⟨v, h1, h2⟩ := this; exact ⟨v, h1, h2.mono hα hi⟩
    · rename_i hd; rw [hd] at this; exact this
  | sdict l =>
    obtain ⟨kvs, ⟨o, es, ep, e, r⟩, hz, hf⟩ := x
    refine ⟨kvs, ⟨o, es, ep, ha _ e, r⟩, hz, fun k => ?_⟩
    have := hf k
    split
    · rename_i d hd; rw [hd] at this; obtain ⟨v, h1, h2⟩ := this; exact ⟨v, h1, h2.mono hα hi⟩
    · rename_i hd; rw [hd] at this; exact this
  | ns l =>
    obtain ⟨es, n, e, hz, hs, hf⟩ := x
    refine ⟨es, n, ha _ e, hz, hs, fun k => ?_⟩
    have := hf k
    split
    · rename_i d hd; rw [hd] at this; obtain ⟨v, h1, h2⟩ := this; exact ⟨v, h1, h2.mono hα hi⟩
    · rename_i hd; rw [hd] at this; exact this

/-- the ledger -/
structure LR (G : Gl) (α : List Addr) (H : Hp) (h : Heap) : Prop where
  len : α.length = H.length
  nd : α.Nodup
  lo : ∀ a ∈ α, G.h0.get? a = none ∧ mainGlobals < a
  obj : ∀ (i : Nat) (a : Addr) (o : O), α[i]? = some a → H[i]? = some o → OR G α h a o
  base : ∀ b o, G.h0.get? b = some o → h.get? b = some o

theorem LR.at {G : Gl} {α : List Addr} {H : Hp} {h : Heap} (x : LR G α H h) {i : Nat} {o : O} (e : H[i]? = some o) : ∃ a, α[i]? = some a ∧ OR G α h a o := by
  have hi : i < α.length := by rw [x.len]; exact (List.getElem?_eq_some_iff.mp e).1
  exact ⟨α[i], List.getElem?_eq_getElem hi, x.obj i _ o (List.getElem?_eq_getElem hi) e⟩
theorem LR.occ {G : Gl} {α : List Addr} {H : Hp} {h : Heap} (x : LR G α H h) {a : Addr} (ha : a ∈ α) : ∃ ob, h.get? a = some ob ∧ ¬ Imm G ob := by
  obtain ⟨i, hi, rfl⟩ := List.getElem_of_mem ha
  have hi' : i < H.length := x.len ▸ hi
  exact (x.obj i _ _ (List.getElem?_eq_getElem hi) (List.getElem?_eq_getElem hi')).occ
theorem LR.keep {G : Gl} {α : List Addr} {H : Hp} {h h' : Heap} (x : LR G α H h) (hk : ∀ b o, h.get? b = some o → (b ∈ α ∨ (G.h0.get? b).isSome ∨ Imm G o) → h'.get? b = some o) : LR G α H h' :=
  ⟨x.len, x.nd, x.lo, fun i a o e f => (x.obj i a o e f).keep (fun _ eo => hk _ _ eo (.inl (List.mem_of_getElem? e))) (fun _ _ e => e) fun b o e i => hk b o e (.inr (.inr i)),
    fun b o e => hk b o (x.base b o e) (.inr (.inl (by rw [e]; rfl)))⟩
/-- every step that leaves the ledger's objects -/
theorem LR.off {G : Gl} {W α : List Addr} {H : Hp} {h h' : Heap} (x : LR G α H h) (y : Ext G W α h α h') (hW : ∀ a ∈ W, a ∉ α ∧ G.h0.get? a = none) : LR G α H h' :=
  x.keep fun b o e hb => y.keep b o e (by
    rcases hb with q | q | q
    · exact .inl fun m => (hW b m).1 q
    · exact .inl fun m => by rw [(hW b m).2] at q; cases q
    · exact .inr q)
theorem LR.all {G : Gl} {α : List Addr} {H : Hp} {h h' : Heap} (x : LR G α H h) (hk : ∀ b o, h.get? b = some o → h'.get? b = some o) : LR G α H h' := x.keep fun b o e _ => hk b o e
theorem LR.set {G : Gl} {α : List Addr} {H : Hp} {h h' : Heap} (x : LR G α H h) {i : Nat} {a : Addr} {o' : O} (e : α[i]? = some a) (hs : Heap.SameBut a h h') (ho : OR G α h' a o') : LR G α (H.set i o') h' := by
  have hi : i < α.length := (List.getElem?_eq_some_iff.mp e).1
  have hi' : i < H.length := x.len ▸ hi
  obtain ⟨ob, eo, no⟩ := x.occ (List.mem_of_getElem? e)
  have ne : ∀ (b : Addr) (o : Obj), h.get? b = some o → Imm G o → b ≠ a := fun b o eb ib q => by subst q; rw [eo] at eb; cases eb; exact no ib
  refine ⟨by rw [List.length_set]; exact x.len, x.nd, x.lo, fun j b o eb fo => ?_, fun b o eb => ?_⟩
  · by_cases q : i = j
    · subst q
      rw [e] at eb; cases eb
      rw [List.getElem?_set_self hi'] at fo; cases fo
      exact ho
    · rw [List.getElem?_set_ne q] at fo
      have hba : b ≠ a := fun q' => by
        subst q'
        obtain ⟨h1, h2⟩ := List.getElem?_eq_some_iff.mp e
        obtain ⟨h3, h4⟩ := List.getElem?_eq_some_iff.mp eb
        exact q ((List.getElem_inj (h₀ := h1) (h₁ := h3) x.nd).mp (h2.trans h4.symm))
      exact (x.obj j b o eb fo).keep (fun ob eo => (hs.2 b hba).trans eo) (fun _ _ e => e) fun c oc ec ic => (hs.2 c (ne c oc ec ic)).trans ec
  · have hba : b ≠ a := fun q => by
      subst q
      rw [(x.lo _ (List.mem_of_getElem? e)).1] at eb; cases eb
    exact (hs.2 b hba).trans (x.base b o eb)
theorem LR.ext_set {G : Gl} {α : List Addr} {H : Hp} {h h' : Heap} (x : LR G α H h) {i : Nat} {a : Addr} {o' : Obj} (e : α[i]? = some a) (hs : Heap.SameBut a h h') (ha : h'.get? a = some o') : Ext G α α h α h' := by
  obtain ⟨ob, eo, no⟩ := x.occ (List.mem_of_getElem? e)
  refine ⟨⟨[], by simp, fun _ h => nomatch h⟩, fun b o eb hb => ?_, fun b o eb => ?_⟩
  · have hba : b ≠ a := fun q => by
      subst q
      rcases hb with q | q
      · exact q (List.mem_of_getElem? e)
      · rw [eo] at eb; cases eb; exact no q
    exact (hs.2 b hba).trans eb
  · by_cases q : b = a
    · subst q; exact ⟨_, ha⟩
    · exact ⟨o, (hs.2 b q).trans eb⟩
theorem getElem?_snoc {β : Type} {l : List β} {x y : β} {i : Nat} (e : (l ++ [x])[i]? = some y) : l[i]? = some y ∨ (i = l.length ∧ y = x) := by
  by_cases h : i < l.length
  · rw [List.getElem?_append_left h] at e; exact .inl e
  · by_cases h' : i = l.length
    · subst h'
      rw [List.getElem?_append_right (Nat.le_refl _), Nat.sub_self] at e
      exact .inr ⟨rfl, by simpa using e.symm⟩
    · have : (l ++ [x]).length ≤ i := by rw [List.length_append]; simp; omega
      rw [List.getElem?_eq_none this] at e; cases e
theorem LR.above {G : Gl} {α : List Addr} {H : Hp} {h : Heap} (x : LR G α H h) {a : Addr} (ha : h.objs.size ≤ a) : G.h0.get? a = none ∧ mainGlobals < a := by
  constructor
  · cases q : G.h0.get? a with
    | none => rfl
    | some o => exact absurd (Heap.lt_size (x.base _ _ q)) (Nat.not_lt.mpr ha)
  · obtain ⟨o, es, ep, e, _⟩ := G.g
    exact Nat.lt_of_lt_of_le (Heap.lt_size (x.base _ _ e)) ha
theorem LR.new {G : Gl} {α : List Addr} {H : Hp} {h h' : Heap} {a : Addr} (x : LR G α H h) {o : O} (hk : ∀ b o, h.get? b = some o → h'.get? b = some o) (ha : h.objs.size ≤ a ∨ (h.get? a = none ∧ G.h0.get? a = none ∧ mainGlobals < a))
    (ho : OR G (α ++ [a]) h' a o) : LR G (α ++ [a]) (H ++ [o]) h' := by
  have hn : h.get? a = none := ha.elim (fun q => by
    cases e : h.get? a with
    | none => rfl
    | some o => exact absurd (Heap.lt_size e) (Nat.not_lt.mpr q)) (·.1)
  refine ⟨by simp [x.len], ?_, fun b hb => ?_, fun i b o' e f => ?_, fun b o' e => hk _ _ (x.base b o' e)⟩
  · refine List.nodup_append.mpr ⟨x.nd, by simp, fun c hc b hb q => ?_⟩
    simp at hb; subst hb; subst q
    obtain ⟨ob, e, _⟩ := x.occ hc
    rw [hn] at e; cases e
  · rcases List.mem_append.mp hb with q | q
    · exact x.lo b q
    · simp at q; rw [q]; exact ha.elim (fun z => x.above z) (·.2)
  · rcases getElem?_snoc f with f' | ⟨rfl, rfl⟩
    · have hi : i < α.length := x.len ▸ (List.getElem?_eq_some_iff.mp f').1
      rw [List.getElem?_append_left hi] at e
      exact (x.obj i b o' e f').keep (fun ob eo => hk _ _ eo) (fun j c q => by rw [List.getElem?_append_left (List.getElem?_eq_some_iff.mp q).1]; exact q) fun b o eb _ => hk _ _ eb
    · rw [← x.len, List.getElem?_append_right (Nat.le_refl _), Nat.sub_self] at e
      simp at e; subst e; exact ho

end Mine

namespace Mine
open PySem PySem.W PyProof.Rows

abbrev Mo (G : Gl) : Model := model G.prog G.w

/-- room for calls: k levels are still allowed -/
structure AOk (k : Nat) (A : Around) : Prop where
  handled : A.handled = none
  depth : A.depth + 4 * k + 4 < recursionLimit
  units : A.units + 16 * k + 200 < cLine
theorem AOk.mono {k j : Nat} {A : Around} (x : AOk k A) (h : j ≤ k) : AOk j A := ⟨x.handled, by have := x.depth; omega, by have := x.units; omega⟩
theorem AOk.deeper {k : Nat} {A : Around} {env : Env} (x : AOk (k + 1) A) : AOk k (A.deeper env) :=
  ⟨x.handled, by have := x.depth; show A.depth + 1 + _ + _ < _; omega, by have := x.units; show A.units + 3 + _ + _ < _; omega⟩

/-- a tree that ends, with what it hands on -/
noncomputable def Tr {β γ : Type} (G : Gl) (Rl : List Addr → Heap → β → γ → Prop) (A : Around) (α : List Addr) (t : Sem β) (Q : γ → Hp → Prop) (s : Shared) : Prop :=
  ∀ (R : β → Shared → Prop) (E : Value → Shared → Prop),
    (∀ v d α' H' h' tk, Q d H' → Ext G α α s.heap α' h' → LR G α' H' h' → Rl α' h' v d → R v { s with heap := h', toks := tk }) → wpAny (Mo G) A t R E s
abbrev RB : List Addr → Heap → Bool → Bool → Prop := fun _ _ a b => a = b
abbrev RU : List Addr → Heap → Unit → Unit → Prop := fun _ _ _ _ => True

section
variable {β γ δ ε : Type} {G : Gl} {Rl : List Addr → Heap → β → γ → Prop} {Rm : List Addr → Heap → δ → ε → Prop} {A : Around} {α : List Addr} {s : Shared} {H : Hp}
theorem Tr.bind {t : Sem β} {f : β → Sem δ} {Q : γ → Hp → Prop} {Q' : ε → Hp → Prop} (h : Tr G Rl A α t Q s)
    (k : ∀ v d α' H' h' tk, Q d H' → Ext G α α s.heap α' h' → LR G α' H' h' → Rl α' h' v d → Tr G Rm A α' (f v) Q' { s with heap := h', toks := tk }) : Tr G Rm A α (t >>= f) Q' s :=
  fun R E hR => wpAny_bind (h _ E fun v d α' H' h' tk hq x l r => k v d α' H' h' tk hq x l r R E fun v₂ d₂ α₂ H₂ h₂ tk₂ hq₂ x₂ l₂ r₂ => hR v₂ d₂ α₂ H₂ h₂ tk₂ hq₂ (x.then x₂) l₂ r₂)
theorem Tr.mono {t : Sem β} {Q Q' : γ → Hp → Prop} (h : Tr G Rl A α t Q s) (k : ∀ d H, Q d H → Q' d H) : Tr G Rl A α t Q' s :=
  fun R E hR => h R E fun v d α' H' h' tk hq => hR v d α' H' h' tk (k d H' hq)
theorem Tr.of {t : Sem β} {Q : γ → Hp → Prop} (h : ∀ R E, (∀ v d α' H' h' tk, Q d H' → Ext G α α s.heap α' h' → LR G α' H' h' → Rl α' h' v d → R v { s with heap := h', toks := tk }) → wpAny (Mo G) A t R E s) : Tr G Rl A α t Q s := h
theorem Tr.pure {v : β} {d : γ} {Q : γ → Hp → Prop} (hq : Q d H) (l : LR G α H s.heap) (r : Rl α s.heap v d) : Tr G Rl A α (Pure.pure v) Q s :=
  fun _ _ hR => wpAny_pure (hR v d α H s.heap s.toks hq .refl l r)
end

/-! frames -/
structure EnvOk (env : Env) : Prop where
  kind : env.scope.kind = .function
  glob : env.globals = mainGlobals
  blt : env.builtins = builtinsNs
  cells : ∀ n, (env.kindOf n = some .cell ∨ env.kindOf n = some .free) → ∃ c, env.cells.lookup n = some c
  apart : ∀ n n' c, env.cells.lookup n = some c → env.cells.lookup n' = some c → n = n'

abbrev Rho := List (Nat × V)
structure FR (G : Gl) (env : Env) (α : List Addr) (ρ : Rho) (h : Heap) : Prop where
  ok : EnvOk env
  L0 : G.h0.get? env.locals = none
  Lα : env.locals ∉ α
  C0 : ∀ c ∈ env.cells.map (·.2), G.h0.get? c = none ∧ c ∉ α ∧ ∃ v, h.IsCell c v
  ns : ∃ m, h.Ns env.locals m ∧ ∀ x d, look x ρ = some d → env.kindOf (nm x) = some .local → ∃ v, m (nm x) = some v ∧ VR G α h v d
  cv : ∀ x d, look x ρ = some d → env.kindOf (nm x) = some .local ∨ ((env.kindOf (nm x) = some .cell ∨ env.kindOf (nm x) = some .free) ∧ ∃ c v, env.cells.lookup (nm x) = some c ∧ h.IsCell c (some v) ∧ VR G α h v d)

theorem mem_cells {cs : List (Str × Addr)} {n : Str} {c : Addr} (h : cs.lookup n = some c) : c ∈ cs.map (·.2) := List.mem_map.mpr ⟨_, mem_of_lookup h, rfl⟩
theorem cell_get {h h' : Heap} {c : Addr} {v : Option Value} (x : h.IsCell c v) (hk : ∀ o, h.get? c = some o → h'.get? c = some o) : h'.IsCell c v :=
  let ⟨o, ho, hd⟩ := x; ⟨o, hk o ho, hd⟩
theorem ns_get {h h' : Heap} {a m} (x : h.Ns a m) (hk : ∀ o, h.get? a = some o → h'.get? a = some o) : h'.Ns a m :=
  let ⟨o, es, ep, e, r⟩ := x; ⟨o, es, ep, hk o e, r⟩
theorem Ext.notIn {G : Gl} {W α α' : List Addr} {h h' : Heap} {o : Obj} (x : Ext G W α h α' h') {a : Addr} (ha : a ∉ α) (e : h.get? a = some o) : a ∉ α' := fun m => by
  obtain ⟨β, rfl, hβ⟩ := x.pre
  rcases List.mem_append.mp m with q | q
  · exact ha q
  · rw [hβ a q] at e; cases e
theorem FR.ext {G : Gl} {env : Env} {α α' : List Addr} {ρ : Rho} {h h' : Heap} (x : FR G env α ρ h) (y : Ext G α α h α' h') : FR G env α' ρ h' := by
  obtain ⟨m, hn, hv⟩ := x.ns
  have kc : ∀ c ∈ env.cells.map (·.2), ∀ o, h.get? c = some o → h'.get? c = some o := fun c hc o e => y.keep c o e (.inl (x.C0 c hc).2.1)
  obtain ⟨oL, _, _, eL, _⟩ := id hn
  refine ⟨x.ok, x.L0, y.notIn x.Lα eL, fun c hc => ?_, ⟨m, ns_get hn fun o e => y.keep _ o e (.inl x.Lα), fun a d e k => ?_⟩, fun a d e => ?_⟩
  · obtain ⟨h1, h2, v, h3⟩ := x.C0 c hc
    obtain ⟨oc, ec, _⟩ := id h3
    exact ⟨h1, y.notIn h2 ec, v, cell_get h3 (kc c hc)⟩
  · obtain ⟨v, h1, h2⟩ := hv a d e k; exact ⟨v, h1, h2.ext y⟩
  · rcases x.cv a d e with q | ⟨k, c, v, h1, h2, h3⟩
    · exact .inl q
    · exact .inr ⟨k, c, v, h1, cell_get h2 (kc c (mem_cells h1)), h3.ext y⟩

/-- what a statement of this frame may write -/
abbrev Wf (env : Env) (α : List Addr) : List Addr := env.locals :: env.cells.map (·.2) ++ α

section
variable {G : Gl} {A : Around} {α : List Addr} {s : Shared} {H : Hp} {env : Env} {ρ : Rho}

theorem FR.load {x : Nat} {d : V} {pos : Pos} {R : Value → Shared → Prop} {E : Value → Shared → Prop} (F : FR G env α ρ s.heap) (e : look x ρ = some d)
    (hd : (nm x == ("__debug__" : Str)) = false) (hc : (nm x == ("__classdict__" : Str)) = false) (h : ∀ v, VR G α s.heap v d → R v s) : wpAny (Mo G) A (eval (.Name (nm x) pos) env) R E s := by
  obtain ⟨m, hn, hv⟩ := F.ns
  refine wpAny_Name ?_ hd
  rcases F.cv x d e with q | ⟨k, c, v, h1, h2, h3⟩
  · obtain ⟨v, h1, h2⟩ := hv x d e q
    exact wpAny_loadName_local F.ok.kind q hn h1 (h v h2)
  · rcases k with k | k
    · exact wpAny_loadName_cell F.ok.kind k h1 h2 (h v h3)
    · exact wpAny_loadName_free F.ok.kind k h1 h2 (h v h3) hc
theorem FR.loadN {x : Nat} {d : V} {R : Value → Shared → Prop} {E : Value → Shared → Prop} (F : FR G env α ρ s.heap) (e : look x ρ = some d)
    (hc : (nm x == ("__classdict__" : Str)) = false) (h : ∀ v, VR G α s.heap v d → R v s) : wpAny (Mo G) A (loadName env (nm x)) R E s := by
  obtain ⟨m, hn, hv⟩ := F.ns
  rcases F.cv x d e with q | ⟨k, c, v, h1, h2, h3⟩
  · obtain ⟨v, h1, h2⟩ := hv x d e q
    exact wpAny_loadName_local F.ok.kind q hn h1 (h v h2)
  · rcases k with k | k
    · exact wpAny_loadName_cell F.ok.kind k h1 h2 (h v h3)
    · exact wpAny_loadName_free F.ok.kind k h1 h2 (h v h3) hc

theorem FR.offL (F : FR G env α ρ s.heap) : ∀ a ∈ env.locals :: env.cells.map (·.2), a ∉ α ∧ G.h0.get? a = none := fun a ha => by
  rcases List.mem_cons.mp ha with rfl | ha
  · exact ⟨F.Lα, F.L0⟩
  · exact ⟨(F.C0 a ha).2.1, (F.C0 a ha).1⟩

/-- a store into a name of the frame's -/
theorem FR.store {x : Nat} {v : Value} {d : V} {R : Unit → Shared → Prop} {E : Value → Shared → Prop} (F : FR G env α ρ s.heap) (L : LR G α H s.heap) (hk : env.kindOf (nm x) = some .local ∨ env.kindOf (nm x) = some .cell)
    (hv : VR G α s.heap v d) (h : ∀ h' tk, FR G env α ((x, d) :: ρ) h' → LR G α H h' → Ext G (Wf env α) α s.heap α h' → R () { s with heap := h', toks := tk }) :
    wpAny (Mo G) A (storeName env (nm x) v) R E s := by
  obtain ⟨m, hn, hm⟩ := F.ns
  rcases hk with hk | hk
  · refine wpAny_storeName_local hk hn (fun h' hn' hs => ?_) (by rw [F.ok.kind]; rfl)
    have X : Ext G [env.locals] α s.heap α h' := ⟨⟨[], by simp, fun _ h => nomatch h⟩, fun b o e hb => by
      have : b ≠ env.locals := fun q => by
        subst q
        rcases hb with q | q
        · simp at q
        · obtain ⟨o', es, ep, e', hd, _⟩ := hn
          rw [e'] at e; cases e; exact q.notDict hd
      exact (hs.2 b this).trans e, fun b o e => by
        by_cases q : b = env.locals
        · subst q; obtain ⟨o', _, _, e', _⟩ := hn'; exact ⟨o', e'⟩
        · exact ⟨o, (hs.2 b q).trans e⟩⟩
    have L' : LR G α H h' := L.off X fun a ha => by simp at ha; subst ha; exact ⟨F.Lα, F.L0⟩
    have kc : ∀ c ∈ env.cells.map (·.2), ∀ o, s.heap.get? c = some o → h'.get? c = some o := fun c hc o e => X.keep c o e (.inl (by
      simp; rintro rfl
      obtain ⟨_, _, w, o', e', hd'⟩ := F.C0 _ hc
      obtain ⟨o₂, es, ep, e₂, hd, _⟩ := hn
      rw [e'] at e₂; cases e₂; rw [hd'] at hd; cases hd))
    refine h h' _ ⟨F.ok, F.L0, F.Lα, fun c hc => ?_, ⟨_, hn', fun y d' e k => ?_⟩, fun y d' e => ?_⟩ L' (X.weaken fun a ha => by simp at ha; subst ha; exact List.mem_cons_self)
    · obtain ⟨h1, h2, w, h3⟩ := F.C0 c hc; exact ⟨h1, h2, w, cell_get h3 (kc c hc)⟩
    · rw [look_cons] at e
      by_cases q : x = y
      · subst q; simp at e; subst e; exact ⟨v, by simp, hv.ext X⟩
      · rw [if_neg q] at e
        obtain ⟨w, h1, h2⟩ := hm y d' e k
        refine ⟨w, ?_, h2.ext X⟩
        rw [if_neg (fun z => q (nm_inj z).symm)]; exact h1
    · rw [look_cons] at e
      by_cases q : x = y
      · subst q; exact .inl hk
      · rw [if_neg q] at e
        rcases F.cv y d' e with z | ⟨k, c, w, h1, h2, h3⟩
        · exact .inl z
        · exact .inr ⟨k, c, w, h1, cell_get h2 (kc c (mem_cells h1)), h3.ext X⟩
  · obtain ⟨c, hc⟩ := F.ok.cells _ (.inl hk)
    obtain ⟨c0, cα, w0, hcell⟩ := F.C0 c (mem_cells hc)
    refine wpAny_storeName_cell F.ok.kind hk hc hcell fun h' hc' hs => ?_
    have X : Ext G [c] α s.heap α h' := ⟨⟨[], by simp, fun _ h => nomatch h⟩, fun b o e hb => by
      have : b ≠ c := fun q => by
        subst q
        rcases hb with q | q
        · simp at q
        · obtain ⟨o', e', hd⟩ := hcell
          rw [e'] at e; cases e; exact q.notCell hd
      exact (hs.2 b this).trans e, fun b o e => by
        by_cases q : b = c
        · subst q; obtain ⟨o', e', _⟩ := hc'; exact ⟨o', e'⟩
        · exact ⟨o, (hs.2 b q).trans e⟩⟩
    have L' : LR G α H h' := L.off X fun a ha => by simp at ha; subst ha; exact ⟨cα, c0⟩
    have cL : env.locals ≠ c := fun q => by
      obtain ⟨o', e', hd'⟩ := hcell
      obtain ⟨o₂, es, ep, e₂, hd, _⟩ := hn
      rw [q, e'] at e₂; cases e₂; rw [hd'] at hd; cases hd
    have kc : ∀ b, b ≠ c → ∀ o, s.heap.get? b = some o → h'.get? b = some o := fun b hb o e => (hs.2 b hb).trans e
    refine h h' s.toks ⟨F.ok, F.L0, F.Lα, fun b hb => ?_, ⟨_, ns_get hn (kc _ cL), fun y d' e k => ?_⟩, fun y d' e => ?_⟩ L' (X.weaken fun a ha => by
      simp at ha; subst ha; exact List.mem_cons_of_mem _ (List.mem_append_left _ (mem_cells hc)))
    · obtain ⟨h1, h2, w, h3⟩ := F.C0 b hb
      by_cases q : b = c
      · subst q; exact ⟨h1, h2, _, hc'⟩
      · exact ⟨h1, h2, w, cell_get h3 (kc b q)⟩
    · rw [look_cons] at e
      by_cases q : x = y
      · subst q; rw [hk] at k; cases k
      · rw [if_neg q] at e
        obtain ⟨w, h1, h2⟩ := hm y d' e k
        exact ⟨w, h1, h2.ext X⟩
    · rw [look_cons] at e
      by_cases q : x = y
      · subst q; simp at e; subst e; exact .inr ⟨.inl hk, c, v, hc, hc', hv.ext X⟩
      · rw [if_neg q] at e
        rcases F.cv y d' e with z | ⟨k, b, w, h1, h2, h3⟩
        · exact .inl z
        · have hb : b ≠ c := fun z => q (nm_inj (F.ok.apart _ _ _ hc (z ▸ h1)))
          exact .inr ⟨k, b, w, h1, cell_get h2 (kc b hb), h3.ext X⟩
end
end Mine

namespace Mine
open PySem PySem.W PyProof.Rows

inductive Bf where
  | len | range | sum | tuple | list | max | dict
  deriving DecidableEq
noncomputable def Bf.name : Bf → Str
  | .len => "len" | .range => "range" | .sum => "sum" | .tuple => "tuple" | .list => "list" | .max => "max" | .dict => "dict"
noncomputable def Bf.val : Bf → Value
  | .len => .builtin "len" | .sum => .builtin "sum" | .max => .builtin "max" | .range => .type "range" | .tuple => .type "tuple" | .list => .type "list" | .dict => .type "dict"
inductive Bm where
  | append | pop | index | get | reverse
  deriving DecidableEq
noncomputable def Bm.name : Bm → Str
  | .append => "append" | .pop => "pop" | .index => "index" | .get => "get" | .reverse => "reverse"
mutual
inductive E where
  | cint (i : Int) | cneg (i : Int) | cstr (k : Nat) | cbool (b : Bool) | cnone
  | var (x : Nat)
  | bin (op : Operator) (l r : E)
  | cmp (op : CmpOp) (l r : E)
  | or2 (l r : E)
  | tand (l : Es) | tor (l : Es) | not (e : E)
  | ite (t b o : E)
  | tup (l : Es) | lst (l : Es) | dctI (ks : List Int) (vs : Es) | dctS (ks : List Nat) (vs : Es)
  | sub (v i : E) | slTo (v : E) (n : Nat) | slFrom (v : E) (n : Nat)
  | attr (v : E) (a : Nat)
  | call (f : Nat) (l : Es) | new (l : Es) | meth (o : E) (m : Nat) (l : Es)
  | bcall (f : Bf) (l : Es) | bmeth (o : E) (m : Bm) (l : Es)
  | comp (elt : E) (x : Nat) (it : E) (fv : List Nat)
  | compIf (elt : E) (x : Nat) (it : E) (c : E) (fv : List Nat)
  | comp2 (elt : E) (x y : Nat) (it : E) (fv : List Nat)
inductive Es where
  | nil | cons (e : E) (r : Es)
end
mutual
inductive S where
  | asg (x : Nat) (e : E) | asgC (x : Nat) (e : E) | asgT (xs : List Nat) (e : E)
  | asgA (o : E) (a : Nat) (e : E) | asgI (o i e : E)
  | aug (x : Nat) (op : Operator) (e : E) | augA (o : E) (a : Nat) (op : Operator) (e : E)
  | for_ (x : Nat) (it : E) (body : Ss) | forT (xs : List Nat) (it : E) (body : Ss)
  | while_ (t : E) (body : Ss) | if_ (t : E) (b o : Ss)
  | ret (e : E) | expr (e : E) | brk
inductive Ss where
  | nil | cons (a : S) (r : Ss)
end

/-! the meaning of the words -/
abbrev PV := V → Hp → Prop
inductive Deep (H : Hp) : V → PyData → Prop
  | none : Deep H .none .none
  | bool (b : Bool) : Deep H (.bool b) (.bool b)
  | int (i : Int) : Deep H (.int i) (.int i)
  | str (k : Nat) : Deep H (.str k) (.str (nm k))
  | tupN : Deep H (.tup []) (.tuple [])
  | tupC {d : V} {ds : List V} {t : PyData} {ts : List PyData} : Deep H d t → Deep H (.tup ds) (.tuple ts) → Deep H (.tup (d :: ds)) (.tuple (t :: ts))
  | list {i : Nat} {l : List V} {ts : List PyData} : H[i]? = some (.list l) → Deep H (.tup l) (.tuple ts) → Deep H (.ref i) (.list ts)

noncomputable def isInt (x : Int) : V → Bool
  | .int y => decide (y = x)
  | _ => false
noncomputable def allInts (l : List V) : Prop := ∀ d ∈ l, ∃ i, d = V.int i
noncomputable def nth (l : List V) (k : Int) : Option V := if 0 ≤ k then l[k.toNat]? else if 0 ≤ k + l.length then l[(k + l.length).toNat]? else none
noncomputable def asInts : List V → Option (List Int)
  | [] => some []
  | .int i :: r => (asInts r).map (i :: ·)
  | _ :: _ => none
noncomputable def idxOf (x : Int) : List V → Option Nat
  | [] => none
  | d :: r => if isInt x d then some 0 else (idxOf x r).map (· + 1)
/-! what a value must be -/
noncomputable abbrev onSome (o : Option V) (K : V → Prop) : Prop := match o with | some d => K d | none => False
noncomputable abbrev onInt (a : V) (K : Int → Prop) : Prop := match a with | .int x => K x | _ => False
noncomputable abbrev onStr (a : V) (K : Nat → Prop) : Prop := match a with | .str x => K x | _ => False
noncomputable abbrev onRef (a : V) (K : Nat → Prop) : Prop := match a with | .ref x => K x | _ => False
noncomputable abbrev onTup (a : V) (K : List V → Prop) : Prop := match a with | .tup x => K x | _ => False
noncomputable abbrev onInst (a : V) (K : Nat → Prop) : Prop := match a with | .inst x => K x | _ => False
noncomputable abbrev onList (H : Hp) (i : Nat) (K : List V → Prop) : Prop := match H[i]? with | some (.list l) => K l | _ => False
noncomputable abbrev onDict (H : Hp) (i : Nat) (K : List (Int × V) → Prop) : Prop := match H[i]? with | some (.dict l) => K l | _ => False
noncomputable abbrev onSdict (H : Hp) (i : Nat) (K : List (Nat × V) → Prop) : Prop := match H[i]? with | some (.sdict l) => K l | _ => False
noncomputable abbrev onNs (H : Hp) (i : Nat) (K : List (Nat × V) → Prop) : Prop := match H[i]? with | some (.ns l) => K l | _ => False
noncomputable abbrev onLD (H : Hp) (i : Nat) (K : List V → Prop) (K' : List (Int × V) → Prop) : Prop := onList H i K ∨ onDict H i K'
noncomputable abbrev onTR (a : V) (K : List V → Prop) (K' : Nat → Prop) : Prop := onTup a K ∨ onRef a K'
noncomputable def deepW (a b : V) (H : Hp) (P : Prop) : Prop := ∃ t, Deep H a t ∧ Deep H b t ∧ t.canLay0 = true ∧ t.depth ≤ 100 ∧ P
noncomputable def binW (op : Operator) (a b : V) (H : Hp) (Q : PV) : Prop := match op with
  | .Add => onInt a (fun x => onInt b fun y => Q (.int (x + y)) H) ∨ onRef a (fun i => onRef b fun j => onList H i fun l => onList H j fun m => l.length + m.length ≤ 1000 ∧ Q (.ref H.length) (H ++ [.list (l ++ m)]))
  | .Sub => onInt a fun x => onInt b fun y => Q (.int (x - y)) H
  | .Mult => onInt a fun x => onInt b fun y => (x.natAbs < 2 ^ 63 ∨ y.natAbs < 2 ^ 63) ∧ Q (.int (x * y)) H
  | .FloorDiv => onInt a fun x => onInt b fun y => 0 < y ∧ y < 2 ^ 62 ∧ Q (.int (x / y)) H
  | .Mod => onInt a fun x => onInt b fun y => 0 < y ∧ Q (.int (x % y)) H
  | .Pow => onInt a fun x => onInt b fun y => x = 2 ∧ 0 ≤ y ∧ y ≤ 1000 ∧ Q (.int (2 ^ y.toNat)) H
  | .LShift => onInt a fun x => onInt b fun y => 0 ≤ y ∧ y ≤ 1000 ∧ x.natAbs < 2 ^ 64 ∧ Q (.int (x * 2 ^ y.toNat)) H
  | .RShift => onInt a fun x => onInt b fun y => 0 ≤ y ∧ Q (.int (x / 2 ^ y.toNat)) H
  | .BitAnd => onInt a fun x => onInt b fun y => Q (.int (Builtin.bitAnd x y)) H
  | .BitOr => onInt a fun x => onInt b fun y => Q (.int (Builtin.bitOr x y)) H
  | .BitXor => onInt a fun x => onInt b fun y => Q (.int (Builtin.bitXor x y)) H
  | _ => False
noncomputable def augW (op : Operator) (a b : V) (H : Hp) (Q : PV) : Prop := match op with
  | .Add => onInt a fun x => onInt b fun y => Q (.int (x + y)) H
  | .BitOr => onInt a fun x => onInt b fun y => Q (.int (Builtin.bitOr x y)) H
  | _ => False
noncomputable def cmpW (op : CmpOp) (a b : V) (H : Hp) (K : Bool → Prop) : Prop := match op with
  | .Eq => onInt a (fun x => onInt b fun y => K (decide (x = y))) ∨ onStr a (fun j => onStr b fun k => K (decide (j = k))) ∨
      (∃ i j, a = .ref i ∧ b = .ref j ∧ ((H[j]? = some (.list []) ∧ onList H i fun l => allInts l ∧ K l.isEmpty) ∨ deepW a b H (K true))) ∨ (∃ l m, a = .tup l ∧ b = .tup m ∧ deepW a b H (K true))
  | .NotEq => onInt a (fun x => onInt b fun y => K (!decide (x = y))) ∨ onStr a (fun j => onStr b fun k => K (!decide (j = k))) ∨ (∃ i j, a = .ref i ∧ b = .ref j ∧ deepW a b H (K false))
  | .Lt => onInt a fun x => onInt b fun y => K (decide (x < y))
  | .Gt => onInt a fun x => onInt b fun y => K (decide (y < x))
  | .GtE => onInt a fun x => onInt b fun y => K (decide (y ≤ x))
  | .In => onInt a fun x => onTR b (fun l => allInts l ∧ K (l.any (isInt x))) fun i => onLD H i (fun l => allInts l ∧ K (l.any (isInt x))) fun l => K (lookI x l).isSome
  | .NotIn => onInt a fun x => onRef b fun i => onLD H i (fun l => allInts l ∧ K (!l.any (isInt x))) fun l => K (!(lookI x l).isSome)
  | _ => False
noncomputable def truthW (a : V) (K : Bool → Prop) : Prop := match a with
  | .bool b => K b
  | .int x => K (!decide (x = 0))
  | _ => False
noncomputable def subW (a b : V) (H : Hp) (Q : PV) : Prop := onTup a (fun l => onInt b fun k => 0 ≤ k ∧ k < 2 ^ 62 ∧ onSome l[k.toNat]? fun d => Q d H) ∨ onRef a fun i =>
  onInt b (fun k => onLD H i (fun l => -(2 ^ 62) < k ∧ k < 2 ^ 62 ∧ onSome (nth l k) fun d => Q d H) fun l => onSome (lookI k l) fun d => Q d H) ∨
  onStr b fun k => onSdict H i fun l => onSome (look k l) fun d => Q d H
noncomputable def b1W (f : Bf) (a : V) (H : Hp) (Q : PV) : Prop := match f with
  | .len => onTR a (fun l => l.length ≤ 1000000 ∧ Q (.int l.length) H) fun i => onList H i fun l => l.length ≤ 1000000 ∧ Q (.int l.length) H
  | .range => onInt a fun n => 0 ≤ n ∧ n ≤ 1000000 ∧ Q (.rng 0 n.toNat) H
  | .sum => onRef a fun i => onList H i fun l => ∃ ns, asInts l = some ns ∧ l.length ≤ 1000000 ∧ Q (.int ns.sum) H
  | .tuple => onTR a (fun l => Q (.tup l) H) fun i => onList H i fun l => l.length ≤ 10000 ∧ Q (.tup l) H
  | .list => onRef a fun i => onList H i fun l => l.length ≤ 10000 ∧ Q (.ref H.length) (H ++ [.list l])
  | .dict => onRef a fun i => onDict H i fun l => l.length ≤ 1000 ∧ Q (.ref H.length) (H ++ [.dict l])
  | .max => False
noncomputable def b2W (f : Bf) (a b : V) (H : Hp) (Q : PV) : Prop := match f with
  | .range => onInt a fun x => onInt b fun y => -1000000 ≤ x ∧ x ≤ y ∧ y ≤ 1000000 ∧ Q (.rng x (y - x).toNat) H
  | .max => onInt a fun x => onInt b fun y => Q (.int (if y > x then y else x)) H
  | _ => False
noncomputable abbrev on0 (l : List V) (P : Prop) : Prop := match l with | [] => P | _ => False
noncomputable abbrev on1 (l : List V) (K : V → Prop) : Prop := match l with | [a] => K a | _ => False
noncomputable abbrev on2 (l : List V) (K : V → V → Prop) : Prop := match l with | [a, b] => K a b | _ => False
noncomputable def bW (f : Bf) (ds : List V) (H : Hp) (Q : PV) : Prop := on1 ds (fun a => b1W f a H Q) ∨ on2 ds fun a b => b2W f a b H Q
noncomputable def bmW (m : Bm) (o : V) (ds : List V) (H : Hp) (Q : PV) : Prop := onRef o fun i => match m with
  | .append => on1 ds fun d => onList H i fun l => l.length ≤ 1000000 ∧ Q .none (H.set i (.list (l ++ [d])))
  | .pop => on0 ds (onList H i fun l => l.length ≤ 1000000 ∧ onSome l.getLast? fun d => Q d (H.set i (.list l.dropLast)))
  | .index => on1 ds fun d => onInt d fun x => onList H i fun l => l.length ≤ 1000000 ∧ allInts l ∧ ∃ k, idxOf x l = some k ∧ Q (.int k) H
  | .get => on2 ds fun c d => onInt c fun k => onDict H i fun l => Q ((lookI k l).getD d) H
  | .reverse => on0 ds (onList H i fun l => l.length ≤ 1000000 ∧ Q .none (H.set i (.list l.reverse)))
noncomputable def bmHas (m : Bm) (d : V) (H : Hp) : Prop := onRef d fun i => match m with
  | .get => onDict H i fun _ => True
  | _ => onList H i fun _ => True
/-- what a loop takes: the items, and what must stand while it runs -/
noncomputable def iters : V → Hp → Option (List V × (Hp → Prop))
  | .rng lo n, _ => some ((List.range n).map fun (k : Nat) => V.int (lo + (k : Int)), fun _ => True)
  | .tup l, _ => some (l, fun _ => True)
  | .ref i, H => (match H[i]? with
      | some (.list l) => some (l, fun H' => H'[i]? = some (.list l))
      | _ => none)
  | _, _ => none
noncomputable def compW (f : V → Hp → PV → Prop) (st : Hp → Prop) : List V → Hp → List V → (List V → Hp → Prop) → Prop
  | [], H, acc, K => st H ∧ K acc H
  | v :: vs, H, acc, K => st H ∧ f v H fun y H' => compW f st vs H' (acc ++ [y]) K
noncomputable def compIfW (c : V → Hp → (Bool → Hp → Prop) → Prop) (f : V → Hp → PV → Prop) (st : Hp → Prop) : List V → Hp → List V → (List V → Hp → Prop) → Prop
  | [], H, acc, K => st H ∧ K acc H
  | v :: vs, H, acc, K => st H ∧ c v H fun b H₁ => (b = true → f v H₁ fun y H' => compIfW c f st vs H' (acc ++ [y]) K) ∧ (b = false → compIfW c f st vs H₁ acc K)

noncomputable def keepV (fv : List Nat) (ρ : Rho) : Rho := ρ.filter fun p => fv.contains p.1

abbrev CallT := Nat → List V → Hp → PV → Prop
noncomputable def cInit : Nat := 105
mutual
noncomputable def E.wp (C : CallT) : E → Rho → Hp → PV → Prop
  | .cint i, _, H, Q => Q (.int i) H
  | .cneg i, _, H, Q => Q (.int (-i)) H
  | .cstr k, _, H, Q => Q (.str k) H
  | .cbool b, _, H, Q => Q (.bool b) H
  | .cnone, _, H, Q => Q .none H
  | .var x, ρ, H, Q => onSome (look x ρ) fun d => Q d H
  | .bin op l r, ρ, H, Q => l.wp C ρ H fun a H₁ => r.wp C ρ H₁ fun b H₂ => binW op a b H₂ Q
  | .cmp op l r, ρ, H, Q => l.wp C ρ H fun a H₁ => r.wp C ρ H₁ fun b H₂ => cmpW op a b H₂ fun c => Q (.bool c) H₂
  | .or2 l r, ρ, H, Q => l.wp C ρ H fun a H₁ => truthW a fun t => (t = true → Q a H₁) ∧ (t = false → r.wp C ρ H₁ Q)
  | .tand _, _, _, _ => False
  | .tor _, _, _, _ => False
  | .not _, _, _, _ => False
  | .ite t b o, ρ, H, Q => t.wt C ρ H fun c H₁ => (c = true → b.wp C ρ H₁ Q) ∧ (c = false → o.wp C ρ H₁ Q)
  | .tup l, ρ, H, Q => l.wp C ρ H fun ds H₁ => Q (.tup ds) H₁
  | .lst l, ρ, H, Q => l.wp C ρ H fun ds H₁ => Q (.ref H₁.length) (H₁ ++ [.list ds])
  | .dctI ks vs, ρ, H, Q => vs.wp C ρ H fun ds H₁ => Q (.ref H₁.length) (H₁ ++ [.dict (ks.zip ds).reverse])
  | .dctS ks vs, ρ, H, Q => vs.wp C ρ H fun ds H₁ => Q (.ref H₁.length) (H₁ ++ [.sdict (ks.zip ds).reverse])
  | .sub v i, ρ, H, Q => v.wp C ρ H fun a H₁ => i.wp C ρ H₁ fun b H₂ => subW a b H₂ Q
  | .slTo v n, ρ, H, Q => v.wp C ρ H fun a H₁ => onRef a (fun i => onList H₁ i fun l => l.length ≤ 10000 ∧ Q (.ref H₁.length) (H₁ ++ [.list (l.take n)])) ∨
      ∃ ns, a = .frz ns ∧ ns.length ≤ 10000 ∧ Q (.ref H₁.length) (H₁ ++ [.list ((ns.take n).map V.int)])
  | .slFrom v n, ρ, H, Q => v.wp C ρ H fun a H₁ => onRef a fun i => onList H₁ i fun l => l.length ≤ 10000 ∧ Q (.ref H₁.length) (H₁ ++ [.list (l.drop n)])
  | .attr v a, ρ, H, Q => v.wp C ρ H fun d H₁ => onInst d fun i => onNs H₁ i fun l => onSome (look a l) fun x => Q x H₁
  | .call f l, ρ, H, Q => l.wp C ρ H fun ds H₁ => C f ds H₁ Q
  | .new l, ρ, H, Q => l.wp C ρ H fun ds H₁ => C cInit (.inst H₁.length :: ds) (H₁ ++ [.ns []]) fun r H₂ => r = .none ∧ Q (.inst H₁.length) H₂
  | .meth o m l, ρ, H, Q => o.wp C ρ H fun d H₁ => onInst d fun i => onNs H₁ i fun a => look m a = none ∧ l.wp C ρ H₁ fun ds H₂ => C m (.inst i :: ds) H₂ Q
  | .bcall f l, ρ, H, Q => l.wp C ρ H fun ds H₁ => bW f ds H₁ Q
  | .bmeth o m l, ρ, H, Q => o.wp C ρ H fun d H₁ => bmHas m d H₁ ∧ l.wp C ρ H₁ fun ds H₂ => bmW m d ds H₂ Q
  | .comp e x it fv, ρ, H, Q => it.wp C ρ H fun d H₁ => (match iters d H₁ with
      | some (vs, st) => vs.length ≤ 100000 ∧ compW (fun v H K => e.wp C ((x, v) :: keepV fv ρ) H K) st vs H₁ [] fun out H₂ => Q (.ref H₂.length) (H₂ ++ [.list out])
      | none => False)
  | .compIf e x it c fv, ρ, H, Q => it.wp C ρ H fun d H₁ => (match iters d H₁ with
      | some (vs, st) => vs.length ≤ 100000 ∧ compIfW (fun v H K => c.wt C ((x, v) :: keepV fv ρ) H K) (fun v H K => e.wp C ((x, v) :: keepV fv ρ) H K) st vs H₁ [] fun out H₂ => Q (.ref H₂.length) (H₂ ++ [.list out])
      | none => False)
  | .comp2 e x y it fv, ρ, H, Q => it.wp C ρ H fun d H₁ => (∃ i, d = .ref i) ∧ (match iters d H₁ with
      | some (vs, st) => vs.length ≤ 100000 ∧ compW (fun v H K => (match v with
          | .tup [p, q] => e.wp C ((y, q) :: (x, p) :: keepV fv ρ) H K
          | _ => False)) st vs H₁ [] fun out H₂ => Q (.ref H₂.length) (H₂ ++ [.list out])
      | none => False)
noncomputable def Es.wp (C : CallT) : Es → Rho → Hp → (List V → Hp → Prop) → Prop
  | .nil, _, H, Q => Q [] H
  | .cons e r, ρ, H, Q => e.wp C ρ H fun d H₁ => r.wp C ρ H₁ fun ds H₂ => Q (d :: ds) H₂
noncomputable def E.wt (C : CallT) : E → Rho → Hp → (Bool → Hp → Prop) → Prop
  | .not e, ρ, H, K => e.wt C ρ H fun b H₁ => K (!b) H₁
  | .tand l, ρ, H, K => l.wand C ρ H K
  | .tor l, ρ, H, K => l.wor C ρ H K
  | .cmp op l r, ρ, H, K => l.wp C ρ H fun a H₁ => r.wp C ρ H₁ fun b H₂ => cmpW op a b H₂ fun c => K c H₂
  | .var x, ρ, H, K => onSome (look x ρ) fun d => truthW d fun b => K b H
  | .bin op l r, ρ, H, K => l.wp C ρ H fun a H₁ => r.wp C ρ H₁ fun b H₂ => binW op a b H₂ fun d H₃ => truthW d fun b => K b H₃
  | .sub v i, ρ, H, K => v.wp C ρ H fun a H₁ => i.wp C ρ H₁ fun b H₂ => subW a b H₂ fun d H₃ => truthW d fun b => K b H₃
  | .call f l, ρ, H, K => l.wp C ρ H fun ds H₁ => C f ds H₁ fun d H₃ => truthW d fun b => K b H₃
  | _, _, _, _ => False
noncomputable def Es.wand (C : CallT) : Es → Rho → Hp → (Bool → Hp → Prop) → Prop
  | .nil, _, H, K => K true H
  | .cons e r, ρ, H, K => e.wt C ρ H fun b H₁ => (b = true → r.wand C ρ H₁ K) ∧ (b = false → K false H₁)
noncomputable def Es.wor (C : CallT) : Es → Rho → Hp → (Bool → Hp → Prop) → Prop
  | .nil, _, H, K => K false H
  | .cons e r, ρ, H, K => e.wt C ρ H fun b H₁ => (b = true → K true H₁) ∧ (b = false → r.wor C ρ H₁ K)
end

inductive Fl where
  | next | brk | ret (d : V)
abbrev PS := Fl → Rho → Hp → Prop
noncomputable def bindT : List Nat → List V → Rho → Option Rho
  | [], [], ρ => some ρ
  | x :: xs, d :: ds, ρ => bindT xs ds ((x, d) :: ρ)
  | _, _, _ => none
noncomputable def forW (bd : V → Rho → Option Rho) (body : Rho → Hp → PS → Prop) (st : Hp → Prop) : List V → Rho → Hp → PS → Prop
  | [], ρ, H, K => st H ∧ K .next ρ H
  | v :: vs, ρ, H, K => st H ∧ (match bd v ρ with
      | some ρ₁ => body ρ₁ H fun f ρ₂ H₂ => (match f with
          | .next => forW bd body st vs ρ₂ H₂ K
          | .brk => K .next ρ₂ H₂
          | .ret d => K (.ret d) ρ₂ H₂)
      | none => False)
noncomputable def whileN (t : Rho → Hp → (Bool → Hp → Prop) → Prop) (body : Rho → Hp → PS → Prop) : Nat → Rho → Hp → PS → Prop
  | 0, _, _, _ => False
  | n + 1, ρ, H, K => t ρ H fun b H₁ => (b = true → body ρ H₁ fun f ρ₂ H₂ => (match f with
      | .next => whileN t body n ρ₂ H₂ K
      | .brk => K .next ρ₂ H₂
      | .ret d => K (.ret d) ρ₂ H₂)) ∧ (b = false → K .next ρ H₁)
mutual
noncomputable def S.wp (C : CallT) : S → Rho → Hp → PS → Prop
  | .asg x e, ρ, H, K => e.wp C ρ H fun d H₁ => K .next ((x, d) :: ρ) H₁
  | .asgC x e, ρ, H, K => e.wp C ρ H fun d H₁ => K .next ((x, d) :: ρ) H₁
  | .asgT xs e, ρ, H, K => e.wp C ρ H fun d H₁ => (match d with
      | .tup ds => (match bindT xs ds ρ with
          | some ρ₁ => K .next ρ₁ H₁
          | none => False)
      | _ => False)
  | .asgA o a e, ρ, H, K => e.wp C ρ H fun d H₁ => o.wp C ρ H₁ fun ov H₂ => onInst ov fun i => onNs H₂ i fun l => l.length ≤ 100 ∧ K .next ρ (H₂.set i (.ns ((a, d) :: l)))
  | .asgI o i e, ρ, H, K => e.wp C ρ H fun d H₁ => o.wp C ρ H₁ fun ov H₂ => i.wp C ρ H₂ fun iv H₃ => onRef ov fun j => onInt iv fun k => onDict H₃ j fun l => l.length ≤ 1000 ∧ K .next ρ (H₃.set j (.dict ((k, d) :: l)))
  | .aug x op e, ρ, H, K => onSome (look x ρ) fun a => e.wp C ρ H fun b H₁ => augW op a b H₁ fun d H₂ => K .next ((x, d) :: ρ) H₂
  | .augA o a op e, ρ, H, K => o.wp C ρ H fun ov H₁ => onInst ov fun i => onNs H₁ i fun l => onSome (look a l) fun x => e.wp C ρ H₁ fun b H₂ => augW op x b H₂ fun d H₃ => onNs H₃ i fun l₃ => l₃.length ≤ 100 ∧ K .next ρ (H₃.set i (.ns ((a, d) :: l₃)))
  | .for_ x it body, ρ, H, K => it.wp C ρ H fun d H₁ => (match iters d H₁ with
      | some (vs, st) => forW (fun v ρ => some ((x, v) :: ρ)) (body.wp C) st vs ρ H₁ K
      | none => False)
  | .forT xs it body, ρ, H, K => it.wp C ρ H fun d H₁ => (∃ i, d = .ref i) ∧ (match iters d H₁ with
      | some (vs, st) => forW (fun v ρ => match v with | .tup ds => bindT xs ds ρ | _ => none) (body.wp C) st vs ρ H₁ K
      | none => False)
  | .while_ t body, ρ, H, K => ∃ n, whileN (t.wt C) (body.wp C) n ρ H K
  | .if_ t b o, ρ, H, K => t.wt C ρ H fun c H₁ => (c = true → b.wp C ρ H₁ K) ∧ (c = false → o.wp C ρ H₁ K)
  | .ret e, ρ, H, K => e.wp C ρ H fun d H₁ => K (.ret d) ρ H₁
  | .expr e, ρ, H, K => e.wp C ρ H fun d H₁ => d = .none ∧ K .next ρ H₁
  | .brk, ρ, H, K => K .brk ρ H
noncomputable def Ss.wp (C : CallT) : Ss → Rho → Hp → PS → Prop
  | .nil, ρ, H, K => K .next ρ H
  | .cons a r, ρ, H, K => a.wp C ρ H fun f ρ₁ H₁ => (match f with
      | .next => r.wp C ρ₁ H₁ K
      | f => K f ρ₁ H₁)
end
/-! the meanings, case by case -/
section
variable {C : CallT} {ρ : Rho} {H : Hp}
theorem wE_cint {i : Int} {Q : PV} : E.wp C (.cint i) ρ H Q = (Q (.int i) H) := rfl
theorem wE_cneg {i : Int} {Q : PV} : E.wp C (.cneg i) ρ H Q = (Q (.int (-i)) H) := rfl
theorem wE_cstr {k : Nat} {Q : PV} : E.wp C (.cstr k) ρ H Q = (Q (.str k) H) := rfl
theorem wE_cbool {b : Bool} {Q : PV} : E.wp C (.cbool b) ρ H Q = (Q (.bool b) H) := rfl
theorem wE_cnone {Q : PV} : E.wp C .cnone ρ H Q = (Q .none H) := rfl
theorem wE_var {x : Nat} {Q : PV} : E.wp C (.var x) ρ H Q = (onSome (look x ρ) fun d => Q d H) := rfl
theorem wE_bin {op : Operator} {l : E} {r : E} {Q : PV} : E.wp C (.bin op l r) ρ H Q = (l.wp C ρ H fun a H₁ => r.wp C ρ H₁ fun b H₂ => binW op a b H₂ Q) := rfl
theorem wE_cmp {op : CmpOp} {l : E} {r : E} {Q : PV} : E.wp C (.cmp op l r) ρ H Q = (l.wp C ρ H fun a H₁ => r.wp C ρ H₁ fun b H₂ => cmpW op a b H₂ fun c => Q (.bool c) H₂) := rfl
theorem wE_or2 {l : E} {r : E} {Q : PV} : E.wp C (.or2 l r) ρ H Q = (l.wp C ρ H fun a H₁ => truthW a fun t => (t = true → Q a H₁) ∧ (t = false → r.wp C ρ H₁ Q)) := rfl
theorem wE_ite {t : E} {b : E} {o : E} {Q : PV} : E.wp C (.ite t b o) ρ H Q = (t.wt C ρ H fun c H₁ => (c = true → b.wp C ρ H₁ Q) ∧ (c = false → o.wp C ρ H₁ Q)) := rfl
theorem wE_tup {l : Es} {Q : PV} : E.wp C (.tup l) ρ H Q = (l.wp C ρ H fun ds H₁ => Q (.tup ds) H₁) := rfl
theorem wE_lst {l : Es} {Q : PV} : E.wp C (.lst l) ρ H Q = (l.wp C ρ H fun ds H₁ => Q (.ref H₁.length) (H₁ ++ [.list ds])) := rfl
theorem wE_dctI {ks : List Int} {vs : Es} {Q : PV} : E.wp C (.dctI ks vs) ρ H Q = (vs.wp C ρ H fun ds H₁ => Q (.ref H₁.length) (H₁ ++ [.dict (ks.zip ds).reverse])) := rfl
theorem wE_dctS {ks : List Nat} {vs : Es} {Q : PV} : E.wp C (.dctS ks vs) ρ H Q = (vs.wp C ρ H fun ds H₁ => Q (.ref H₁.length) (H₁ ++ [.sdict (ks.zip ds).reverse])) := rfl
theorem wE_sub {v : E} {i : E} {Q : PV} : E.wp C (.sub v i) ρ H Q = (v.wp C ρ H fun a H₁ => i.wp C ρ H₁ fun b H₂ => subW a b H₂ Q) := rfl
theorem wE_slTo {v : E} {n : Nat} {Q : PV} : E.wp C (.slTo v n) ρ H Q = (v.wp C ρ H fun a H₁ => onRef a (fun i => onList H₁ i fun l => l.length ≤ 10000 ∧ Q (.ref H₁.length) (H₁ ++ [.list (l.take n)])) ∨
      ∃ ns, a = .frz ns ∧ ns.length ≤ 10000 ∧ Q (.ref H₁.length) (H₁ ++ [.list ((ns.take n).map V.int)])) := rfl
theorem wE_slFrom {v : E} {n : Nat} {Q : PV} : E.wp C (.slFrom v n) ρ H Q = (v.wp C ρ H fun a H₁ => onRef a fun i => onList H₁ i fun l => l.length ≤ 10000 ∧ Q (.ref H₁.length) (H₁ ++ [.list (l.drop n)])) := rfl
theorem wE_attr {v : E} {a : Nat} {Q : PV} : E.wp C (.attr v a) ρ H Q = (v.wp C ρ H fun d H₁ => onInst d fun i => onNs H₁ i fun l => onSome (look a l) fun x => Q x H₁) := rfl
theorem wE_call {f : Nat} {l : Es} {Q : PV} : E.wp C (.call f l) ρ H Q = (l.wp C ρ H fun ds H₁ => C f ds H₁ Q) := rfl
theorem wE_new {l : Es} {Q : PV} : E.wp C (.new l) ρ H Q = (l.wp C ρ H fun ds H₁ => C cInit (.inst H₁.length :: ds) (H₁ ++ [.ns []]) fun r H₂ => r = .none ∧ Q (.inst H₁.length) H₂) := rfl
theorem wE_meth {o : E} {m : Nat} {l : Es} {Q : PV} : E.wp C (.meth o m l) ρ H Q = (o.wp C ρ H fun d H₁ => onInst d fun i => onNs H₁ i fun a => look m a = none ∧ l.wp C ρ H₁ fun ds H₂ => C m (.inst i :: ds) H₂ Q) := rfl
theorem wE_bcall {f : Bf} {l : Es} {Q : PV} : E.wp C (.bcall f l) ρ H Q = (l.wp C ρ H fun ds H₁ => bW f ds H₁ Q) := rfl
theorem wE_bmeth {o : E} {m : Bm} {l : Es} {Q : PV} : E.wp C (.bmeth o m l) ρ H Q = (o.wp C ρ H fun d H₁ => bmHas m d H₁ ∧ l.wp C ρ H₁ fun ds H₂ => bmW m d ds H₂ Q) := rfl
theorem wE_comp {e : E} {x : Nat} {it : E} {fv : List Nat} {Q : PV} : E.wp C (.comp e x it fv) ρ H Q = (it.wp C ρ H fun d H₁ => (match iters d H₁ with
      | some (vs, st) => vs.length ≤ 100000 ∧ compW (fun v H K => e.wp C ((x, v) :: keepV fv ρ) H K) st vs H₁ [] fun out H₂ => Q (.ref H₂.length) (H₂ ++ [.list out])
      | none => False)) := rfl
theorem wE_compIf {e : E} {x : Nat} {it : E} {c : E} {fv : List Nat} {Q : PV} : E.wp C (.compIf e x it c fv) ρ H Q = (it.wp C ρ H fun d H₁ => (match iters d H₁ with
      | some (vs, st) => vs.length ≤ 100000 ∧ compIfW (fun v H K => c.wt C ((x, v) :: keepV fv ρ) H K) (fun v H K => e.wp C ((x, v) :: keepV fv ρ) H K) st vs H₁ [] fun out H₂ => Q (.ref H₂.length) (H₂ ++ [.list out])
      | none => False)) := rfl
theorem wE_comp2 {e : E} {x : Nat} {y : Nat} {it : E} {fv : List Nat} {Q : PV} : E.wp C (.comp2 e x y it fv) ρ H Q = (it.wp C ρ H fun d H₁ => (∃ i, d = .ref i) ∧ (match iters d H₁ with
      | some (vs, st) => vs.length ≤ 100000 ∧ compW (fun v H K => (match v with
          | .tup [p, q] => e.wp C ((y, q) :: (x, p) :: keepV fv ρ) H K
          | _ => False)) st vs H₁ [] fun out H₂ => Q (.ref H₂.length) (H₂ ++ [.list out])
      | none => False)) := rfl
theorem wL_nil {Q : List V → Hp → Prop} : Es.wp C .nil ρ H Q = (Q [] H) := rfl
theorem wL_cons {e : E} {r : Es} {Q : List V → Hp → Prop} : Es.wp C (.cons e r) ρ H Q = (e.wp C ρ H fun d H₁ => r.wp C ρ H₁ fun ds H₂ => Q (d :: ds) H₂) := rfl
theorem wT_not {e : E} {K : Bool → Hp → Prop} : E.wt C (.not e) ρ H K = (e.wt C ρ H fun b H₁ => K (!b) H₁) := rfl
theorem wT_tand {l : Es} {K : Bool → Hp → Prop} : E.wt C (.tand l) ρ H K = (l.wand C ρ H K) := rfl
theorem wT_tor {l : Es} {K : Bool → Hp → Prop} : E.wt C (.tor l) ρ H K = (l.wor C ρ H K) := rfl
theorem wT_cmp {op : CmpOp} {l : E} {r : E} {K : Bool → Hp → Prop} : E.wt C (.cmp op l r) ρ H K = (l.wp C ρ H fun a H₁ => r.wp C ρ H₁ fun b H₂ => cmpW op a b H₂ fun c => K c H₂) := rfl
theorem wT_var {x : Nat} {K : Bool → Hp → Prop} : E.wt C (.var x) ρ H K = (onSome (look x ρ) fun d => truthW d fun b => K b H) := rfl
theorem wT_bin {op : Operator} {l : E} {r : E} {K : Bool → Hp → Prop} : E.wt C (.bin op l r) ρ H K = (l.wp C ρ H fun a H₁ => r.wp C ρ H₁ fun b H₂ => binW op a b H₂ fun d H₃ => truthW d fun b => K b H₃) := rfl
theorem wT_sub {v : E} {i : E} {K : Bool → Hp → Prop} : E.wt C (.sub v i) ρ H K = (v.wp C ρ H fun a H₁ => i.wp C ρ H₁ fun b H₂ => subW a b H₂ fun d H₃ => truthW d fun b => K b H₃) := rfl
theorem wT_call {f : Nat} {l : Es} {K : Bool → Hp → Prop} : E.wt C (.call f l) ρ H K = (l.wp C ρ H fun ds H₁ => C f ds H₁ fun d H₃ => truthW d fun b => K b H₃) := rfl
theorem wA_nil {K : Bool → Hp → Prop} : Es.wand C .nil ρ H K = (K true H) := rfl
theorem wA_cons {e : E} {r : Es} {K : Bool → Hp → Prop} : Es.wand C (.cons e r) ρ H K = (e.wt C ρ H fun b H₁ => (b = true → r.wand C ρ H₁ K) ∧ (b = false → K false H₁)) := rfl
theorem wO_nil {K : Bool → Hp → Prop} : Es.wor C .nil ρ H K = (K false H) := rfl
theorem wO_cons {e : E} {r : Es} {K : Bool → Hp → Prop} : Es.wor C (.cons e r) ρ H K = (e.wt C ρ H fun b H₁ => (b = true → K true H₁) ∧ (b = false → r.wor C ρ H₁ K)) := rfl
theorem wS_asg {x : Nat} {e : E} {K : PS} : S.wp C (.asg x e) ρ H K = (e.wp C ρ H fun d H₁ => K .next ((x, d) :: ρ) H₁) := rfl
theorem wS_asgC {x : Nat} {e : E} {K : PS} : S.wp C (.asgC x e) ρ H K = (e.wp C ρ H fun d H₁ => K .next ((x, d) :: ρ) H₁) := rfl
theorem wS_asgT {xs : List Nat} {e : E} {K : PS} : S.wp C (.asgT xs e) ρ H K = (e.wp C ρ H fun d H₁ => (match d with
      | .tup ds => (match bindT xs ds ρ with
          | some ρ₁ => K .next ρ₁ H₁
          | none => False)
      | _ => False)) := rfl
theorem wS_asgA {o : E} {a : Nat} {e : E} {K : PS} : S.wp C (.asgA o a e) ρ H K = (e.wp C ρ H fun d H₁ => o.wp C ρ H₁ fun ov H₂ => onInst ov fun i => onNs H₂ i fun l => l.length ≤ 100 ∧ K .next ρ (H₂.set i (.ns ((a, d) :: l)))) := rfl
theorem wS_asgI {o : E} {i : E} {e : E} {K : PS} : S.wp C (.asgI o i e) ρ H K = (e.wp C ρ H fun d H₁ => o.wp C ρ H₁ fun ov H₂ => i.wp C ρ H₂ fun iv H₃ => onRef ov fun j => onInt iv fun k => onDict H₃ j fun l => l.length ≤ 1000 ∧ K .next ρ (H₃.set j (.dict ((k, d) :: l)))) := rfl
theorem wS_aug {x : Nat} {op : Operator} {e : E} {K : PS} : S.wp C (.aug x op e) ρ H K = (onSome (look x ρ) fun a => e.wp C ρ H fun b H₁ => augW op a b H₁ fun d H₂ => K .next ((x, d) :: ρ) H₂) := rfl
theorem wS_augA {o : E} {a : Nat} {op : Operator} {e : E} {K : PS} : S.wp C (.augA o a op e) ρ H K = (o.wp C ρ H fun ov H₁ => onInst ov fun i => onNs H₁ i fun l => onSome (look a l) fun x => e.wp C ρ H₁ fun b H₂ => augW op x b H₂ fun d H₃ => onNs H₃ i fun l₃ => l₃.length ≤ 100 ∧ K .next ρ (H₃.set i (.ns ((a, d) :: l₃)))) := rfl
theorem wS_for {x : Nat} {it : E} {body : Ss} {K : PS} : S.wp C (.for_ x it body) ρ H K = (it.wp C ρ H fun d H₁ => (match iters d H₁ with
      | some (vs, st) => forW (fun v ρ => some ((x, v) :: ρ)) (body.wp C) st vs ρ H₁ K
      | none => False)) := rfl
theorem wS_forT {xs : List Nat} {it : E} {body : Ss} {K : PS} : S.wp C (.forT xs it body) ρ H K = (it.wp C ρ H fun d H₁ => (∃ i, d = .ref i) ∧ (match iters d H₁ with
      | some (vs, st) => forW (fun v ρ => match v with | .tup ds => bindT xs ds ρ | _ => none) (body.wp C) st vs ρ H₁ K
      | none => False)) := rfl
theorem wS_while {t : E} {body : Ss} {K : PS} : S.wp C (.while_ t body) ρ H K = (∃ n, whileN (t.wt C) (body.wp C) n ρ H K) := rfl
theorem wS_if {t : E} {b : Ss} {o : Ss} {K : PS} : S.wp C (.if_ t b o) ρ H K = (t.wt C ρ H fun c H₁ => (c = true → b.wp C ρ H₁ K) ∧ (c = false → o.wp C ρ H₁ K)) := rfl
theorem wS_ret {e : E} {K : PS} : S.wp C (.ret e) ρ H K = (e.wp C ρ H fun d H₁ => K (.ret d) ρ H₁) := rfl
theorem wS_expr {e : E} {K : PS} : S.wp C (.expr e) ρ H K = (e.wp C ρ H fun d H₁ => d = .none ∧ K .next ρ H₁) := rfl
theorem wS_brk {K : PS} : S.wp C .brk ρ H K = (K .brk ρ H) := rfl
theorem wZ_nil {K : PS} : Ss.wp C .nil ρ H K = (K .next ρ H) := rfl
theorem wZ_cons {a : S} {r : Ss} {K : PS} : Ss.wp C (.cons a r) ρ H K = (a.wp C ρ H fun f ρ₁ H₁ => (match f with
      | .next => r.wp C ρ₁ H₁ K
      | f => K f ρ₁ H₁)) := rfl
end
end Mine

namespace Mine
open PySem PySem.W PyProof.Rows

section
variable {G : Gl} {A : Around} {α : List Addr} {s : Shared} {H : Hp} {k : Nat}

/-- the end of an operation that makes a value and changes nothing -/
theorem Tr.tok {t : Sem Value} {d : V} {Q : PV} (hq : Q d H) (l : LR G α H s.heap)
    (h : ∀ R E, (∀ v tk, VR G α s.heap v d → R v { s with toks := tk }) → wpAny (Mo G) A t R E s) : Tr G (VR G) A α t Q s :=
  fun R E hR => h R E fun v tk r => hR v d α H s.heap tk hq .refl l r
/-- .. one new object of the ledger -/
theorem Tr.made {t : Sem Value} {o : O} {Q : PV} (hq : Q (.ref H.length) (H ++ [o])) (l : LR G α H s.heap)
    (h : ∀ (R : Value → Shared → Prop) E, (∀ a h' tk, (∀ b o, s.heap.get? b = some o → h'.get? b = some o) → (s.heap.objs.size ≤ a ∨ (s.heap.get? a = none ∧ G.h0.get? a = none ∧ mainGlobals < a)) → OR G (α ++ [a]) h' a o → R (.ref a) { s with heap := h', toks := tk }) → wpAny (Mo G) A t R E s) : Tr G (VR G) A α t Q s :=
  fun R E hR => h R E fun a h' tk hk ha ho => hR _ _ _ _ _ tk hq (.newL hk (ha.elim (fun q => by
    cases e : s.heap.get? a with
    | none => rfl
    | some o => exact absurd (Heap.lt_size e) (Nat.not_lt.mpr q)) (·.1))) (l.new hk ha ho) (.ref (by rw [← l.len, List.getElem?_append_right (Nat.le_refl _), Nat.sub_self]; rfl))
/-- .. an object of the ledger's changed -/
theorem Tr.chg {t : Sem Value} {i : Nat} {a : Addr} {o : O} {d : V} {Q : PV} (hq : Q d (H.set i o)) (l : LR G α H s.heap) (e : α[i]? = some a)
    (h : ∀ R E, (∀ v h' tk, Heap.SameBut a s.heap h' → OR G α h' a o → VR G α h' v d → R v { s with heap := h', toks := tk }) → wpAny (Mo G) A t R E s) : Tr G (VR G) A α t Q s :=
  fun R E hR => h R E fun v h' tk hs ho r => by
    obtain ⟨ob, eo, _⟩ := ho.occ
    exact hR v d α (H.set i o) h' tk hq (l.ext_set e hs eo) (l.set e hs ho) r
theorem bits_of_small {x : Int} (h : x.natAbs < 2 ^ 63) : Builtin.Int.intBits x ≤ 64 := by
  unfold Builtin.Int.intBits
  split
  · omega
  · rename_i hx
    have hne : x.natAbs ≠ 0 := fun z => by simp_all
    have := (Nat.log2_lt hne).mpr (show x.natAbs < 2 ^ 63 from h)
    omega
theorem list_new {vs : List Value} {ds : List V} {h' : Heap} {a : Addr} {n : Nat} (r : VRs G α s.heap vs ds) (hk : ∀ b o, s.heap.get? b = some o → h'.get? b = some o)
    (e : h'.get? a = some { cls := .type "list", dict := none, data := .seq vs.toArray n, slots := #[] }) : OR G (α ++ [a]) h' a (.list ds) :=
  ⟨vs, n, e, r.mono (fun i b q => by rw [List.getElem?_append_left (List.getElem?_eq_some_iff.mp q).1]; exact q) fun b o q _ => hk b o q⟩

/-! what the tests say of the real values -/
section
variable {h : Heap} {v : Value} {a : V}
theorem onSome_of {o : Option V} {K : V → Prop} (k : onSome o K) : ∃ d, o = some d ∧ K d := by
  cases o
  · exact False.elim k
  · exact ⟨_, rfl, k⟩
theorem onInt_of {K : Int → Prop} (r : VR G α h v a) (k : onInt a K) : ∃ x t, v = .int x t ∧ a = .int x ∧ K x := by
  cases r <;> first | exact ⟨_, _, rfl, rfl, k⟩ | exact False.elim k
theorem onStr_of {K : Nat → Prop} (r : VR G α h v a) (k : onStr a K) : ∃ x t, v = .str (nm x) t ∧ a = .str x ∧ K x := by
  cases r <;> first | exact ⟨_, _, rfl, rfl, k⟩ | exact False.elim k
theorem onRef_of {K : Nat → Prop} (r : VR G α h v a) (k : onRef a K) : ∃ i p, v = .ref p ∧ a = .ref i ∧ α[i]? = some p ∧ K i := by
  cases r <;> first | exact ⟨_, _, rfl, rfl, ‹_›, k⟩ | exact False.elim k
theorem onTup_of {K : List V → Prop} (r : VR G α h v a) (k : onTup a K) : ∃ ds p vs n, v = .ref p ∧ a = .tup ds ∧ h.get? p = some { cls := .type "tuple", dict := none, data := .seq (List.toArray vs) n, slots := #[] } ∧ VRs G α h vs ds ∧ K ds := by
  cases r <;> first | exact ⟨_, _, _, _, rfl, rfl, ‹_›, ‹_›, k⟩ | exact False.elim k
theorem onInst_of {K : Nat → Prop} (r : VR G α h v a) (k : onInst a K) : ∃ d p dx, v = .ref p ∧ a = .inst d ∧ h.get? p = some (instObj G.C dx) ∧ α[d]? = some dx ∧ K d := by
  cases r <;> first | exact ⟨_, _, _, rfl, rfl, ‹_›, ‹_›, k⟩ | exact False.elim k
theorem onRef_is {a : V} {K : Nat → Prop} (k : onRef a K) : ∃ i, a = .ref i ∧ K i := by
  cases a <;> first | exact ⟨_, rfl, k⟩ | exact False.elim k
theorem onInst_is {a : V} {K : Nat → Prop} (k : onInst a K) : ∃ i, a = .inst i ∧ K i := by
  cases a <;> first | exact ⟨_, rfl, k⟩ | exact False.elim k
theorem onList_is {i : Nat} {K : List V → Prop} (k : onList H i K) : ∃ l, H[i]? = some (.list l) ∧ K l := by
  unfold onList at k
  split at k
  · exact ⟨_, ‹_›, k⟩
  · exact False.elim k
theorem onDict_is {i : Nat} {K : List (Int × V) → Prop} (k : onDict H i K) : ∃ l, H[i]? = some (.dict l) ∧ K l := by
  unfold onDict at k
  split at k
  · exact ⟨_, ‹_›, k⟩
  · exact False.elim k
theorem onSdict_is {i : Nat} {K : List (Nat × V) → Prop} (k : onSdict H i K) : ∃ l, H[i]? = some (.sdict l) ∧ K l := by
  unfold onSdict at k
  split at k
  · exact ⟨_, ‹_›, k⟩
  · exact False.elim k
theorem onNs_is {i : Nat} {K : List (Nat × V) → Prop} (k : onNs H i K) : ∃ l, H[i]? = some (.ns l) ∧ K l := by
  unfold onNs at k
  split at k
  · exact ⟨_, ‹_›, k⟩
  · exact False.elim k
theorem onList_of {i : Nat} {p : Addr} {K : List V → Prop} (l : LR G α H h) (e : α[i]? = some p) (k : onList H i K) : ∃ ds vs n, h.get? p = some { cls := .type "list", dict := none, data := .seq (List.toArray vs) n, slots := #[] } ∧ VRs G α h vs ds ∧ K ds := by
  obtain ⟨ds, hd, k⟩ := onList_is k
  obtain ⟨vs, n, eo, r⟩ := l.obj _ _ _ e hd
  exact ⟨ds, vs, n, eo, r, k⟩
theorem onDict_of {i : Nat} {p : Addr} {K : List (Int × V) → Prop} (l : LR G α H h) (e : α[i]? = some p) (k : onDict H i K) : ∃ D kvs, h.DictOf (intKind G.prog G.w) p kvs ∧ kvs.length ≤ D.length ∧ (∀ k, match lookI k D with
      | some d => ∃ v, valueAt kvs k = some v ∧ VR G α h v d
      | none => valueAt kvs k = none) ∧ K D := by
  obtain ⟨D, hd, k⟩ := onDict_is k
  obtain ⟨kvs, hm, hz, hf⟩ := l.obj _ _ _ e hd
  exact ⟨D, kvs, hm, hz, hf, k⟩
theorem on0_of {vs : List Value} {ds : List V} {P : Prop} (r : VRs G α h vs ds) (k : on0 ds P) : vs = [] ∧ P := by
  cases r
  · exact ⟨rfl, k⟩
  · exact False.elim k
theorem on1_of {vs : List Value} {ds : List V} {K : V → Prop} (r : VRs G α h vs ds) (k : on1 ds K) : ∃ v d, vs = [v] ∧ VR G α h v d ∧ K d := by
  cases r with
  | nil => exact False.elim k
  | cons r rs =>
    cases rs with
    | nil => exact ⟨_, _, rfl, r, k⟩
    | cons _ _ => exact False.elim k
theorem on2_of {vs : List Value} {ds : List V} {K : V → V → Prop} (r : VRs G α h vs ds) (k : on2 ds K) : ∃ v d w e, vs = [v, w] ∧ VR G α h v d ∧ VR G α h w e ∧ K d e := by
  cases r with
  | nil => exact False.elim k
  | cons r rs =>
    cases rs with
    | nil => exact False.elim k
    | cons r' rs =>
      cases rs with
      | nil => exact ⟨_, _, _, _, rfl, r, r', k⟩
      | cons _ _ => exact False.elim k
theorem ints_of {va vb : Value} {a b : V} {K : Int → Int → Prop} (ra : VR G α h va a) (rb : VR G α h vb b) (k : onInt a fun x => onInt b fun y => K x y) : ∃ x t y u, va = .int x t ∧ vb = .int y u ∧ K x y := by
  obtain ⟨x, t, h1, _, k⟩ := onInt_of ra k
  obtain ⟨y, u, h2, _, k⟩ := onInt_of rb k
  exact ⟨x, t, y, u, h1, h2, k⟩
theorem look_some {kvs : List (Int × Value)} {D : List (Int × V)} {x : Int} (hf : ∀ k, match lookI k D with
      | some d => ∃ v, valueAt kvs k = some v ∧ VR G α h v d
      | none => valueAt kvs k = none) : (valueAt kvs x).isSome = (lookI x D).isSome := by
  have := hf x
  cases e : lookI x D with
  | none => rw [e] at this; rw [this]; rfl
  | some d => rw [e] at this; obtain ⟨v, h1, _⟩ := this; rw [h1]; rfl
end

theorem bin_ok {op : Operator} {a b : V} {va vb : Value} {Q : PV} (l : LR G α H s.heap) (ra : VR G α s.heap va a) (rb : VR G α s.heap vb b) (h : binW op a b H Q) :
    Tr G (VR G) A α (binaryOp op va vb) Q s := by
  cases op
  case Add =>
    rcases h with h | h
    · obtain ⟨x, t, y, u, rfl, rfl, h⟩ := ints_of ra rb h
      exact Tr.tok h l fun R E hR => P.add_int (hR _ _ (.int _ _))
    · obtain ⟨i, p, rfl, _, ea, h⟩ := onRef_of ra h
      obtain ⟨j, q, rfl, _, eb, h⟩ := onRef_of rb h
      obtain ⟨li, vi, ni, e1, r1, h⟩ := onList_of l ea h
      obtain ⟨lj, vj, nj, e2, r2, h⟩ := onList_of l eb h
      refine Tr.made h.2 l fun R E hR => ?_
      refine P.add_list e1 e2 (hR _ _ _ (fun b o q => Heap.get?_push_of_some _ q) (.inl (Nat.le_refl _)) (list_new (r1.append r2) (fun b o q => Heap.get?_push_of_some _ q) (by rw [← List.append_toArray]; exact Heap.get?_push_size _ rfl))) ?_
      have h1 := r1.length
      have h2 := r2.length
      rw [sizeLine_eq, List.size_toArray, List.size_toArray, h1, h2]
      exact Nat.le_trans h.1 (by decide)
  case Sub =>
    obtain ⟨x, t, y, u, rfl, rfl, h⟩ := ints_of ra rb h
    exact Tr.tok h l fun R E hR => P.sub_int (hR _ _ (.int _ _))
  case Mult =>
    obtain ⟨x, t, y, u, rfl, rfl, h⟩ := ints_of ra rb h
    exact Tr.tok h.2 l fun R E hR => P.mul_int (hR _ _ (.int _ _)) (h.1.elim (fun q => .of_left (bits_of_small q)) fun q => .of_right (bits_of_small q))
  case FloorDiv =>
    obtain ⟨x, t, y, u, rfl, rfl, h⟩ := ints_of ra rb h
    refine Tr.tok h.2.2 l fun R E hR => floordiv_int (by omega) ?_ (.inl (PyProof.noPylong_of_log2 ?_))
    rotate_left
    · have hne : y.natAbs ≠ 0 := by omega
      have : y.natAbs.log2 < 62 := (Nat.log2_lt hne).mpr (by omega)
      omega
    rw [Int.fdiv_eq_ediv_of_nonneg _ (Int.le_of_lt h.1)]; exact hR _ _ (.int _ _)
  case Mod =>
    obtain ⟨x, t, y, u, rfl, rfl, h⟩ := ints_of ra rb h
    refine Tr.tok h.2 l fun R E hR => mod_int' (by omega) ?_
    rw [Int.fmod_eq_emod_of_nonneg _ (Int.le_of_lt h.1)]; exact hR _ _ (.int _ _)
  case Pow =>
    obtain ⟨x, t, y, u, rfl, rfl, rfl, h1, h2, h⟩ := ints_of ra rb h
    refine Tr.tok h l fun R E hR => pow_int h1 ?_ (hR _ _ (.int _ _))
    rw [show Builtin.Int.intBits 2 = 2 from by decide]; omega
  case LShift =>
    obtain ⟨x, t, y, u, rfl, rfl, h1, h2, h3, h⟩ := ints_of ra rb h
    exact Tr.tok h l fun R E hR => lshift_int_small h1 (by omega) h3 (hR _ _ (.int _ _))
  case RShift =>
    obtain ⟨x, t, y, u, rfl, rfl, h1, h⟩ := ints_of ra rb h
    refine Tr.tok h l fun R E hR => rshift_int h1 ?_
    rw [Int.fdiv_eq_ediv_of_nonneg _ (Int.le_of_lt (Int.pow_pos (by decide)))]; exact hR _ _ (.int _ _)
  case BitAnd =>
    obtain ⟨x, t, y, u, rfl, rfl, h⟩ := ints_of ra rb h
    exact Tr.tok h l fun R E hR => and_int (hR _ _ (.int _ _))
  case BitOr =>
    obtain ⟨x, t, y, u, rfl, rfl, h⟩ := ints_of ra rb h
    exact Tr.tok h l fun R E hR => or_int (hR _ _ (.int _ _))
  case BitXor =>
    obtain ⟨x, t, y, u, rfl, rfl, h⟩ := ints_of ra rb h
    exact Tr.tok h l fun R E hR => xor_int (hR _ _ (.int _ _))
  all_goals exact False.elim h
theorem aug_ok {op : Operator} {a b : V} {va vb : Value} {Q : PV} (l : LR G α H s.heap) (ra : VR G α s.heap va a) (rb : VR G α s.heap vb b) (h : augW op a b H Q) :
    Tr G (VR G) A α (inplaceOp op va vb) Q s := by
  cases op
  case Add =>
    obtain ⟨x, t, y, u, rfl, rfl, h⟩ := ints_of ra rb h
    exact Tr.tok h l fun R E hR => P.iadd_int (hR _ _ (.int _ _))
  case BitOr =>
    obtain ⟨x, t, y, u, rfl, rfl, h⟩ := ints_of ra rb h
    exact Tr.tok h l fun R E hR => ior_int (hR _ _ (.int _ _))
  all_goals exact False.elim h
end
end Mine

namespace Mine
open PySem PySem.W PyProof.Rows PySem.SeqAt

section
variable {G : Gl} {A : Around} {α : List Addr} {s : Shared} {H : Hp} {k : Nat}

theorem int_beq (x y : Int) : (x == y) = decide (x = y) := rfl
mutual
theorem deep_reads (l : LR G α H s.heap) : ∀ {d : V} {t : PyData}, Deep H d t → ∀ {v : Value}, VR G α s.heap v d → ∃ as, Reads s.heap v t as
  | _, _, .none, _, r => by cases r; exact ⟨_, .none⟩
  | _, _, .bool b, _, r => by cases r; exact ⟨_, .bool b⟩
  | _, _, .int i, _, r => by cases r; exact ⟨_, .int _ _⟩
  | _, _, .str k, _, r => by cases r; exact ⟨_, .str _ _⟩
  | _, _, .tupN, _, r => by
    cases r with | tup e r =>
    cases r
    exact ⟨_, .tuple e rfl rfl .nil⟩
  | _, _, .tupC x y, _, r => by
    cases r with | tup e r =>
    cases r with | cons r1 r2 =>
    obtain ⟨as, h1⟩ := deep_reads l x r1
    obtain ⟨bs, h2⟩ := deep_readsAll l y r2
    exact ⟨_, .tuple e rfl rfl (by simpa using ReadsAll.cons h1 h2)⟩
  | _, _, .list e x, _, r => by
    cases r with | ref ea =>
    obtain ⟨vs, n, eo, rs⟩ := l.obj _ _ _ ea e
    obtain ⟨as, h⟩ := deep_readsAll l x rs
    exact ⟨_, .list eo rfl rfl (by simpa using h)⟩
theorem deep_readsAll (l : LR G α H s.heap) : ∀ {ds : List V} {ts : List PyData}, Deep H (.tup ds) (.tuple ts) → ∀ {vs : List Value}, VRs G α s.heap vs ds → ∃ as, ReadsAll s.heap vs ts as
  | _, _, .tupN, _, r => by cases r; exact ⟨_, .nil⟩
  | _, _, .tupC x y, _, r => by
    cases r with | cons r1 r2 =>
    obtain ⟨as, h1⟩ := deep_reads l x r1
    obtain ⟨bs, h2⟩ := deep_readsAll l y r2
    exact ⟨_, .cons h1 h2⟩
end

theorem any_isInt {x : Int} : ∀ {vs : List Value} {ds : List V}, VRs G α s.heap vs ds → allInts ds → vs.any (Value.isInt x) = ds.any (isInt x)
  | _, _, .nil, _ => rfl
  | _, _, .cons r rs, h => by
    obtain ⟨i, rfl⟩ := h _ List.mem_cons_self
    cases r
    rw [List.any_cons, List.any_cons, any_isInt rs fun d hd => h d (List.mem_cons_of_mem _ hd)]
    rfl
theorem all_isInt : ∀ {vs : List Value} {ds : List V}, VRs G α s.heap vs ds → allInts ds → ∀ y ∈ vs, ∃ i t, y = .int i t
  | _, _, .nil, _, _, hy => nomatch hy
  | _, _, .cons r rs, h, y, hy => by
    rcases List.mem_cons.mp hy with rfl | hy
    · obtain ⟨i, rfl⟩ := h _ List.mem_cons_self
      cases r; exact ⟨_, _, rfl⟩
    · exact all_isInt rs (fun d hd => h d (List.mem_cons_of_mem _ hd)) y hy
theorem eqAt_ints {x : Int} {t : Tok} {A' : Around} {vs : List Value} {ds : List V} (r : VRs G α s.heap vs ds) (h : allInts ds) : ∀ y, y ∈ vs.toArray → EqAt A' s y (.int x t) (Value.isInt x y) := fun y hy => by
  obtain ⟨i, u, rfl⟩ := all_isInt r h y (by simpa using hy)
  have := EqAt.int_int (A := A') (s := s) i u x t
  exact this
theorem notSys {a : Addr} (h : mainGlobals < a) : (a == sysModules) = false := by
  have h3 : a ≠ 1 := by intro e; subst e; exact absurd h (by decide)
  exact beq_eq_false_iff_ne.mpr h3

theorem nm_beq (i j : Nat) : (nm i == nm j) = decide (i = j) := by
  by_cases q : i = j
  · subst q; rw [decide_eq_true rfl]; exact beq_self_eq_true _
  · rw [decide_eq_false q]; exact beq_eq_false_iff_ne.mpr fun z => q (nm_inj z)
theorem isInt_self (x : Int) (t : Tok) : (intKind G.prog G.w).is x (.int x t) = true := by simp [intKind, Value.isInt]
/-- a comparison: its value, nothing changed -/
theorem cmp_ok {op : CmpOp} {a b : V} {va vb : Value} {K : Bool → Prop} {Q : PV} (hK : ∀ c, K c → Q (.bool c) H) (hA : AOk k A) (l : LR G α H s.heap) (ra : VR G α s.heap va a) (rb : VR G α s.heap vb b) (h : cmpW op a b H K) :
    Tr G (VR G) A α (compareOp op va vb) Q s := by
  have room : ∀ {t t' : PyData}, t.depth ≤ 100 → A.units + min t.depth t'.depth < cLine := fun h => by have := hA.units; omega
  have deepEq : ∀ {P : Prop}, (P → Q (.bool true) H) → deepW a b H P → Tr G (VR G) A α (compareOp .Eq va vb) Q s := fun hP h => by
    obtain ⟨t, d1, d2, hc, hd, h⟩ := h
    obtain ⟨as, r1⟩ := deep_reads l d1 ra
    obtain ⟨bs, r2⟩ := deep_reads l d2 rb
    refine Tr.tok (hP h) l fun R E hR => compareEq_reads r1 r2 hc hc (room hd) (hR _ _ ?_)
    rw [eqv_refl t hc]; exact .bool _
  have sys : ∀ {i : Nat} {p : Addr}, α[i]? = some p → (p == sysModules) = false := fun e => notSys (l.lo _ (List.mem_of_getElem? e)).2
  cases op
  case Eq =>
    rcases h with h | h | ⟨i, j, rfl, rfl, h⟩ | ⟨_, _, _, _, h⟩
    · obtain ⟨x, t, y, u, rfl, rfl, h⟩ := ints_of ra rb h
      exact Tr.tok (hK _ h) l fun R E hR => P.eq_int (hR _ _ (by rw [int_beq]; exact .bool _))
    · obtain ⟨i, t, rfl, _, h⟩ := onStr_of ra h
      obtain ⟨j, u, rfl, _, h⟩ := onStr_of rb h
      refine Tr.tok (hK _ h) l fun R E hR => eq_str (hR _ _ ?_)
      rw [nm_beq]; exact .bool _
    · rcases h with ⟨he, h⟩ | h
      · cases ra with | ref e1 =>
        cases rb with | ref e2 =>
        obtain ⟨ds, vs, n, eo, r, hi, h⟩ := onList_of l e1 h
        obtain ⟨ws, m, eo2, r2⟩ := l.obj _ _ _ e2 he
        cases r2
        have hu : A.units < cLine := by have := hA.units; omega
        cases r with
        | nil =>
          refine Tr.tok (hK _ h) l fun R E hR => eq_listAt (e := fun _ => true) ⟨_, eo, rfl, _, rfl⟩ ⟨_, eo2, rfl, _, rfl⟩ rfl hu (fun j h1 => absurd h1 (Nat.not_lt_zero _)) (hR _ _ ?_)
          exact .bool true
        | cons x y =>
          refine Tr.tok (hK _ h) l fun R E hR => eq_list_lengthsAt ⟨_, eo, rfl, _, rfl⟩ ⟨_, eo2, rfl, _, rfl⟩ (by simp) hu (hR _ _ ?_)
          exact .bool false
      · exact deepEq (hK _) h
    · exact deepEq (hK _) h
  case NotEq =>
    rcases h with h | h | ⟨_, _, _, _, h⟩
    · obtain ⟨x, t, y, u, rfl, rfl, h⟩ := ints_of ra rb h
      exact Tr.tok (hK _ h) l fun R E hR => P.ne_int (hR _ _ (by rw [bne, int_beq]; exact .bool _))
    · obtain ⟨i, t, rfl, _, h⟩ := onStr_of ra h
      obtain ⟨j, u, rfl, _, h⟩ := onStr_of rb h
      refine Tr.tok (hK _ h) l fun R E hR => ne_str (hR _ _ ?_)
      rw [bne, nm_beq]; exact .bool _
    · obtain ⟨t, d1, d2, hc, hd, h⟩ := h
      obtain ⟨as, r1⟩ := deep_reads l d1 ra
      obtain ⟨bs, r2⟩ := deep_reads l d2 rb
      refine Tr.tok (hK _ h) l fun R E hR => compareNe_reads r1 r2 hc hc (room hd) (hR _ _ ?_)
      rw [eqv_refl t hc]; exact .bool _
  case Lt =>
    obtain ⟨x, t, y, u, rfl, rfl, h⟩ := ints_of ra rb h
    exact Tr.tok (hK _ h) l fun R E hR => P.lt_int (hR _ _ (.bool _))
  case Gt =>
    obtain ⟨x, t, y, u, rfl, rfl, h⟩ := ints_of ra rb h
    exact Tr.tok (hK _ h) l fun R E hR => P.gt_int (hR _ _ (.bool _))
  case GtE =>
    obtain ⟨x, t, y, u, rfl, rfl, h⟩ := ints_of ra rb h
    exact Tr.tok (hK _ h) l fun R E hR => P.ge_int (hR _ _ (.bool _))
  case In =>
    obtain ⟨x, t, rfl, _, h⟩ := onInt_of ra h
    rcases h with h | h
    · obtain ⟨ds, p, vs, n, rfl, _, e, r, h⟩ := onTup_of rb h
      refine Tr.tok (hK _ h.2) l fun R E hR => in_tupleAt (Value.isInt _) ⟨_, e, rfl, _, rfl⟩ (eqAt_ints r h.1) (hR _ _ ?_)
      rw [List.any_toArray, any_isInt r h.1]; exact .bool _
    · obtain ⟨i, p, rfl, _, e, h⟩ := onRef_of rb h
      rcases h with h | h
      · obtain ⟨ds, vs, n, eo, r, h⟩ := onList_of l e h
        refine Tr.tok (hK _ h.2) l fun R E hR => in_listAt (Value.isInt _) ⟨_, eo, rfl, _, rfl⟩ (eqAt_ints r h.1) (hR _ _ ?_)
        rw [List.any_toArray, any_isInt r h.1]; exact .bool _
      · obtain ⟨D, kvs, hm, _, hf, h⟩ := onDict_of l e h
        refine Tr.tok (hK _ h) l fun R E hR => wpAny_in_of (knd := intKind G.prog G.w) (k := x) (isInt_self _ _) (sys e) hm.mapOf (hR _ _ ?_)
        rw [look_some hf]; exact .bool _
  case NotIn =>
    obtain ⟨x, t, rfl, _, h⟩ := onInt_of ra h
    obtain ⟨i, p, rfl, _, e, h⟩ := onRef_of rb h
    rcases h with h | h
    · obtain ⟨ds, vs, n, eo, r, h⟩ := onList_of l e h
      refine Tr.tok (hK _ h.2) l fun R E hR => notIn_listAt (Value.isInt _) ⟨_, eo, rfl, _, rfl⟩ (eqAt_ints r h.1) (hR _ _ ?_)
      rw [List.any_toArray, any_isInt r h.1]; exact .bool _
    · obtain ⟨D, kvs, hm, _, hf, h⟩ := onDict_of l e h
      refine Tr.tok (hK _ h) l fun R E hR => wpAny_notIn_of (knd := intKind G.prog G.w) (k := x) (isInt_self _ _) (sys e) hm.mapOf (hR _ _ ?_)
      rw [look_some hf]; exact .bool _
  all_goals exact False.elim h

theorem truth_raw {a : V} {va : Value} {K : Bool → Prop} {R : Bool → Shared → Prop} {Er : Value → Shared → Prop} (ra : VR G α s.heap va a) (h : truthW a K) (hR : ∀ b tk, K b → R b { s with toks := tk }) : wpAny (Mo G) A (truthy va) R Er s := by
  unfold truthW at h
  split at h
  · cases ra
    exact wpAny_truthy_bool (hR _ s.toks h)
  · cases ra
    refine P.truthy_int ?_
    rw [bne, int_beq]
    exact hR _ _ h
  · exact h.elim
end
end Mine

namespace Mine
open PySem PySem.W PyProof.Rows PySem.SeqAt

section
variable {G : Gl} {A : Around} {α : List Addr} {s : Shared} {H : Hp} {k : Nat}

noncomputable def notSlice : Expr → Bool
  | .Slice .. => false
  | _ => true
theorem sub_plain {sl : Expr} (h : notSlice sl = true) (o i : Value) : subscripted sl false o i = operate [o, i] (getItem o i) := by
  cases sl <;> first | rfl | cases h
theorem Tr.weak {t : Sem Value} {Q : PV} {d : V} (hq : Q d H) (l : LR G α H s.heap)
    (h : ∀ (R : Value → Shared → Prop) E, (∀ v h' tk, (∀ b o, s.heap.get? b = some o → h'.get? b = some o) → VR G α h' v d → R v { s with heap := h', toks := tk }) → wpAny (Mo G) A t R E s) : Tr G (VR G) A α t Q s :=
  fun R E hR => h R E fun v h' tk hk r => hR v d α H h' tk hq (.of_keeps hk) (l.all hk) r

theorem sub_ok {value slice : Expr} {a b : V} {va vb : Value} {Q : PV} (hs : notSlice slice = true) (l : LR G α H s.heap) (ra : VR G α s.heap va a) (rb : VR G α s.heap vb b) (h : subW a b H Q) :
    Tr G (VR G) A α (subscriptTail value slice va vb) Q s := by
  rcases h with h | h
  · obtain ⟨ds, p, vs, n, rfl, _, e, r, h⟩ := onTup_of ra h
    obtain ⟨i, t, rfl, _, h0, h1, h⟩ := onInt_of rb h
    obtain ⟨d, hd, h⟩ := onSome_of h
    obtain ⟨v, hv, rv⟩ := r.get hd
    have hlt := (List.getElem?_eq_some_iff.mp hv).1
    exact Tr.tok h l fun R E hR => item_tupleT ⟨_, e, rfl, _, rfl⟩ (by omega) (by omega) (seqIndex_of h0 (by omega)) hv (hR _ _ rv) (sub_plain hs _ _)
  · obtain ⟨i, p, rfl, _, ea, h⟩ := onRef_of ra h
    rcases h with h | h
    · obtain ⟨x, t, rfl, _, h⟩ := onInt_of rb h
      rcases h with h | h
      · obtain ⟨ds, vs, n, eo, r, h0, h1, h⟩ := onList_of l ea h
        obtain ⟨d, hn, h⟩ := onSome_of h
        have hL : s.heap.IsList _ vs.toArray := ⟨_, eo, rfl, _, rfl⟩
        unfold nth at hn
        by_cases hx : 0 ≤ x
        · rw [if_pos hx] at hn
          obtain ⟨v, hv, rv⟩ := r.get hn
          exact Tr.tok h l fun R E hR => tail_any hL.typeIs slot_list_getitem.lookup (wpAny_getItem_list hL hx (by omega) (List.getElem?_toArray.trans hv) (hR _ _ rv)) (sub_plain hs _ _)
        · rw [if_neg hx] at hn
          by_cases hx2 : 0 ≤ x + ds.length
          · rw [if_pos hx2] at hn
            obtain ⟨v, hv, rv⟩ := r.get hn
            have hl := r.length
            exact Tr.tok h l fun R E hR => tail_any hL.typeIs slot_list_getitem.lookup (wpAny_getItem_list_neg hL (by omega) (by rw [List.size_toArray]; omega) (by omega) (by rw [List.size_toArray, hl]; exact List.getElem?_toArray.trans hv) (hR _ _ rv)) (sub_plain hs _ _)
          · rw [if_neg hx2] at hn; cases hn
      · obtain ⟨D, kvs, hm, _, hf, h⟩ := onDict_of l ea h
        obtain ⟨d, hn, h⟩ := onSome_of h
        have := hf x
        rw [hn] at this
        obtain ⟨v, hv, rv⟩ := this
        exact Tr.tok h l fun R E hR => tail_any hm.typeIs slot_dict_getitem.lookup (wpAny_getItem_of (knd := intKind G.prog G.w) (k := x) (isInt_self _ _) hm.mapOf hv (hR _ _ rv)) (sub_plain hs _ _)
    · obtain ⟨x, t, rfl, _, h⟩ := onStr_of rb h
      obtain ⟨D, hd, h⟩ := onSdict_is h
      obtain ⟨kvs, hm, _, hf⟩ := l.obj _ _ _ ea hd
      obtain ⟨d, hn, h⟩ := onSome_of h
      have := hf x
      rw [hn] at this
      obtain ⟨v, hv, rv⟩ := this
      exact Tr.tok h l fun R E hR => tail_any hm.typeIs slot_dict_getitem.lookup (wpAny_getItem_of (knd := PySem.strKind G.prog G.w) (k := nm x) (by simp [PySem.strKind, Value.isStrOf]) hm.mapOf hv (hR _ _ rv)) (sub_plain hs _ _)

theorem ints_vals : ∀ {vs : List Value} {ds : List V} {ns : List Int}, VRs G α s.heap vs ds → asInts ds = some ns → IntsAre vs ns
  | _, _, ns, .nil, e => by cases e; exact .nil
  | _, _, ns, .cons r rs, e => by
    cases r <;> first
      | (simp only [asInts, Option.map_eq_some_iff] at e; obtain ⟨ms, hm, rfl⟩ := e; exact .cons _ _ (ints_vals rs hm))
      | cases e
theorem pushed {h : Heap} {o : Obj} : ∀ b x, h.get? b = some x → (h.push o).get? b = some x := fun _ _ e => Heap.get?_push_of_some _ e

theorem b_ok {f : Bf} {ds : List V} {vs : List Value} {Q : PV} (hA : AOk k A) (l : LR G α H s.heap) (r : VRs G α s.heap vs ds) (h : bW f ds H Q) :
    Tr G (VR G) A α (call f.val vs) Q s := by
  have small : ∀ {n m : Nat}, n ≤ 1000000 → m = n → m ≤ sizeLine := fun a b => by rw [sizeLine_eq, b]; exact Nat.le_trans a (by decide)
  rcases h with h | h
  · obtain ⟨v, d, rfl, r, h⟩ := on1_of r h
    cases f
    case len =>
      rcases h with h | h
      · obtain ⟨ds, p, vs, n, rfl, _, e, r, h⟩ := onTup_of r h
        have := r.length
        refine Tr.tok h.2 l fun R E hR => P.len_tuple e (by rw [List.size_toArray, this]; have := h.1; omega) ?_
        rw [List.size_toArray, this]; exact hR _ _ (.int _ _)
      · obtain ⟨i, p, rfl, _, ea, h⟩ := onRef_of r h
        obtain ⟨ds, vs, n, eo, r, h⟩ := onList_of l ea h
        have := r.length
        refine Tr.tok h.2 l fun R E hR => Calls.call_len_list ⟨_, eo, rfl, _, rfl⟩ (by rw [List.size_toArray, this]; have := h.1; omega) ?_
        rw [List.size_toArray, this]; exact hR _ _ (.int _ _)
    case range =>
      obtain ⟨n, t, rfl, _, h⟩ := onInt_of r h
      refine Tr.weak h.2.2 l fun R E hR => call_range_1 (hR _ _ _ pushed (.rng (t := s.toks) (u := t) (v := s.toks + 1) ?_ (by decide) (by have := h.1; have := h.2.1; omega)))
      rw [show (0 : Int) + (n.toNat : Int) = n from by rw [Int.zero_add, Int.toNat_of_nonneg h.1]]; exact IsRange.new ..
    case sum =>
      obtain ⟨i, p, rfl, _, ea, h⟩ := onRef_of r h
      obtain ⟨ds, vs, n, eo, r, ns, hn, h⟩ := onList_of l ea h
      have hi := ints_vals r hn
      have e := hi.numsOf
      obtain ⟨xs, hx⟩ := AllInts.items hi.allInts
      refine Tr.weak h.2 l fun R E hR => sum_intListG hA.handled (xs := xs) (hx ▸ ⟨_, eo, rfl, _, rfl⟩) fun h' tk t' hk => hR _ h' tk hk ?_
      rw [preSum_eq, List.take_of_length_le (by simp), ← nums_intItems, ← hx]
      rw [show numsOf vs.toArray.toList = ns from e]
      exact .int _ _
    case tuple =>
      rcases h with h | h
      · obtain ⟨ds, p, vs, n, rfl, rfl, e, r, h⟩ := onTup_of r h
        exact Tr.tok h l fun R E hR => call_tuple_tup ⟨_, e, rfl, _, rfl⟩ (hR _ _ (.tup e r))
      · obtain ⟨i, p, rfl, _, ea, h⟩ := onRef_of r h
        obtain ⟨ds, vs, n, eo, r, h⟩ := onList_of l ea h
        have := r.length
        refine Tr.weak h.2 l fun R E hR => call_tuple_list ⟨_, eo, rfl, _, rfl⟩ (fun h' hk => ?_) (by rw [List.size_toArray, this]; exact small (Nat.le_trans h.1 (by decide)) rfl)
        have hk2 : ∀ b o, s.heap.get? b = some o → (h'.push { cls := .type "tuple", data := .seq vs.toArray }).get? b = some o := fun b o e => pushed b o (hk b o e)
        exact hR _ _ s.toks hk2 (.tup (Heap.get?_push_size _ rfl) (r.mono (fun _ _ e => e) fun b o e _ => hk2 b o e))
    case list =>
      obtain ⟨i, p, rfl, _, ea, h⟩ := onRef_of r h
      obtain ⟨ds, vs, n, eo, r, h⟩ := onList_of l ea h
      have := r.length
      refine Tr.made h.2 l fun R E hR => call_list_seq _ (.inl rfl) eo rfl rfl (fun h' c' hk hD => ?_) (by rw [List.size_toArray, this]; exact small (Nat.le_trans h.1 (by decide)) rfl)
      exact hR _ h' s.toks hk (.inl (Nat.le_refl _)) (list_new r hk hD)
    case dict =>
      obtain ⟨i, p, rfl, _, ea, h⟩ := onRef_of r h
      obtain ⟨D, kvs, hm, hz, hf, h⟩ := onDict_of l ea h
      refine Tr.made h.2 l fun R E hR => kt_call_dict (knd := intKind G.prog G.w) (notSys (l.lo _ (List.mem_of_getElem? ea)).2) hm (small (Nat.le_trans (Nat.le_trans hz h.1) (by decide)) rfl) fun h' hd' hs => ?_
      have hk : ∀ b o, s.heap.get? b = some o → h'.get? b = some o := fun b o e => hs.extBut b o (Nat.ne_of_lt (Heap.lt_size e)) (pushed b o e)
      refine hR _ h' s.toks hk (.inl (Nat.le_refl _)) ⟨kvs, hd', hz, fun x => ?_⟩
      have := hf x
      cases hd : lookI x D with
      | none => rw [hd] at this; exact this
      | some d =>
        rw [hd] at this
        obtain ⟨v, h1, h2⟩ := this
        exact ⟨v, h1, h2.mono (fun i b q => by rw [List.getElem?_append_left (List.getElem?_eq_some_iff.mp q).1]; exact q) fun b o q _ => hk b o q⟩
    case max => exact False.elim h
  · obtain ⟨v, d, w, e, rfl, r1, r2, h⟩ := on2_of r h
    cases f
    case range =>
      obtain ⟨a, t, b, u, rfl, rfl, h1, h2, h3, h⟩ := ints_of r1 r2 h
      refine Tr.weak h l fun R E hR => call_range_2 (hR _ _ _ pushed (.rng (t := t) (u := u) (v := s.toks) ?_ h1 (by omega)))
      rw [show a + ((b - a).toNat : Int) = b from by omega]; exact IsRange.new ..
    case max =>
      obtain ⟨a, t, b, u, rfl, rfl, h⟩ := ints_of r1 r2 h
      refine Tr.weak h l fun R E hR => max_two_ints hA.handled fun h' tk hk => hR _ _ _ hk ?_
      split <;> exact .int _ _
    all_goals exact False.elim h
end
end Mine

namespace Mine
open PySem PySem.W PyProof.Rows PySem.SeqAt

noncomputable def Bm.id : Bm → String
  | .append => "list.append" | .pop => "list.pop" | .index => "list.index" | .get => "dict.get" | .reverse => "list.reverse"
noncomputable def Bm.ty : Bm → String
  | .get => "dict"
  | _ => "list"

section
variable {G : Gl} {A : Around} {α : List Addr} {s : Shared} {H : Hp} {k : Nat}

theorem idx_spec {x : Int} : ∀ {ds : List V} {j : Nat}, idxOf x ds = some j → ∃ d, ds[j]? = some d ∧ isInt x d = true ∧ ∀ m d', m < j → ds[m]? = some d' → isInt x d' = false
  | [], j, e => by cases e
  | d :: r, j, e => by
    unfold idxOf at e
    split at e
    · rename_i h
      cases e
      exact ⟨d, rfl, h, fun m d' hm => absurd hm (Nat.not_lt_zero _)⟩
    · rename_i h
      obtain ⟨i, hi, rfl⟩ := Option.map_eq_some_iff.mp e
      obtain ⟨d', h1, h2, h3⟩ := idx_spec hi
      refine ⟨d', by simpa using h1, h2, fun m d'' hm e' => ?_⟩
      cases m with
      | zero => simp at e'; subst e'; simpa using h
      | succ m => exact h3 m d'' (by omega) (by simpa using e')

theorem list_upd {i : Nat} {a : Addr} {vs ws : List Value} {ds : List V} {n : Nat} {f : Array Value → Array Value} (l : LR G α H s.heap) (ea : α[i]? = some a)
    (eo : s.heap.get? a = some { cls := .type "list", dict := none, data := .seq vs.toArray n, slots := #[] }) (hf : f vs.toArray = ws.toArray) (r : VRs G α s.heap ws ds) :
    OR G α (s.heap.update a (Obj.mapSeq f)) a (.list ds) := by
  obtain ⟨ob, eo', no⟩ := l.occ (List.mem_of_getElem? ea)
  have h1 := Heap.get?_update_self (Obj.mapSeq f) eo rfl
  refine ⟨ws, if (f vs.toArray).size == vs.toArray.size then n else n + 1, ?_, r.mono (fun _ _ e => e) fun b o e ib => ?_⟩
  · rw [h1, ← hf]; rfl
  · have : b ≠ a := fun q => by subst q; rw [eo'] at e; cases e; exact no ib
    rw [Heap.get?_update_other _ _ (Ne.symm this)]; exact e

theorem upd_mono {i : Nat} {a : Addr} {f : Obj → Obj} {v : Value} {d : V} (l : LR G α H s.heap) (ea : α[i]? = some a) (r : VR G α s.heap v d) : VR G α (s.heap.update a f) v d := by
  obtain ⟨ob, eo', no⟩ := l.occ (List.mem_of_getElem? ea)
  refine r.mono (fun _ _ e => e) fun b o e ib => ?_
  have : b ≠ a := fun q => by subst q; rw [eo'] at e; cases e; exact no ib
  rw [Heap.get?_update_other _ _ (Ne.symm this)]; exact e
theorem bm_ok {m : Bm} {o : V} {ds : List V} {vo : Value} {vs : List Value} {Q : PV} (l : LR G α H s.heap) (ro : VR G α s.heap vo o) (r : VRs G α s.heap vs ds) (h : bmW m o ds H Q) :
    Tr G (VR G) A α (call (.builtin m.id) (vo :: vs)) Q s := by
  have small : ∀ {n m : Nat}, n ≤ 1000000 → m = n → m + 1 ≤ sizeLine := fun a b => by rw [sizeLine_eq, b]; exact Nat.le_trans (Nat.succ_le_succ a) (by decide)
  have small' : ∀ {n m : Nat}, n ≤ 1000000 → m = n → m ≤ sizeLine := fun a b => Nat.le_of_succ_le (small a b)
  obtain ⟨i, p, rfl, rfl, ea, h⟩ := onRef_of ro h
  cases m
  case append =>
    obtain ⟨v, d, rfl, r, h⟩ := on1_of r h
    obtain ⟨ds, vs, n, eo, r', h⟩ := onList_of l ea h
    have hl := r'.length
    refine Tr.chg h.2 l ea fun R E hR => call_meets PySem.F.slot_list_append ⟨_, eo, rfl⟩ PySem.F.entry_list_append (PySem.F.args_list_append_2 _ _) (PySem.list_append _ vs.toArray n _ (by rw [List.size_toArray, hl]; exact small' h.1 rfl)) ⟨eo, hR _ _ s.toks (Heap.SameBut.update ..) ?_ .none⟩
    exact list_upd l ea eo (ws := vs ++ [v]) (by simp) (r'.append (.cons r .nil))
  case pop =>
    obtain ⟨rfl, h⟩ := on0_of r h
    obtain ⟨ds, vs, n, eo, r', hz, h⟩ := onList_of l ea h
    have hl := r'.length
    obtain ⟨d, hn, h⟩ := onSome_of h
    rw [List.getLast?_eq_getElem?] at hn
    obtain ⟨v, hv, rv⟩ := r'.get hn
    rw [← hl] at hv
    refine Tr.chg h l ea fun R E hR => call_meets PySem.F.slot_list_pop ⟨_, eo, rfl⟩ PySem.F.entry_list_pop (PySem.F.args_list_pop_1 _) (PySem.MeetsSeq.list_pop_last _ vs.toArray n v (by simpa using hv) (by rw [List.size_toArray, hl]; exact small' hz rfl)) ⟨eo, hR _ _ s.toks (Heap.SameBut.update ..) ?_ ?_⟩
    · refine list_upd l ea eo (ws := vs.dropLast) ?_ ?_
      · have hlt := (List.getElem?_eq_some_iff.mp hv).1
        simp [List.dropLast_eq_take, List.eraseIdx_eq_take_drop_succ]
        omega
      · rw [List.dropLast_eq_take, List.dropLast_eq_take, hl]; exact r'.take _
    · exact upd_mono l ea rv
  case index =>
    obtain ⟨v, d, rfl, r, h⟩ := on1_of r h
    obtain ⟨x, t, rfl, _, h⟩ := onInt_of r h
    obtain ⟨ds, vs, n, eo, r', hz, hi, j, hj, h⟩ := onList_of l ea h
    have hl := r'.length
    obtain ⟨d, h1, h2, h3⟩ := idx_spec hj
    obtain ⟨v, hv, rv⟩ := r'.get h1
    have hlt : j < vs.length := (List.getElem?_eq_some_iff.mp hv).1
    have conv : ∀ {m : Nat} {d' : V} {v' : Value}, ds[m]? = some d' → vs[m]? = some v' → Value.isInt x v' = isInt x d' := fun {m d' v'} e1 e2 => by
      obtain ⟨v'', e3, r3⟩ := r'.get e1
      rw [e2] at e3; cases e3
      obtain ⟨q, rfl⟩ := hi d' (List.mem_of_getElem? e1)
      obtain ⟨_, _, rfl, hq, _⟩ := onInt_of (K := fun _ => True) r3 trivial
      cases hq; rfl
    refine Tr.tok h l fun R E hR => call_meets PySem.F.slot_list_index ⟨_, eo, rfl⟩ PySem.F.entry_list_index (PySem.F.args_list_index_2 _ _)
      (list_indexAt _ vs.toArray n none #[] _ (Value.isInt x) j (by simpa using hlt) (by omega) ?_ fun m hm hmj => ?_) ⟨eo, eqAt_ints r' hi, hR _ _ (.int _ _)⟩
    · rw [← h2]; exact conv h1 (by simp [hlt])
    · have hm' : m < ds.length := by simp at hm; omega
      rw [← h3 m ds[m] hmj (List.getElem?_eq_getElem hm')]
      exact conv (List.getElem?_eq_getElem hm') (by simp at hm; simp [hm])
  case get =>
    obtain ⟨v, c, w, d, rfl, r, r2, h⟩ := on2_of r h
    obtain ⟨x, t, rfl, _, h⟩ := onInt_of r h
    obtain ⟨D, kvs, hm, _, hf, h⟩ := onDict_of l ea h
    refine Tr.tok h l fun R E hR => call_meetsIn PySem.F.slot_dict_get hm.typeIs PySem.F.entry_dict_get (PySem.F.args_dict_get_3 _ _ _)
      (PySem.meets_dict_get_default (intKind G.prog G.w) (k := x) _ (isInt_self _ _) (notSys (l.lo _ (List.mem_of_getElem? ea)).2) _) ⟨_, hm.mapOf, hR _ _ ?_⟩
    have := hf x
    cases hd : lookI x D with
    | none => rw [hd] at this; rw [this]; exact r2
    | some d' => rw [hd] at this; obtain ⟨v, h1, h2⟩ := this; rw [h1]; exact h2
  case reverse =>
    obtain ⟨rfl, h⟩ := on0_of r h
    obtain ⟨ds, vs, n, eo, r', h⟩ := onList_of l ea h
    have hl := r'.length
    refine Tr.chg h.2 l ea fun R E hR => call_meets PySem.F.slot_list_reverse ⟨_, eo, rfl⟩ PySem.F.entry_list_reverse (PySem.F.args_list_reverse_1 _) (PySem.AutoSeq1.list_reverse_list_0 _ vs.toArray n (by rw [List.size_toArray, hl]; exact small' h.1 rfl)) ⟨eo, hR _ _ _ (Heap.SameBut.update ..) ?_ .none⟩
    exact list_upd l ea eo (ws := vs.reverse) (by simp) r'.rev
end
end Mine

namespace Mine
open PySem PySem.W PyProof.Rows PySem.SeqAt

section
variable {G : Gl} {A : Around} {α : List Addr} {s : Shared} {H : Hp} {k : Nat}

/-! iterators -/
noncomputable def ItAt (G : Gl) (α : List Addr) (h : Heap) (I : Addr) (j : Nat) : V → Prop
  | .rng lo n => IsRangeIter h I (lo + (j : Int)) ((n : Int) - (j : Int)) 1 ∧ lo + n ≤ 1000000
  | .tup l => ∃ t vs m, h.IsTupleIter I t j ∧ h.get? t = some { cls := .type "tuple", dict := none, data := .seq vs.toArray m, slots := #[] } ∧ VRs G α h vs l
  | .ref i => ∃ l, α[i]? = some l ∧ h.IsListIter I l j
  | _ => False
theorem ItAt.notImm {h : Heap} {I : Addr} {j : Nat} {d : V} (x : ItAt G α h I j d) : ∃ o, h.get? I = some o ∧ ¬ Imm G o := by
  cases d <;> simp only [ItAt] at x
  case rng => exact ⟨_, x.1, fun q => by rcases q with ⟨_, _, e⟩ | ⟨_, e⟩ | ⟨_, e⟩ <;> simp [instObj] at e⟩
  case tup => obtain ⟨_, _, _, ⟨o, e, c, _⟩, _⟩ := x; exact ⟨_, e, fun q => by rcases q with ⟨_, _, e⟩ | ⟨_, e⟩ | ⟨_, e⟩ <;> (subst e; simp [instObj] at c)⟩
  case ref => obtain ⟨_, _, ⟨o, e, c, _⟩⟩ := x; exact ⟨_, e, fun q => by rcases q with ⟨_, _, e⟩ | ⟨_, e⟩ | ⟨_, e⟩ <;> (subst e; simp [instObj] at c)⟩
theorem ItAt.ext {W α' : List Addr} {h h' : Heap} {I : Addr} {j : Nat} {d : V} (x : ItAt G α h I j d) (y : Ext G W α h α' h') (hI : I ∉ W) : ItAt G α' h' I j d := by
  cases d <;> simp only [ItAt] at x ⊢
  case rng => exact ⟨y.keep _ _ x.1 (.inl hI), x.2⟩
  case tup =>
    obtain ⟨t, vs, m, ⟨o, e, c⟩, e2, r⟩ := x
    exact ⟨t, vs, m, ⟨o, y.keep _ _ e (.inl hI), c⟩, y.keep _ _ e2 (.inr (.inl ⟨_, _, rfl⟩)), r.ext y⟩
  case ref =>
    obtain ⟨l, e, ⟨o, e2, c⟩⟩ := x
    exact ⟨l, y.get e, ⟨o, y.keep _ _ e2 (.inl hI), c⟩⟩
/-- a write at one place outside of the ledger that holds nothing fixed -/
theorem Ext.at {h h' : Heap} {a : Addr} (hs : Heap.SameBut a h h') (hi : ∀ o, h.get? a = some o → ¬ Imm G o) (ho : ∃ o, h'.get? a = some o) : Ext G [a] α h α h' :=
  ⟨⟨[], by simp, fun _ h => nomatch h⟩, fun b o e hb => by
    have : b ≠ a := fun q => by
      subst q
      rcases hb with q | q
      · simp at q
      · exact hi _ e q
    exact (hs.2 b this).trans e, fun b o e => by
    by_cases q : b = a
    · subst q; exact ho
    · exact ⟨o, (hs.2 b q).trans e⟩⟩
theorem Ext.but {h h' : Heap} {a : Addr} (hs : Heap.ExtBut a h h') (hi : ∀ o, h.get? a = some o → ¬ Imm G o) (ho : ∀ o, h.get? a = some o → ∃ o, h'.get? a = some o) : Ext G [a] α h α h' :=
  ⟨⟨[], by simp, fun _ h => nomatch h⟩, fun b o e hb => by
    have : b ≠ a := fun q => by
      subst q
      rcases hb with q | q
      · simp at q
      · exact hi _ e q
    exact hs b o this e, fun b o e => by
    by_cases q : b = a
    · subst q; exact ho o e
    · exact ⟨o, hs b o q e⟩⟩

theorem it_new {v : Value} {d : V} {vs : List V} {st : Hp → Prop} {R : Value → Shared → Prop} {E : Value → Shared → Prop} (l : LR G α H s.heap) (r : VR G α s.heap v d) (hi : iters d H = some (vs, st))
    (h : ∀ o, ItAt G α (s.heap.push o) s.heap.objs.size 0 d → R (.ref s.heap.objs.size) { s with heap := s.heap.push o }) : wpAny (Mo G) A (pyIter v) R E s := by
  unfold iters at hi
  split at hi
  · cases r with | rng hr h1 h2 =>
    rename_i lo n _ _ _ _
    have hz : Builtin.Range.rangeSize lo (lo + n) 1 = n := by rw [rangeSize_one]; split <;> omega
    refine wpAny_pyIter_range hr ?_ (h _ ⟨?_, h2⟩)
    · exact small_one (by omega) (by omega) (by omega) (by omega)
    · rw [hz]; simpa using Heap.get?_push_size s.heap rfl
  · cases r with | tup e r => exact wpAny_pyIter_tuple ⟨_, e, rfl, _, rfl⟩ (h _ ⟨_, _, _, ⟨_, Heap.get?_push_size _ rfl, rfl, rfl⟩, Heap.get?_push_of_some _ e, r.mono (fun _ _ e => e) fun b o q _ => Heap.get?_push_of_some _ q⟩)
  · cases r with | ref e =>
    split at hi
    · rename_i l0 hl
      obtain ⟨ws, n, eo, _⟩ := l.obj _ _ _ e hl
      exact wpAny_pyIter_list ⟨_, eo, rfl, _, rfl⟩ (h _ ⟨_, e, ⟨_, Heap.get?_push_size _ rfl, rfl, rfl⟩⟩)
    · cases hi
  · cases hi

theorem it_next {d : V} {vs : List V} {st : Hp → Prop} {I : Addr} {j : Nat} {x : V} {R : Option Value → Shared → Prop} {E : Value → Shared → Prop} (l : LR G α H s.heap) {H₀ : Hp} (hi : iters d H₀ = some (vs, st)) (hst : st H) (it : ItAt G α s.heap I j d) (hI : I ∉ α) (hx : vs[j]? = some x)
    (h : ∀ v h' tk, Ext G [I] α s.heap α h' → ItAt G α h' I (j + 1) d → VR G α h' v x → R (some v) { s with heap := h', toks := tk }) : wpAny (Mo G) A (pyNext (.ref I)) R E s := by
  obtain ⟨oI, eI, nI⟩ := it.notImm
  have hnI : ∀ o, s.heap.get? I = some o → ¬ Imm G o := fun o e => by rw [eI] at e; cases e; exact nI
  unfold iters at hi
  split at hi
  · cases hi
    rename_i lo n
    obtain ⟨it, hb⟩ := it
    have hj : j < n := by simpa using (List.getElem?_eq_some_iff.mp hx).1
    simp [hj] at hx; subst hx
    refine wpAny_pyNext_range_item it (by omega) fun h' it' hs => ?_
    refine h _ h' _ (Ext.at hs hnI ⟨_, it'⟩) ⟨?_, hb⟩ (.int _ _)
    rw [show lo + ((j + 1 : Nat) : Int) = lo + (j : Int) + 1 from by omega, show (n : Int) - ((j + 1 : Nat) : Int) = (n : Int) - (j : Int) - 1 from by omega]; exact it'
  · cases hi
    obtain ⟨t, ws, m, hit, e, r⟩ := it
    obtain ⟨v, hv, rv⟩ := r.get hx
    refine wpAny_pyNext_tuple_item hit ⟨_, e, rfl, _, rfl⟩ (by simpa using hv) fun h' it' hs => ?_
    have X : Ext G [I] α s.heap α h' := Ext.at hs hnI (let ⟨o, e, _⟩ := it'; ⟨o, e⟩)
    exact h v h' s.toks X ⟨t, ws, m, it', X.keep _ _ e (.inr (.inl ⟨_, _, rfl⟩)), r.ext X⟩ (rv.ext X)
  · split at hi
    · rename_i l0 hl
      cases hi
      obtain ⟨a, ea, hit⟩ := it
      obtain ⟨ws, n, eo, r⟩ := l.obj _ _ _ ea hst
      obtain ⟨v, hv, rv⟩ := r.get hx
      refine wpAny_pyNext_list_item hit ⟨_, eo, rfl, _, rfl⟩ (by simpa using hv) fun h' it' hs => ?_
      have X : Ext G [I] α s.heap α h' := Ext.at hs hnI (let ⟨o, e, _⟩ := it'; ⟨o, e⟩)
      exact h v h' s.toks X ⟨a, ea, it'⟩ (rv.ext X)
    · cases hi
  · cases hi

theorem it_end {d : V} {vs : List V} {st : Hp → Prop} {I : Addr} {j : Nat} {R : Option Value → Shared → Prop} {E : Value → Shared → Prop} (hA : A.handled = none) (l : LR G α H s.heap) {H₀ : Hp} (hi : iters d H₀ = some (vs, st)) (hst : st H) (it : ItAt G α s.heap I j d) (hj : vs.length ≤ j)
    (h : ∀ h', Heap.ExtBut I s.heap h' → R none { s with heap := h' }) : wpAny (Mo G) A (pyNext (.ref I)) R E s := by
  unfold iters at hi
  split at hi
  · cases hi
    exact wpAny_pyNext_range_end hA it.1 (by simp at hj; omega) h
  · cases hi
    obtain ⟨t, ws, m, hit, e, r⟩ := it
    have := r.length
    exact wpAny_pyNext_tuple_end hA hit ⟨_, e, rfl, _, rfl⟩ (by simp; omega) h
  · split at hi
    · rename_i l0 hl
      cases hi
      obtain ⟨a, ea, hit⟩ := it
      obtain ⟨ws, n, eo, r⟩ := l.obj _ _ _ ea hst
      have := r.length
      exact wpAny_pyNext_list_end hA hit ⟨_, eo, rfl, _, rfl⟩ (by simp; omega) h
    · cases hi
  · cases hi

/-! the step that ends an iterator -/
theorem Ext.thenBut {W α' : List Addr} {h h₁ h₂ : Heap} {I : Addr} (x : Ext G W α h α' h₁) (y : Heap.ExtBut I h₁ h₂) (hI : h.get? I = none) : Ext G W α h α' h₂ :=
  ⟨x.pre, fun b o e hb => y b o (fun q => by subst q; rw [hI] at e; cases e) (x.keep b o e hb), fun b o e => by
    obtain ⟨o', e'⟩ := x.stay b o e
    exact ⟨o', y b o' (fun q => by subst q; rw [hI] at e; cases e) e'⟩⟩
theorem LR.but {h h' : Heap} {I : Addr} (x : LR G α H h) (y : Heap.ExtBut I h h') (hI : I ∉ α) (h0 : G.h0.get? I = none) (ni : ∀ o, h.get? I = some o → ¬ Imm G o) : LR G α H h' :=
  x.keep fun b o e hb => y b o (fun q => by
    subst q
    rcases hb with q | q | q
    · exact hI q
    · rw [h0] at q; cases q
    · exact ni _ e q) e
theorem VR.but {h h' : Heap} {I : Addr} {v : Value} {d : V} (x : VR G α h v d) (y : Heap.ExtBut I h h') (ni : ∀ o, h.get? I = some o → ¬ Imm G o) : VR G α h' v d :=
  x.mono (fun _ _ e => e) fun b o e ib => y b o (fun q => by subst q; exact ni _ e ib) e
theorem FR.but {env : Env} {ρ : Rho} {h h' : Heap} {I : Addr} (x : FR G env α ρ h) (y : Heap.ExtBut I h h') (hL : env.locals ≠ I) (hC : ∀ c ∈ env.cells.map (·.2), c ≠ I) (ni : ∀ o, h.get? I = some o → ¬ Imm G o) : FR G env α ρ h' := by
  obtain ⟨m, hn, hv⟩ := x.ns
  refine ⟨x.ok, x.L0, x.Lα, fun c hc => ?_, ⟨m, ns_get hn fun o e => y _ o hL e, fun a d e k => ?_⟩, fun a d e => ?_⟩
  · obtain ⟨h1, h2, v, h3⟩ := x.C0 c hc
    exact ⟨h1, h2, v, cell_get h3 fun o e => y _ o (hC c hc) e⟩
  · obtain ⟨v, h1, h2⟩ := hv a d e k; exact ⟨v, h1, h2.but y ni⟩
  · rcases x.cv a d e with q | ⟨k, c, v, h1, h2, h3⟩
    · exact .inl q
    · exact .inr ⟨k, c, v, h1, cell_get h2 fun o e => y _ o (hC c (mem_cells h1)) e, h3.but y ni⟩
/-- a write outside of the frame and the ledger -/
theorem FR.off {env : Env} {ρ : Rho} {W : List Addr} {h h' : Heap} (x : FR G env α ρ h) (y : Ext G W α h α h') (hW : ∀ a ∈ W, a ≠ env.locals ∧ a ∉ env.cells.map (·.2)) : FR G env α ρ h' := by
  obtain ⟨m, hn, hv⟩ := x.ns
  have kc : ∀ c ∈ env.cells.map (·.2), ∀ o, h.get? c = some o → h'.get? c = some o := fun c hc o e => y.keep c o e (.inl fun m => (hW c m).2 hc)
  refine ⟨x.ok, x.L0, x.Lα, fun c hc => ?_, ⟨m, ns_get hn fun o e => y.keep _ o e (.inl fun m => (hW _ m).1 rfl), fun a d e k => ?_⟩, fun a d e => ?_⟩
  · obtain ⟨h1, h2, v, h3⟩ := x.C0 c hc
    exact ⟨h1, h2, v, cell_get h3 (kc c hc)⟩
  · obtain ⟨v, h1, h2⟩ := hv a d e k; exact ⟨v, h1, h2.ext y⟩
  · rcases x.cv a d e with q | ⟨k, c, v, h1, h2, h3⟩
    · exact .inl q
    · exact .inr ⟨k, c, v, h1, cell_get h2 (kc c (mem_cells h1)), h3.ext y⟩
/-- an object that stands in the heap joins the ledger -/
theorem LR.join {h : Heap} {a : Addr} (x : LR G α H h) {o : O} (ha : a ∉ α) (h0 : G.h0.get? a = none ∧ mainGlobals < a) (ho : OR G (α ++ [a]) h a o) : LR G (α ++ [a]) (H ++ [o]) h := by
  refine ⟨by simp [x.len], ?_, fun b hb => ?_, fun i b o' e f => ?_, x.base⟩
  · refine List.nodup_append.mpr ⟨x.nd, by simp, fun c hc b hb q => ?_⟩
    simp at hb; subst hb; subst q
    exact ha hc
  · rcases List.mem_append.mp hb with q | q
    · exact x.lo b q
    · simp at q; rw [q]; exact h0
  · rcases getElem?_snoc f with f' | ⟨rfl, rfl⟩
    · have hi : i < α.length := x.len ▸ (List.getElem?_eq_some_iff.mp f').1
      rw [List.getElem?_append_left hi] at e
      exact (x.obj i b o' e f').keep (fun ob eo => eo) (fun j c q => by rw [List.getElem?_append_left (List.getElem?_eq_some_iff.mp q).1]; exact q) fun b o eb _ => eb
    · rw [← x.len, List.getElem?_append_right (Nat.le_refl _), Nat.sub_self] at e
      simp at e; subst e; exact ho
theorem Ext.join {W α' : List Addr} {h h' : Heap} {a : Addr} (x : Ext G W α h α' h') (ha : h.get? a = none) : Ext G W α h (α' ++ [a]) h' := by
  obtain ⟨β, rfl, hβ⟩ := x.pre
  refine ⟨⟨β ++ [a], by simp, fun b hb => ?_⟩, x.keep, x.stay⟩
  rcases List.mem_append.mp hb with q | q
  · exact hβ b q
  · simp at q; rw [q]; exact ha
end
end Mine

namespace Mine
open PySem PySem.W PyProof.Rows PySem.SeqAt

/-- room for a call of the next level -/
structure AOkW (k : Nat) (A : Around) : Prop where
  handled : A.handled = none
  depth : A.depth + 4 * k + 2 < recursionLimit
  units : A.units + 16 * k + 190 < cLine
theorem AOk.w {k : Nat} {A : Around} (x : AOk k A) : AOkW k A := ⟨x.handled, by have := x.depth; omega, by have := x.units; omega⟩
theorem AOkW.deeper {k : Nat} {A : Around} {env : Env} (x : AOkW (k + 1) A) : AOk k (A.deeper env) :=
  ⟨x.handled, by have := x.depth; show A.depth + 1 + _ + _ < _; omega, by have := x.units; show A.units + 3 + _ + _ < _; omega⟩
theorem AOk.typeCall {k : Nat} {A : Around} (x : AOk k A) (c : Addr) (r : List Value) (kw : List (Str × Value)) : AOkW k (A.under (.builtin "type.__call__" ⟨.ref c :: r, kw⟩)) := by
  have e2 : (A.under (.builtin "type.__call__" ⟨.ref c :: r, kw⟩)).depth = A.depth + (Code.builtin "type.__call__" ⟨.ref c :: r, kw⟩).weight := rfl
  have e3 : (A.under (.builtin "type.__call__" ⟨.ref c :: r, kw⟩)).units = A.units + (Code.builtin "type.__call__" ⟨.ref c :: r, kw⟩).cUnits := rfl
  have w1 : (Code.builtin "type.__call__" ⟨.ref c :: r, kw⟩).weight = 1 := by kernel_rfl
  have w2 : (Code.builtin "type.__call__" ⟨.ref c :: r, kw⟩).cUnits = 1 := by kernel_rfl
  have := x.depth; have := x.units
  exact ⟨x.handled, by omega, by omega⟩

section
variable {G : Gl} {A : Around} {α : List Addr} {s : Shared} {H : Hp} {k : Nat} {ρ : Rho} {E : Value → Shared → Prop}

theorem LR.kin (l : LR G α H s.heap) : G.K.In s.heap := Frag.In.keeps G.kin l.base

structure ClsOk (G : Gl) : Prop where
  ga : findIn G.K (.ref G.C) "__getattribute__" = some (some (.builtin "object.__getattribute__"))
  gattr : findIn G.K (.ref G.C) "__getattr__" = some none
  sa : findIn G.K (.ref G.C) "__setattr__" = some (some (.builtin "object.__setattr__"))
  plain : plainOver G.K G.C = true
  dict : hasDictIn G.K G.C = true
  makes : makesIn G.K G.C = true
  keep : keepIn G.K (.ref G.C) = true
  attrs : ∀ a, [64, 33, 34, 35, 32].contains a = true → findIn G.K (.ref G.C) (nm a) = some none

theorem VR.handed {v : Value} {d : V} (r : VR G α s.heap v d) : handedIn v = true := by cases r <;> rfl
theorem inst_at {a dx : Addr} {l : List (Nat × V)} (e : s.heap.get? a = some (instObj G.C dx)) (o : OR G α s.heap dx (.ns l)) :
    ∃ es n, InstAt s.heap a (instObj G.C dx) G.C (some (dictOf es n)) ∧ s.heap.get? dx = some (dictOf es n) ∧ es.length ≤ l.length ∧ (∀ e ∈ es, ∃ m t, e.key = .str m t) ∧ ∀ k, match look k l with
      | some d => ∃ e, es.find? (fun e => e.key.isStr (nm k)) = some e ∧ VR G α s.heap e.val d
      | none => es.find? (fun e => e.key.isStr (nm k)) = none := by
  obtain ⟨es, n, e2, r⟩ := o
  exact ⟨es, n, ⟨e, rfl, rfl, e2⟩, e2, r⟩
theorem noRef {es : List DictEntry} (h : ∀ e ∈ es, ∃ m t, e.key = .str m t) : es.any (·.refKey) = false := by
  rw [List.any_eq_false]
  intro e he
  obtain ⟨m, t, q⟩ := h e he
  simp [DictEntry.refKey, q]

theorem get_ok {i : Nat} {a : Nat} {o : List (Nat × V)} {d : V} {v : Value} {Q : PV} {ex : Bool} (K : ClsOk G) (l : LR G α H s.heap) (r : VR G α s.heap v (.inst i)) (ho : H[i]? = some (.ns o)) (ha : [64, 33, 34, 35, 32].contains a = true) (hd : look a o = some d) (hq : Q d H) :
    Tr G (VR G) A α (getAttr v (nm a) ex) Q s := by
  cases r with | inst e ei =>
  obtain ⟨es, n, I, e2, hz, hs, hf⟩ := inst_at e (l.obj _ _ _ ei ho)
  have := hf a
  rw [hd] at this
  obtain ⟨en, h1, h2⟩ := this
  refine Tr.tok hq l fun R E hR => get_value l.kin I K.ga (findObj_own K.dict (K.attrs a ha) rfl ?_) h2.handed (hR _ _ h2)
  rw [lookIn_dict]; unfold getL; rw [h1]

theorem putL_len (name : Str) (hsh : Int) (key v : Value) : ∀ es : List DictEntry, (putL name hsh key v es).length ≤ es.length + 1
  | [] => by simp [putL]
  | e :: r => by
    unfold putL
    split
    · simp
    · have := putL_len name hsh key v r
      simp; omega
theorem putL_keys {name : Str} {hsh : Int} {t : Tok} {v : Value} : ∀ {es : List DictEntry}, (∀ e ∈ es, ∃ m t, e.key = .str m t) → ∀ e ∈ putL name hsh (.str name t) v es, ∃ m t, e.key = .str m t
  | [], _, e, he => by simp [putL] at he; subst he; exact ⟨_, _, rfl⟩
  | x :: r, h, e, he => by
    unfold putL at he
    split at he
    · rcases List.mem_cons.mp he with rfl | he
      · exact h x List.mem_cons_self
      · exact h e (List.mem_cons_of_mem _ he)
    · rcases List.mem_cons.mp he with rfl | he
      · exact h _ List.mem_cons_self
      · exact putL_keys (fun e he => h e (List.mem_cons_of_mem _ he)) e he
theorem isStr_str {n m : Str} {t : Tok} : (Value.str n t).isStr m = decide (n = m) := by
  show (n == m) = decide (n = m)
  by_cases q : n = m
  · subst q; simp
  · rw [decide_eq_false q]; exact beq_eq_false_iff_ne.mpr q
theorem putL_same {name : Str} {hsh : Int} {t : Tok} {v : Value} : ∀ {es : List DictEntry}, ∃ e, (putL name hsh (.str name t) v es).find? (fun e => e.key.isStr name) = some e ∧ e.val = v
  | [] => ⟨⟨hsh, .str name t, v⟩, by simp [putL, isStr_str], rfl⟩
  | x :: r => by
    unfold putL
    split
    · rename_i h; exact ⟨_, by rw [List.find?_cons]; simp only [h]; rfl, rfl⟩
    · rename_i h
      obtain ⟨e, h1, h2⟩ := putL_same (name := name) (hsh := hsh) (t := t) (v := v) (es := r)
      exact ⟨e, by rw [List.find?_cons]; simp only [h]; exact h1, h2⟩
theorem putL_other {name m : Str} (hne : name ≠ m) {hsh : Int} {t : Tok} {v : Value} : ∀ {es : List DictEntry}, (∀ e ∈ es, ∃ m t, e.key = .str m t) → (putL name hsh (.str name t) v es).find? (fun e => e.key.isStr m) = es.find? (fun e => e.key.isStr m)
  | [], _ => by simp [putL, isStr_str, hne]
  | x :: r, h => by
    unfold putL
    split
    · rename_i hx
      obtain ⟨n, t', q⟩ := h x List.mem_cons_self
      have : n = name := by rw [q, isStr_str] at hx; exact of_decide_eq_true hx
      rw [List.find?_cons, List.find?_cons]
      have e1 : x.key.isStr m = false := by rw [q, isStr_str, this]; exact decide_eq_false hne
      simp only [e1]
    · rename_i hx
      have ih := putL_other hne (hsh := hsh) (t := t) (v := v) (es := r) fun e he => h e (List.mem_cons_of_mem _ he)
      rw [List.find?_cons, List.find?_cons, ih]

/-- a store into the dict of an object -/
theorem set_ok {i a : Nat} {o : List (Nat × V)} {d : V} {v ov : Value} {R : Unit → Shared → Prop} (K : ClsOk G) (l : LR G α H s.heap) (r : VR G α s.heap ov (.inst i)) (rv : VR G α s.heap v d) (ho : H[i]? = some (.ns o)) (ha : [64, 33, 34, 35, 32].contains a = true) (hz : o.length ≤ 100)
    (h : ∀ h' tk, LR G α (H.set i (.ns ((a, d) :: o))) h' → Ext G α α s.heap α h' → R () { s with heap := h', toks := tk }) : wpAny (Mo G) A (setAttr ov (nm a) v) R E s := by
  cases r with | inst e ei =>
  rename_i x dx
  obtain ⟨es, n, I, e2, hz2, hs, hf⟩ := inst_at e (l.obj _ _ _ ei ho)
  have ht : takerIn G.K G.C (nm a) = some none := by unfold takerIn; rw [K.attrs a ha]; rfl
  refine set_plain l.kin I K.sa (osa_open (Frag.In.keeps l.kin fun _ _ e => e) I K.plain ht fun b => ?_)
  obtain ⟨cd, hc, hd'⟩ := any_some K.dict
  refine wpAny_bind (wpAny_pure (wpAny_bind (wpAny_bind (wpAny_loadPart e (wpAny_bind (Looks.here (s := { s with toks := s.toks + 1 }) (looks_clsIn l.kin hc) ?_))))))
  rw [hd']
  refine wpAny_pure (a := some dx) (wpAny_bind (wpAny_pure (wpAny_bind ?_)))
  unfold nsSet
  refine wpAny_bind (wpAny_bind (wpAny_askSetting (wpAny_pure (wpAny_bind (wpAny_mkText (wpAny_bind (wpAny_loadPart e2 ?_)))))))
  dsimp only [dictOf]
  have c : (!es.toArray.any (·.key.isStr (nm a)) && es.toArray.any (·.refKey)) = false := by
    rw [List.any_toArray, List.any_toArray, noRef hs, Bool.and_false]
  rw [aRefKeyMayBeTheName_at, c]
  refine wpAny_updatePart e2 ?_
  have D' : ∀ hsh tk, (s.heap.update dx (Obj.putName (nm a) hsh (.str (nm a) tk) v)).get? dx = some (dictOf (putL (nm a) hsh (.str (nm a) tk) v es) (putN (nm a) es n)) := fun hsh tk => by
    rw [← putName_dict]
    exact Heap.get?_update_self _ e2 (by rw [putName_dict]; rfl)
  refine wpAny_bind (wpAny_lookBehind (D' _ _) (pastItsLine_dict (by rw [List.size_toArray, sizeLine_eq]; exact Nat.le_trans (putL_len ..) (by omega))) ?_)
  refine wpAny_pure ?_
  have hs' := Heap.SameBut.update s.heap dx (Obj.putName (nm a) (PyData.keyHash G.w.params (nm a)) (.str (nm a) (s.toks + 1)) v)
  have X := l.ext_set ei hs' (D' _ _)
  refine h _ _ (l.set ei hs' ⟨_, _, D' _ _, ?_, putL_keys hs, fun k => ?_⟩) X
  · exact Nat.le_trans (putL_len ..) (by simp; omega)
  · rw [look_cons]
    by_cases q : a = k
    · subst q
      simp only [if_true]
      obtain ⟨en, h1, h2⟩ := putL_same (name := nm a) (hsh := PyData.keyHash G.w.params (nm a)) (t := s.toks + 1) (v := v) (es := es)
      exact ⟨en, h1, h2 ▸ rv.ext X⟩
    · simp only [if_neg q]
      rw [putL_other (fun z => q (nm_inj z)) hs]
      have := hf k
      split
      · rename_i d' hd; rw [hd] at this; obtain ⟨en, h1, h2⟩ := this; exact ⟨en, h1, h2.ext X⟩
      · rename_i hd; rw [hd] at this; exact this
end
end Mine

namespace Mine
open PySem PySem.W PyProof.Rows PySem.SeqAt

abbrev Ns := List (Str × NameKind)
noncomputable def isGlob (ns : Ns) (x : Str) : Bool := decide (ns.lookup x = some .globalImplicit)
noncomputable def isLoc (ns : Ns) (x : Str) : Bool := decide (ns.lookup x = some .local)
noncomputable def isVar (ns : Ns) (x : Str) : Bool := decide (ns.lookup x = some .local) || decide (ns.lookup x = some .cell)
noncomputable def notCall : Expr → Bool
  | .Call .. => false
  | _ => true
noncomputable def notComp : Expr → Bool
  | .ListComp .. => false
  | .SetComp .. => false
  | .DictComp .. => false
  | _ => true
noncomputable def notTuple : Expr → Bool
  | .Tuple .. => false
  | _ => true
noncomputable def notStar : Expr → Bool
  | .Starred .. => false
  | _ => true
noncomputable def notSet : Expr → Bool
  | .Set .. => false
  | _ => true
noncomputable def Es.len : Es → Nat
  | .nil => 0
  | .cons _ r => r.len + 1
/-- a comprehension's scope, within names ns -/
noncomputable def scopeOk (ns : Ns) (sc : Scope) (fv : List Nat) : Bool :=
  decide (sc.kind = .function) && sc.names.all (fun p => decide (p.2 ≠ .cell)) && sc.names.all (fun p => decide (p.2 ≠ .local) || decide (sc.names.lookup p.1 = some .local)) &&
  sc.names.all (fun p => decide (p.2 ≠ .free) || decide (ns.lookup p.1 = some .free) || decide (ns.lookup p.1 = some .cell)) && fv.all (fun x => decide (sc.names.lookup (nm x) = some .free))
noncomputable def keysI : List Int → List (Option Expr) → Bool
  | [], [] => true
  | k :: ks, some (.Constant (.int j) _ _) :: r => decide (j = k) && keysI ks r
  | _, _ => false
noncomputable def keysS : List Nat → List (Option Expr) → Bool
  | [], [] => true
  | k :: ks, some (.Constant (.str t) _ _) :: r => decide (t = nm k) && keysS ks r
  | _, _ => false
noncomputable def attrL : List Nat := [64, 33, 34, 35, 32]
noncomputable def globL : List Nat := [75, 76, 77, 78, 79, 80, 81, 82, 83, 84, 85, 86, 87, 88, 89, 90, 91, 92, 93, 94, 95, 96, 97, 98, 99, 100, 101, 102, 103]
noncomputable def methL : List Nat := [106, 107, 108, 109, 110, 111]
noncomputable def pConst (x : Expr) (K : Const → Bool) : Bool :=
  if h : x.ctorIdx = 19 then Expr.Constant.elim (motive_1 := fun _ => Bool) x h (fun c _ _ => K c) else false
theorem pConst_of {x : Expr} {K : Const → Bool} (h : pConst x K = true) : ∃ c n q, x = .Constant c n q ∧ K c = true := by
  by_cases q : x.ctorIdx = 19
  · revert h
    exact Expr.Constant.elim (motive_1 := fun x => pConst x K = true → ∃ c n q, x = .Constant c n q ∧ K c = true) x q fun c n q h => ⟨c, n, q, rfl, h⟩
  · rw [pConst, dif_neg q] at h; cases h
noncomputable def pUn (x : Expr) (K : UnaryOp → Expr → Bool) : Bool :=
  if h : x.ctorIdx = 3 then Expr.UnaryOp.elim (motive_1 := fun _ => Bool) x h (fun o a _ => K o a) else false
theorem pUn_of {x : Expr} {K : UnaryOp → Expr → Bool} (h : pUn x K = true) : ∃ o a q, x = .UnaryOp o a q ∧ K o a = true := by
  by_cases q : x.ctorIdx = 3
  · revert h
    exact Expr.UnaryOp.elim (motive_1 := fun x => pUn x K = true → ∃ o a q, x = .UnaryOp o a q ∧ K o a = true) x q fun o a q h => ⟨o, a, q, rfl, h⟩
  · rw [pUn, dif_neg q] at h; cases h
noncomputable def pName (x : Expr) (K : Str → Bool) : Bool :=
  if h : x.ctorIdx = 23 then Expr.Name.elim (motive_1 := fun _ => Bool) x h (fun t _ => K t) else false
theorem pName_of {x : Expr} {K : Str → Bool} (h : pName x K = true) : ∃ t q, x = .Name t q ∧ K t = true := by
  by_cases q : x.ctorIdx = 23
  · revert h
    exact Expr.Name.elim (motive_1 := fun x => pName x K = true → ∃ t q, x = .Name t q ∧ K t = true) x q fun t q h => ⟨t, q, rfl, h⟩
  · rw [pName, dif_neg q] at h; cases h
noncomputable def isName (x : Expr) : Bool := pName x fun _ => true
theorem isName_of {x : Expr} (h : isName x = true) : ∃ t q, x = .Name t q := let ⟨t, q, e, _⟩ := pName_of h; ⟨t, q, e⟩
noncomputable def pBin (x : Expr) (K : Expr → Operator → Expr → Bool) : Bool :=
  if h : x.ctorIdx = 2 then Expr.BinOp.elim (motive_1 := fun _ => Bool) x h (fun a o b _ => K a o b) else false
theorem pBin_of {x : Expr} {K : Expr → Operator → Expr → Bool} (h : pBin x K = true) : ∃ a o b q, x = .BinOp a o b q ∧ K a o b = true := by
  by_cases q : x.ctorIdx = 2
  · revert h
    exact Expr.BinOp.elim (motive_1 := fun x => pBin x K = true → ∃ a o b q, x = .BinOp a o b q ∧ K a o b = true) x q fun a o b q h => ⟨a, o, b, q, rfl, h⟩
  · rw [pBin, dif_neg q] at h; cases h
noncomputable def pCmp (x : Expr) (K : Expr → List CmpOp → List Expr → Bool) : Bool :=
  if h : x.ctorIdx = 15 then Expr.Compare.elim (motive_1 := fun _ => Bool) x h (fun a l m _ => K a l m) else false
theorem pCmp_of {x : Expr} {K : Expr → List CmpOp → List Expr → Bool} (h : pCmp x K = true) : ∃ a l m q, x = .Compare a l m q ∧ K a l m = true := by
  by_cases q : x.ctorIdx = 15
  · revert h
    exact Expr.Compare.elim (motive_1 := fun x => pCmp x K = true → ∃ a l m q, x = .Compare a l m q ∧ K a l m = true) x q fun a l m q h => ⟨a, l, m, q, rfl, h⟩
  · rw [pCmp, dif_neg q] at h; cases h
noncomputable def pBool (x : Expr) (K : BoolOp → List Expr → Bool) : Bool :=
  if h : x.ctorIdx = 0 then Expr.BoolOp.elim (motive_1 := fun _ => Bool) x h (fun o l _ => K o l) else false
theorem pBool_of {x : Expr} {K : BoolOp → List Expr → Bool} (h : pBool x K = true) : ∃ o l q, x = .BoolOp o l q ∧ K o l = true := by
  by_cases q : x.ctorIdx = 0
  · revert h
    exact Expr.BoolOp.elim (motive_1 := fun x => pBool x K = true → ∃ o l q, x = .BoolOp o l q ∧ K o l = true) x q fun o l q h => ⟨o, l, q, rfl, h⟩
  · rw [pBool, dif_neg q] at h; cases h
noncomputable def pIf (x : Expr) (K : Expr → Expr → Expr → Bool) : Bool :=
  if h : x.ctorIdx = 5 then Expr.IfExp.elim (motive_1 := fun _ => Bool) x h (fun a b c _ => K a b c) else false
theorem pIf_of {x : Expr} {K : Expr → Expr → Expr → Bool} (h : pIf x K = true) : ∃ a b c q, x = .IfExp a b c q ∧ K a b c = true := by
  by_cases q : x.ctorIdx = 5
  · revert h
    exact Expr.IfExp.elim (motive_1 := fun x => pIf x K = true → ∃ a b c q, x = .IfExp a b c q ∧ K a b c = true) x q fun a b c q h => ⟨a, b, c, q, rfl, h⟩
  · rw [pIf, dif_neg q] at h; cases h
noncomputable def pTup (x : Expr) (K : List Expr → Bool) : Bool :=
  if h : x.ctorIdx = 25 then Expr.Tuple.elim (motive_1 := fun _ => Bool) x h (fun l _ _ => K l) else false
theorem pTup_of {x : Expr} {K : List Expr → Bool} (h : pTup x K = true) : ∃ l n q, x = .Tuple l n q ∧ K l = true := by
  by_cases q : x.ctorIdx = 25
  · revert h
    exact Expr.Tuple.elim (motive_1 := fun x => pTup x K = true → ∃ l n q, x = .Tuple l n q ∧ K l = true) x q fun l n q h => ⟨l, n, q, rfl, h⟩
  · rw [pTup, dif_neg q] at h; cases h
noncomputable def pLst (x : Expr) (K : List Expr → Bool) : Bool :=
  if h : x.ctorIdx = 24 then Expr.List.elim (motive_1 := fun _ => Bool) x h (fun l _ => K l) else false
theorem pLst_of {x : Expr} {K : List Expr → Bool} (h : pLst x K = true) : ∃ l q, x = .List l q ∧ K l = true := by
  by_cases q : x.ctorIdx = 24
  · revert h
    exact Expr.List.elim (motive_1 := fun x => pLst x K = true → ∃ l q, x = .List l q ∧ K l = true) x q fun l q h => ⟨l, q, rfl, h⟩
  · rw [pLst, dif_neg q] at h; cases h
noncomputable def pDict (x : Expr) (K : List (Option Expr) → List Expr → Bool) : Bool :=
  if h : x.ctorIdx = 6 then Expr.Dict.elim (motive_1 := fun _ => Bool) x h (fun l m _ => K l m) else false
theorem pDict_of {x : Expr} {K : List (Option Expr) → List Expr → Bool} (h : pDict x K = true) : ∃ l m q, x = .Dict l m q ∧ K l m = true := by
  by_cases q : x.ctorIdx = 6
  · revert h
    exact Expr.Dict.elim (motive_1 := fun x => pDict x K = true → ∃ l m q, x = .Dict l m q ∧ K l m = true) x q fun l m q h => ⟨l, m, q, rfl, h⟩
  · rw [pDict, dif_neg q] at h; cases h
noncomputable def pSub (x : Expr) (K : Expr → Expr → Bool) : Bool :=
  if h : x.ctorIdx = 21 then Expr.Subscript.elim (motive_1 := fun _ => Bool) x h (fun a b _ => K a b) else false
theorem pSub_of {x : Expr} {K : Expr → Expr → Bool} (h : pSub x K = true) : ∃ a b q, x = .Subscript a b q ∧ K a b = true := by
  by_cases q : x.ctorIdx = 21
  · revert h
    exact Expr.Subscript.elim (motive_1 := fun x => pSub x K = true → ∃ a b q, x = .Subscript a b q ∧ K a b = true) x q fun a b q h => ⟨a, b, q, rfl, h⟩
  · rw [pSub, dif_neg q] at h; cases h
noncomputable def pSlice (x : Expr) (K : Option Expr → Option Expr → Option Expr → Bool) : Bool :=
  if h : x.ctorIdx = 26 then Expr.Slice.elim (motive_1 := fun _ => Bool) x h (fun a b c _ => K a b c) else false
theorem pSlice_of {x : Expr} {K : Option Expr → Option Expr → Option Expr → Bool} (h : pSlice x K = true) : ∃ a b c q, x = .Slice a b c q ∧ K a b c = true := by
  by_cases q : x.ctorIdx = 26
  · revert h
    exact Expr.Slice.elim (motive_1 := fun x => pSlice x K = true → ∃ a b c q, x = .Slice a b c q ∧ K a b c = true) x q fun a b c q h => ⟨a, b, c, q, rfl, h⟩
  · rw [pSlice, dif_neg q] at h; cases h
noncomputable def pAttr (x : Expr) (K : Expr → Str → Pos → Bool) : Bool :=
  if h : x.ctorIdx = 20 then Expr.Attribute.elim (motive_1 := fun _ => Bool) x h (fun b t q => K b t q) else false
theorem pAttr_of {x : Expr} {K : Expr → Str → Pos → Bool} (h : pAttr x K = true) : ∃ b t q, x = .Attribute b t q ∧ K b t q = true := by
  by_cases q : x.ctorIdx = 20
  · revert h
    exact Expr.Attribute.elim (motive_1 := fun x => pAttr x K = true → ∃ b t q, x = .Attribute b t q ∧ K b t q = true) x q fun b t q h => ⟨b, t, q, rfl, h⟩
  · rw [pAttr, dif_neg q] at h; cases h
noncomputable def pCall (x : Expr) (K : Expr → List Expr → List Keyword → Pos → Bool) : Bool :=
  if h : x.ctorIdx = 16 then Expr.Call.elim (motive_1 := fun _ => Bool) x h (fun f l m q => K f l m q) else false
theorem pCall_of {x : Expr} {K : Expr → List Expr → List Keyword → Pos → Bool} (h : pCall x K = true) : ∃ f l m q, x = .Call f l m q ∧ K f l m q = true := by
  by_cases q : x.ctorIdx = 16
  · revert h
    exact Expr.Call.elim (motive_1 := fun x => pCall x K = true → ∃ f l m q, x = .Call f l m q ∧ K f l m q = true) x q fun f l m q h => ⟨f, l, m, q, rfl, h⟩
  · rw [pCall, dif_neg q] at h; cases h
noncomputable def pComp (x : Expr) (K : Expr → List Comprehension → Scope → Bool) : Bool :=
  if h : x.ctorIdx = 8 then Expr.ListComp.elim (motive_1 := fun _ => Bool) x h (fun a g sc _ => K a g sc) else false
theorem pComp_of {x : Expr} {K : Expr → List Comprehension → Scope → Bool} (h : pComp x K = true) : ∃ a g sc q, x = .ListComp a g sc q ∧ K a g sc = true := by
  by_cases q : x.ctorIdx = 8
  · revert h
    exact Expr.ListComp.elim (motive_1 := fun x => pComp x K = true → ∃ a g sc q, x = .ListComp a g sc q ∧ K a g sc = true) x q fun a g sc q h => ⟨a, g, sc, q, rfl, h⟩
  · rw [pComp, dif_neg q] at h; cases h
noncomputable def sAsg (x : Stmt) (K : List Expr → Expr → Bool) : Bool :=
  if h : x.ctorIdx = 5 then Stmt.Assign.elim (motive_2 := fun _ => Bool) x h (fun l a _ => K l a) else false
theorem sAsg_of {x : Stmt} {K : List Expr → Expr → Bool} (h : sAsg x K = true) : ∃ l a q, x = .Assign l a q ∧ K l a = true := by
  by_cases q : x.ctorIdx = 5
  · revert h
    exact Stmt.Assign.elim (motive_2 := fun x => sAsg x K = true → ∃ l a q, x = .Assign l a q ∧ K l a = true) x q fun l a q h => ⟨l, a, q, rfl, h⟩
  · rw [sAsg, dif_neg q] at h; cases h
noncomputable def sAug (x : Stmt) (K : Expr → Operator → Expr → Bool) : Bool :=
  if h : x.ctorIdx = 7 then Stmt.AugAssign.elim (motive_2 := fun _ => Bool) x h (fun a o b _ => K a o b) else false
theorem sAug_of {x : Stmt} {K : Expr → Operator → Expr → Bool} (h : sAug x K = true) : ∃ a o b q, x = .AugAssign a o b q ∧ K a o b = true := by
  by_cases q : x.ctorIdx = 7
  · revert h
    exact Stmt.AugAssign.elim (motive_2 := fun x => sAug x K = true → ∃ a o b q, x = .AugAssign a o b q ∧ K a o b = true) x q fun a o b q h => ⟨a, o, b, q, rfl, h⟩
  · rw [sAug, dif_neg q] at h; cases h
noncomputable def sFor (x : Stmt) (K : Expr → Expr → List Stmt → List Stmt → Bool) : Bool :=
  if h : x.ctorIdx = 9 then Stmt.For.elim (motive_2 := fun _ => Bool) x h (fun a i b c _ => K a i b c) else false
theorem sFor_of {x : Stmt} {K : Expr → Expr → List Stmt → List Stmt → Bool} (h : sFor x K = true) : ∃ a i b c q, x = .For a i b c q ∧ K a i b c = true := by
  by_cases q : x.ctorIdx = 9
  · revert h
    exact Stmt.For.elim (motive_2 := fun x => sFor x K = true → ∃ a i b c q, x = .For a i b c q ∧ K a i b c = true) x q fun a i b c q h => ⟨a, i, b, c, q, rfl, h⟩
  · rw [sFor, dif_neg q] at h; cases h
noncomputable def sWhile (x : Stmt) (K : Expr → List Stmt → List Stmt → Bool) : Bool :=
  if h : x.ctorIdx = 11 then Stmt.While.elim (motive_2 := fun _ => Bool) x h (fun a b c _ => K a b c) else false
theorem sWhile_of {x : Stmt} {K : Expr → List Stmt → List Stmt → Bool} (h : sWhile x K = true) : ∃ a b c q, x = .While a b c q ∧ K a b c = true := by
  by_cases q : x.ctorIdx = 11
  · revert h
    exact Stmt.While.elim (motive_2 := fun x => sWhile x K = true → ∃ a b c q, x = .While a b c q ∧ K a b c = true) x q fun a b c q h => ⟨a, b, c, q, rfl, h⟩
  · rw [sWhile, dif_neg q] at h; cases h
noncomputable def sIf (x : Stmt) (K : Expr → List Stmt → List Stmt → Bool) : Bool :=
  if h : x.ctorIdx = 12 then Stmt.If.elim (motive_2 := fun _ => Bool) x h (fun a b c _ => K a b c) else false
theorem sIf_of {x : Stmt} {K : Expr → List Stmt → List Stmt → Bool} (h : sIf x K = true) : ∃ a b c q, x = .If a b c q ∧ K a b c = true := by
  by_cases q : x.ctorIdx = 12
  · revert h
    exact Stmt.If.elim (motive_2 := fun x => sIf x K = true → ∃ a b c q, x = .If a b c q ∧ K a b c = true) x q fun a b c q h => ⟨a, b, c, q, rfl, h⟩
  · rw [sIf, dif_neg q] at h; cases h
noncomputable def sRet (x : Stmt) (K : Option Expr → Bool) : Bool :=
  if h : x.ctorIdx = 3 then Stmt.Return.elim (motive_2 := fun _ => Bool) x h (fun a _ => K a) else false
theorem sRet_of {x : Stmt} {K : Option Expr → Bool} (h : sRet x K = true) : ∃ a q, x = .Return a q ∧ K a = true := by
  by_cases q : x.ctorIdx = 3
  · revert h
    exact Stmt.Return.elim (motive_2 := fun x => sRet x K = true → ∃ a q, x = .Return a q ∧ K a = true) x q fun a q h => ⟨a, q, rfl, h⟩
  · rw [sRet, dif_neg q] at h; cases h
noncomputable def sExpr (x : Stmt) (K : Expr → Bool) : Bool :=
  if h : x.ctorIdx = 24 then Stmt.Expr.elim (motive_2 := fun _ => Bool) x h (fun a _ => K a) else false
theorem sExpr_of {x : Stmt} {K : Expr → Bool} (h : sExpr x K = true) : ∃ a q, x = .Expr a q ∧ K a = true := by
  by_cases q : x.ctorIdx = 24
  · revert h
    exact Stmt.Expr.elim (motive_2 := fun x => sExpr x K = true → ∃ a q, x = .Expr a q ∧ K a = true) x q fun a q h => ⟨a, q, rfl, h⟩
  · rw [sExpr, dif_neg q] at h; cases h
noncomputable def sBrk (x : Stmt) (K : Pos → Bool) : Bool :=
  if h : x.ctorIdx = 26 then Stmt.Break.elim (motive_2 := fun _ => Bool) x h (fun q => K q) else false
theorem sBrk_of {x : Stmt} {K : Pos → Bool} (h : sBrk x K = true) : ∃ q, x = .Break q ∧ K q = true := by
  by_cases q : x.ctorIdx = 26
  · revert h
    exact Stmt.Break.elim (motive_2 := fun x => sBrk x K = true → ∃ q, x = .Break q ∧ K q = true) x q fun q h => ⟨q, rfl, h⟩
  · rw [sBrk, dif_neg q] at h; cases h
noncomputable def kInt (x : Const) (K : Int → Bool) : Bool :=
  if h : x.ctorIdx = 2 then Const.int.elim (motive := fun _ => Bool) x h (fun j => K j) else false
theorem kInt_of {x : Const} {K : Int → Bool} (h : kInt x K = true) : ∃ j, x = .int j ∧ K j = true := by
  by_cases q : x.ctorIdx = 2
  · revert h
    exact Const.int.elim (motive := fun x => kInt x K = true → ∃ j, x = .int j ∧ K j = true) x q fun j h => ⟨j, rfl, h⟩
  · rw [kInt, dif_neg q] at h; cases h
noncomputable def kStr (x : Const) (K : Str → Bool) : Bool :=
  if h : x.ctorIdx = 5 then Const.str.elim (motive := fun _ => Bool) x h (fun j => K j) else false
theorem kStr_of {x : Const} {K : Str → Bool} (h : kStr x K = true) : ∃ j, x = .str j ∧ K j = true := by
  by_cases q : x.ctorIdx = 5
  · revert h
    exact Const.str.elim (motive := fun x => kStr x K = true → ∃ j, x = .str j ∧ K j = true) x q fun j h => ⟨j, rfl, h⟩
  · rw [kStr, dif_neg q] at h; cases h
noncomputable def kBool (x : Const) (K : Bool → Bool) : Bool :=
  if h : x.ctorIdx = 1 then Const.bool.elim (motive := fun _ => Bool) x h (fun j => K j) else false
theorem kBool_of {x : Const} {K : Bool → Bool} (h : kBool x K = true) : ∃ j, x = .bool j ∧ K j = true := by
  by_cases q : x.ctorIdx = 1
  · revert h
    exact Const.bool.elim (motive := fun x => kBool x K = true → ∃ j, x = .bool j ∧ K j = true) x q fun j h => ⟨j, rfl, h⟩
  · rw [kBool, dif_neg q] at h; cases h
noncomputable def pNameP (x : Expr) (K : Str → Pos → Bool) : Bool :=
  if h : x.ctorIdx = 23 then Expr.Name.elim (motive_1 := fun _ => Bool) x h (fun t q => K t q) else false
theorem pNameP_of {x : Expr} {K : Str → Pos → Bool} (h : pNameP x K = true) : ∃ t q, x = .Name t q ∧ K t q = true := by
  by_cases q : x.ctorIdx = 23
  · revert h
    exact Expr.Name.elim (motive_1 := fun x => pNameP x K = true → ∃ t q, x = .Name t q ∧ K t q = true) x q fun t q h => ⟨t, q, rfl, h⟩
  · rw [pNameP, dif_neg q] at h; cases h
noncomputable def kNone (x : Const) : Bool := match x with | .none => true | _ => false
theorem kNone_of {x : Const} (h : kNone x = true) : x = .none := by cases x <;> first | rfl | cases h
noncomputable def l0 {β : Type} (l : List β) (b : Bool) : Bool := match l with | [] => b | _ => false
theorem l0_of {β : Type} {l : List β} {b : Bool} (h : l0 l b = true) : l = [] ∧ b = true := by
  cases l
  · exact ⟨rfl, h⟩
  · cases h
noncomputable def l1 {β : Type} (l : List β) (K : β → Bool) : Bool := match l with | [a] => K a | _ => false
theorem l1_of {β : Type} {l : List β} {K : β → Bool} (h : l1 l K = true) : ∃ a, l = [a] ∧ K a = true := by
  match l, h with
  | [a], h => exact ⟨a, rfl, h⟩
noncomputable def l2 {β : Type} (l : List β) (K : β → β → Bool) : Bool := match l with | [a, b] => K a b | _ => false
theorem l2_of {β : Type} {l : List β} {K : β → β → Bool} (h : l2 l K = true) : ∃ a b, l = [a, b] ∧ K a b = true := by
  match l, h with
  | [a, b], h => exact ⟨a, b, rfl, h⟩
noncomputable def o0 {β : Type} (o : Option β) (b : Bool) : Bool := match o with | none => b | _ => false
theorem o0_of {β : Type} {o : Option β} {b : Bool} (h : o0 o b = true) : o = none ∧ b = true := by
  cases o
  · exact ⟨rfl, h⟩
  · cases h
noncomputable def o1 {β : Type} (o : Option β) (K : β → Bool) : Bool := match o with | some a => K a | _ => false
theorem o1_of {β : Type} {o : Option β} {K : β → Bool} (h : o1 o K = true) : ∃ a, o = some a ∧ K a = true := by
  cases o
  · cases h
  · exact ⟨_, rfl, h⟩
noncomputable def uIs (u : UnaryOp) (neg : Bool) (b : Bool) : Bool := match u, neg with | .USub, true => b | .Not, false => b | _, _ => false
theorem uNeg_of {u : UnaryOp} {b : Bool} (h : uIs u true b = true) : u = .USub ∧ b = true := by cases u <;> first | exact ⟨rfl, h⟩ | cases h
theorem uNot_of {u : UnaryOp} {b : Bool} (h : uIs u false b = true) : u = .Not ∧ b = true := by cases u <;> first | exact ⟨rfl, h⟩ | cases h
noncomputable def bIs (u : BoolOp) (and : Bool) (b : Bool) : Bool := match u, and with | .And, true => b | .Or, false => b | _, _ => false
theorem bAnd_of {u : BoolOp} {b : Bool} (h : bIs u true b = true) : u = .And ∧ b = true := by cases u <;> first | exact ⟨rfl, h⟩ | cases h
theorem bOr_of {u : BoolOp} {b : Bool} (h : bIs u false b = true) : u = .Or ∧ b = true := by cases u <;> first | exact ⟨rfl, h⟩ | cases h
noncomputable def gIs (g : Comprehension) (K : Expr → Expr → List Expr → Bool) : Bool := decide (g.is_async = 0) && K g.target g.iter g.ifs
theorem gIs_of {g : Comprehension} {K : Expr → Expr → List Expr → Bool} (h : gIs g K = true) : ∃ a i l, g = ⟨a, i, l, 0⟩ ∧ K a i l = true := by
  obtain ⟨a, i, l, n⟩ := g
  obtain ⟨h1, h2⟩ := Bool.and_eq_true_iff.mp h
  cases of_decide_eq_true h1
  exact ⟨a, i, l, rfl, h2⟩
mutual
noncomputable def E.chk (ns : Ns) : E → Expr → Bool
  | .cint i, x => pConst x fun c => kInt c fun j => decide (i = j)
  | .cneg i, x => pUn x fun u a => uIs u true (pConst a fun c => kInt c fun j => decide (i = j))
  | .cstr k, x => pConst x fun c => kStr c fun t => decide (t = nm k)
  | .cbool b, x => pConst x fun c => kBool c fun d => decide (b = d)
  | .cnone, x => pConst x fun c => kNone c
  | .var v, x => pName x fun t => decide (t = nm v)
  | .bin op l r, x => pBin x fun a o b => decide (op = o) && l.chk ns a && r.chk ns b
  | .cmp op l r, x => pCmp x fun a os bs => l1 os fun o => l1 bs fun b => decide (op = o) && notSet b && l.chk ns a && r.chk ns b
  | .or2 l r, x => pBool x fun u vs => bIs u false (l2 vs fun a b => l.chk ns a && r.chk ns b)
  | .tand l, x => pBool x fun u vs => bIs u true (l.chk ns vs)
  | .tor l, x => pBool x fun u vs => bIs u false (l.chk ns vs)
  | .not e, x => pUn x fun u a => uIs u false (e.chk ns a)
  | .ite t b o, x => pIf x fun t' b' o' => t.chk ns t' && b.chk ns b' && o.chk ns o'
  | .tup l, x => pTup x fun es => decide (l.len ≤ 1000) && es.all notStar && l.chk ns es
  | .lst l, x => pLst x fun es => decide (l.len ≤ 1000) && es.all notStar && l.chk ns es
  | .dctI ks vs, x => pDict x fun keys values => decide (ks.length ≤ 15) && decide (ks.length = vs.len) && keysI ks keys && vs.chk ns values
  | .dctS ks vs, x => pDict x fun keys values => decide (ks.length ≤ 15) && decide (0 < ks.length) && decide (ks.length = vs.len) && keysS ks keys && vs.chk ns values
  | .sub v i, x => pSub x fun a b => notSlice b && v.chk ns a && i.chk ns b
  | .slTo v n, x => pSub x fun a b => pSlice b fun lo hi st => o0 lo (o0 st (o1 hi fun c => pConst c fun c => kInt c fun j => decide ((n : Int) = j) && decide (n ≤ 1000) && isName a && v.chk ns a))
  | .slFrom v n, x => pSub x fun a b => pSlice b fun lo hi st => o0 hi (o0 st (o1 lo fun c => pConst c fun c => kInt c fun j => decide ((n : Int) = j) && decide (n ≤ 1000) && isName a && v.chk ns a))
  | .attr v a, x => pAttr x fun b t _ => decide (t = nm a) && attrL.contains a && isName b && v.chk ns b
  | .call f l, x => pCall x fun g args kw _ => pName g fun t => l0 kw (decide (t = nm f) && globL.contains f && isGlob ns t && args.all notStar && l.chk ns args)
  | .new l, x => pCall x fun g args kw _ => pName g fun t => l0 kw (decide (t = nm 112) && isGlob ns t && args.all notStar && l.chk ns args)
  | .meth o m l, x => pCall x fun g args kw p => pAttr g fun b t ap => l0 kw (decide (t = nm m) && methL.contains m && (ap.endLine == p.line) && isName b && decide (args.length < 20) && args.all notStar && o.chk ns b && l.chk ns args)
  | .bcall f l, x => pCall x fun g args kw _ => pName g fun t => l0 kw (decide (t = f.name) && isGlob ns t && args.all notStar && l.chk ns args)
  | .bmeth o m l, x => pCall x fun g args kw p => pAttr g fun b t ap => l0 kw (decide (t = m.name) && (ap.endLine == p.line) && notCall b && decide (args.length < 20) && args.all notStar && o.chk ns b && l.chk ns args)
  | .comp e v it fv, x => pComp x fun a gs sc => l1 gs fun g => gIs g fun tg i fs => pName tg fun t => l0 fs (decide (t = nm v) && isLoc sc.names t && scopeOk ns sc fv && notSet i && it.chk ns i && e.chk sc.names a)
  | .compIf e v it c fv, x => pComp x fun a gs sc => l1 gs fun g => gIs g fun tg i fs => pName tg fun t => l1 fs fun f => decide (t = nm v) && isLoc sc.names t && scopeOk ns sc fv && notSet i && it.chk ns i && e.chk sc.names a && c.chk sc.names f
  | .comp2 e v w it fv, x => pComp x fun a gs sc => l1 gs fun g => gIs g fun tg i fs => pTup tg fun es => l2 es fun e1 e2 => pName e1 fun t => pName e2 fun u => l0 fs (decide (t = nm v) && decide (u = nm w) && decide (v ≠ w) && isLoc sc.names t && isLoc sc.names u && scopeOk ns sc fv && notSet i && it.chk ns i && e.chk sc.names a)
noncomputable def Es.chk (ns : Ns) : Es → List Expr → Bool
  | .nil, xs => xs.isEmpty
  | .cons e r, xs => match xs with | x :: xs => e.chk ns x && r.chk ns xs | [] => false
end
noncomputable def isCompE : E → Bool
  | .comp .. => true
  | .compIf .. => true
  | .comp2 .. => true
  | _ => false
noncomputable def namesOk (ns : Ns) : List Nat → List Expr → Bool
  | [], [] => true
  | x :: xs, .Name t _ :: r => decide (t = nm x) && isVar ns t && namesOk ns xs r
  | _, _ => false
noncomputable def compLine (t : Str) (p : Pos) (x : Expr) : Bool := match x with
  | .ListComp _ _ sc q => (p.line == q.line) && !(sc.names.any fun (n, k) => n == t && (k == .local || k == .cell))
  | _ => false
mutual
noncomputable def S.chk (ns : Ns) : S → Stmt → Bool
  | .asg v e, x => sAsg x fun l a => l1 l fun tg => pName tg fun t => decide (t = nm v) && isVar ns t && notComp a && e.chk ns a
  | .asgC v e, x => sAsg x fun l a => l1 l fun tg => pNameP tg fun t p => decide (t = nm v) && isLoc ns t && isCompE e && compLine t p a && e.chk ns a
  | .asgT vs e, x => sAsg x fun l a => l1 l fun tg => pTup tg fun ts => namesOk ns vs ts && notComp a && notTuple a && e.chk ns a
  | .asgA o f e, x => sAsg x fun l a => l1 l fun tg => pAttr tg fun b t _ => decide (t = nm f) && attrL.contains f && notComp a && o.chk ns b && e.chk ns a
  | .asgI o i e, x => sAsg x fun l a => l1 l fun tg => pSub tg fun b c => notComp a && notSlice c && o.chk ns b && i.chk ns c && e.chk ns a
  | .aug v op e, x => sAug x fun tg p a => pName tg fun t => decide (t = nm v) && isVar ns t && decide (op = p) && e.chk ns a
  | .augA o f op e, x => sAug x fun tg p a => pAttr tg fun b t _ => decide (t = nm f) && attrL.contains f && decide (op = p) && o.chk ns b && e.chk ns a
  | .for_ v it body, x => sFor x fun tg i b c => l0 c (pName tg fun t => decide (t = nm v) && isVar ns t && notSet i && it.chk ns i && body.chk ns b)
  | .forT vs it body, x => sFor x fun tg i b c => l0 c (pTup tg fun ts => namesOk ns vs ts && notSet i && it.chk ns i && body.chk ns b)
  | .while_ t body, x => sWhile x fun a b c => l0 c (t.chk ns a && body.chk ns b)
  | .if_ t b o, x => sIf x fun t' b' o' => t.chk ns t' && b.chk ns b' && o.chk ns o'
  | .ret e, x => sRet x fun o => o1 o fun a => e.chk ns a
  | .expr e, x => sExpr x fun a => notComp a && e.chk ns a
  | .brk, x => sBrk x fun _ => true
noncomputable def Ss.chk (ns : Ns) : Ss → List Stmt → Bool
  | .nil, xs => xs.isEmpty
  | .cons a r, xs => match xs with | x :: xs => a.chk ns x && r.chk ns xs | [] => false
end
theorem es_nil_of {ns : Ns} {xs : List Expr} (h : Es.chk ns .nil xs = true) : xs = [] := by cases xs <;> first | rfl | cases h
theorem es_cons_of {ns : Ns} {e : E} {r : Es} {xs : List Expr} (h : Es.chk ns (.cons e r) xs = true) : ∃ y ys, xs = y :: ys ∧ (e.chk ns y && r.chk ns ys) = true := by
  cases xs
  · cases h
  · exact ⟨_, _, rfl, h⟩
theorem ss_nil_of {ns : Ns} {xs : List Stmt} (h : Ss.chk ns .nil xs = true) : xs = [] := by cases xs <;> first | rfl | cases h
theorem ss_cons_of {ns : Ns} {e : S} {r : Ss} {xs : List Stmt} (h : Ss.chk ns (.cons e r) xs = true) : ∃ y ys, xs = y :: ys ∧ (e.chk ns y && r.chk ns ys) = true := by
  cases xs
  · cases h
  · exact ⟨_, _, rfl, h⟩

/-! functions -/
structure Fn where
  params : List Nat
  dflt : Bool
  body : Ss
noncomputable def bindP (F : Fn) (ds : List V) : Option Rho :=
  if ds.length = F.params.length then some (F.params.zip ds)
  else if F.dflt = true ∧ ds.length + 1 = F.params.length then some (F.params.zip (ds ++ [.none])) else none
noncomputable def CN (FT : Nat → Option Fn) : Nat → CallT
  | 0 => fun _ _ _ _ => False
  | n + 1 => fun f ds H Q => match FT f with
    | some F => (match bindP F ds with
      | some ρ => F.body.wp (CN FT n) ρ H fun fl _ H' => (match fl with
          | .ret d => Q d H'
          | .next => Q .none H'
          | .brk => False)
      | none => False)
    | none => False

structure FnAt (G : Gl) (a : Addr) (F : Fn) : Prop where
  at_ : ∃ o fd body, G.h0.get? a = some o ∧ o.data = .func fd ∧ fd.body = .stmts body ∧ F.body.chk fd.scope.names body = true ∧ fd.closure = [] ∧ G.h0.CodeRec fd.code fd.qualname ∧
    fd.globals = mainGlobals ∧ fd.builtins = builtinsNs ∧ fd.scope.isCoroutine = false ∧ fd.scope.isGenerator = false ∧ fd.scope.kind = .function ∧
    (∀ x ∈ F.params, isVar fd.scope.names (nm x) = true) ∧ F.params.Nodup ∧ (∀ p ∈ fd.scope.names, p.2 ≠ .free) ∧ (fd.scope.names.map (·.1)).Nodup ∧
    (∀ vs, vs.length = F.params.length → ∀ S, peek G.K S (bindArgs fd ⟨vs, []⟩) = some ((F.params.map nm).zip vs)) ∧
    (F.dflt = true → ∀ vs, vs.length + 1 = F.params.length → ∀ S, peek G.K S (bindArgs fd ⟨vs, []⟩) = some ((F.params.map nm).zip (vs ++ [.none])))
structure Prg (G : Gl) (FT : Nat → Option Fn) : Prop where
  cls : ClsOk G
  glob : ∀ f, globL.contains f = true → ∃ a F, FT f = some F ∧ G.mg (nm f) = some (.ref a) ∧ FnAt G a F
  meth : ∀ m, methL.contains m = true → ∃ a F, FT m = some F ∧ findIn G.K (.ref G.C) (nm m) = some (some (.ref a)) ∧ typeIn G.K (.ref a) = some (.type "function") ∧ FnAt G a F
  init : ∃ a F, FT cInit = some F ∧ findIn G.K (.ref G.C) "__init__" = some (some (.ref a)) ∧ typeIn G.K (.ref a) = some (.type "function") ∧ FnAt G a F
  made : G.mg (nm 112) = some (.ref G.C)
  blt : ∀ b : Bf, G.mg b.name = none ∧ G.mb b.name = some b.val

/-- a call's meaning holds of the code -/
noncomputable def SemC (G : Gl) (FT : Nat → Option Fn) (C : CallT) (k : Nat) : Prop :=
  ∀ f ds H Q, C f ds H Q → ∀ a F, FT f = some F → FnAt G a F → ∀ (A : Around) (α : List Addr) (s : Shared) (vs : List Value) (R : Result → Shared → Prop), AOkW k A → LR G α H s.heap → VRs G α s.heap vs ds →
    (∀ v d α' H' h' tk, Q d H' → Ext G α α s.heap α' h' → LR G α' H' h' → VR G α' h' v d → R (.ok (.ret v)) { s with heap := h', toks := tk }) → codeAny (Mo G) A (.call (.ref a) ⟨vs, []⟩) R s

/-! small facts of the shapes -/
theorem nm_notin {x : Str} (h : x ∉ nmL) (hl : x.cps.size ≠ 1) (k : Nat) : (nm k == x) = false := by
  refine beq_eq_false_iff_ne.mpr fun e => ?_
  unfold nm at e
  split at e
  · rename_i y hy
    exact h (e ▸ List.mem_of_getElem? hy)
  · exact hl (e ▸ rfl)
theorem nm_debug (k : Nat) : (nm k == ("__debug__" : Str)) = false := nm_notin (by decide +kernel) (by decide +kernel) k
theorem nm_cd (k : Nat) : (nm k == ("__classdict__" : Str)) = false := nm_notin (by decide +kernel) (by decide +kernel) k
theorem star_cons {x : Expr} {r : List Expr} {env : Env} (h : notStar x = true) : starEach (x :: r) env = (false, eval x env) :: starEach r env := by
  cases x <;> first | rfl | cases h
theorem assign_cons {x : Expr} {r : List Expr} {env : Env} (h : notStar x = true) : assignEach (x :: r) env = (false, assign x env) :: assignEach r env := by
  cases x <;> first | rfl | cases h
theorem star_any {pos : Pos} {env : Env} : ∀ {l : List Expr}, l.all notStar = true → (backTo pos (starEach l env)).any (·.1) = false
  | [], _ => rfl
  | x :: r, h => by
    rw [List.all_cons, Bool.and_eq_true] at h
    rw [star_cons h.1]
    show (false || (backTo pos (starEach r env)).any (·.1)) = false
    rw [Bool.false_or]; exact star_any h.2
theorem star_all {pos : Pos} {env : Env} : ∀ {l : List Expr}, l.all notStar = true → (backTo pos (starEach l env)).all (!·.1) = true
  | [], _ => rfl
  | x :: r, h => by
    rw [List.all_cons, Bool.and_eq_true] at h
    rw [star_cons h.1]
    show (true && (backTo pos (starEach r env)).all (!·.1)) = true
    rw [Bool.true_and]; exact star_all h.2
theorem fold_set {i : Expr} (h : notSet i = true) {env : Env} : ∀ x, foldedSetIterable i env x = pure x := by
  intro x; cases i <;> first | rfl | cases h
theorem marks_set {op : CmpOp} {i : Expr} (h : notSet i = true) : behindInMarks op i = false := by
  cases i <;> first | rfl | cases h
theorem base_notCall {o : Expr} {n : Str} {env : Env} {t : Sem Value} (h : notCall o = true) : attributeBase o n env t = t := by
  cases o <;> first | rfl | cases h
theorem name_notCall {o : Expr} (h : isName o = true) : notCall o = true := by
  obtain ⟨t, q, rfl⟩ := isName_of h; rfl
theorem go_name {b : Expr} (h : isName b = true) (o r : Value) : letTemporaryGo b o r = pure () := by
  obtain ⟨t, q, rfl⟩ := isName_of h; rfl
theorem swap_no {e : Expr} (h : notComp e = true) {t : Option Expr} {n : Nat} {env : Env} : swapsWith e t n env = pure false := by
  cases e <;> first | rfl | cases h
theorem swapped_no {e : Expr} (h : notTuple e = true) {t : List Expr} {k : Nat} {p : Pos} {env : Env} : swappedStores [.Tuple t k p] e env = pure none := by
  cases e <;> first | rfl | cases h
end Mine

namespace Mine
open PySem PySem.W PyProof.Rows PySem.SeqAt

structure NsOk (ns : Ns) (env : Env) : Prop where
  same : ∀ x k, ns.lookup x = some k → k ≠ .free → env.kindOf x = some k
  free : ∀ x, ns.lookup x = some .free → env.kindOf x = some .free ∨ env.kindOf x = some .cell

noncomputable def EOk (G : Gl) (C : CallT) (k : Nat) (e : E) : Prop :=
  ∀ {ns : Ns} {x : Expr} {env : Env} {ρ : Rho} {H : Hp} {α : List Addr} {s : Shared} {A : Around} {Q : PV},
    e.chk ns x = true → NsOk ns env → AOk k A → FR G env α ρ s.heap → LR G α H s.heap → e.wp C ρ H Q → Tr G (VR G) A α (eval x env) Q s
abbrev RVs (G : Gl) (n : Nat) : List Addr → Heap → List Value → List V → Prop := fun α h vs ds => VRs G α h vs ds ∧ vs.length = n
noncomputable def EsOk (G : Gl) (C : CallT) (k : Nat) (l : Es) : Prop :=
  ∀ {ns : Ns} {xs : List Expr} {env : Env} {ρ : Rho} {H : Hp} {α : List Addr} {s : Shared} {A : Around} {pos : Pos} {Q : List V → Hp → Prop},
    l.chk ns xs = true → xs.all notStar = true → NsOk ns env → AOk k A → FR G env α ρ s.heap → LR G α H s.heap → l.wp C ρ H Q → Tr G (RVs G xs.length) A α (spliced (backTo pos (starEach xs env))) Q s
noncomputable def EOkT (G : Gl) (C : CallT) (k : Nat) (e : E) : Prop :=
  ∀ {ns : Ns} {x : Expr} {env : Env} {ρ : Rho} {H : Hp} {α : List Addr} {s : Shared} {A : Around} {K : Bool → Hp → Prop},
    e.chk ns x = true → NsOk ns env → AOk k A → FR G env α ρ s.heap → LR G α H s.heap → e.wt C ρ H K → Tr G RB A α (isTrue x env (eval x env)) K s
noncomputable def EsOkA (G : Gl) (C : CallT) (k : Nat) (l : Es) : Prop :=
  ∀ {ns : Ns} {xs : List Expr} {env : Env} {ρ : Rho} {H : Hp} {α : List Addr} {s : Shared} {A : Around} {K : Bool → Hp → Prop},
    l.chk ns xs = true → NsOk ns env → AOk k A → FR G env α ρ s.heap → LR G α H s.heap → l.wand C ρ H K → Tr G RB A α (allTrue .And xs env) K s
noncomputable def EsOkO (G : Gl) (C : CallT) (k : Nat) (l : Es) : Prop :=
  ∀ {ns : Ns} {xs : List Expr} {env : Env} {ρ : Rho} {H : Hp} {α : List Addr} {s : Shared} {A : Around} {K : Bool → Hp → Prop},
    l.chk ns xs = true → NsOk ns env → AOk k A → FR G env α ρ s.heap → LR G α H s.heap → l.wor C ρ H K → Tr G RB A α (allTrue .Or xs env) K s

theorem and2 {a b : Bool} (h : (a && b) = true) : a = true ∧ b = true := Bool.and_eq_true_iff.mp h

section
variable {G : Gl} {C : CallT} {k : Nat}

/-! the leaves -/
theorem ok_cint {i : Int} : EOk G C k (.cint i) := by
  intro ns x env ρ H α s A Q hc hn hA F l h
  obtain ⟨_, _, _, rfl, hc⟩ := pConst_of hc
  obtain ⟨_, rfl, hc⟩ := kInt_of hc
  · cases of_decide_eq_true hc
    exact Tr.tok h l fun R E hR => wpAny_Constant_int (hR _ _ (.int _ _))
theorem ok_cneg {i : Int} : EOk G C k (.cneg i) := by
  intro ns x env ρ H α s A Q hc hn hA F l h
  obtain ⟨_, _, _, rfl, hc⟩ := pUn_of hc
  obtain ⟨rfl, hc⟩ := uNeg_of hc
  obtain ⟨_, _, _, rfl, hc⟩ := pConst_of hc
  obtain ⟨_, rfl, hc⟩ := kInt_of hc
  · cases of_decide_eq_true hc
    exact Tr.tok h l fun R E hR => wpAny_UnaryOp (wpAny_Constant_int (PyProof.Rows.neg_int (hR _ _ (.int _ _))))
theorem ok_cstr {i : Nat} : EOk G C k (.cstr i) := by
  intro ns x env ρ H α s A Q hc hn hA F l h
  obtain ⟨_, _, _, rfl, hc⟩ := pConst_of hc
  obtain ⟨_, rfl, hc⟩ := kStr_of hc
  · cases of_decide_eq_true hc
    exact Tr.tok h l fun R E hR => wpAny_Constant_str (hR _ _ (.str _ _))
theorem ok_cbool {b : Bool} : EOk G C k (.cbool b) := by
  intro ns x env ρ H α s A Q hc hn hA F l h
  obtain ⟨_, _, _, rfl, hc⟩ := pConst_of hc
  obtain ⟨_, rfl, hc⟩ := kBool_of hc
  · cases of_decide_eq_true hc
    exact Tr.tok h l fun R E hR => wpAny_Constant_bool (hR _ s.toks (.bool _))
theorem ok_cnone : EOk G C k .cnone := by
  intro ns x env ρ H α s A Q hc hn hA F l h
  obtain ⟨_, _, _, rfl, hc⟩ := pConst_of hc
  cases kNone_of hc
  · exact Tr.tok h l fun R E hR => wpAny_Constant_none (hR _ s.toks .none)
theorem ok_var {v : Nat} : EOk G C k (.var v) := by
  intro ns x env ρ H α s A Q hc hn hA F l h
  obtain ⟨_, _, rfl, hc⟩ := pName_of hc
  · cases of_decide_eq_true hc
    obtain ⟨d, hd, h⟩ := onSome_of h
    exact Tr.tok h l fun R E hR => F.load hd (nm_debug _) (nm_cd _) fun v r => hR v s.toks r

/-! two in a row -/
theorem ok_bin {op : Operator} {a b : E} (ha : EOk G C k a) (hb : EOk G C k b) : EOk G C k (.bin op a b) := by
  intro ns x env ρ H α s A Q hc hn hA F l h
  obtain ⟨_, _, _, _, rfl, hc⟩ := pBin_of hc
  · obtain ⟨hc, h3⟩ := and2 hc
    obtain ⟨h1, h2⟩ := and2 hc
    cases of_decide_eq_true h1
    dsimp only [wE_bin] at h
    intro R E hR
    refine wpAny_BinOp (ha h2 hn hA F l h _ E fun v d α₁ H₁ h₁ tk₁ hq₁ x₁ l₁ r₁ => ?_)
    refine hb h3 hn hA (F.ext x₁) l₁ hq₁ _ E fun w d₂ α₂ H₂ h₂ tk₂ hq₂ x₂ l₂ r₂ => ?_
    refine bin_ok l₂ (r₁.ext x₂) r₂ hq₂ _ E fun u d₃ α₃ H₃ h₃ tk₃ hq₃ x₃ l₃ r₃ => ?_
    exact hR u d₃ α₃ H₃ h₃ tk₃ hq₃ ((x₁.then x₂).then x₃) l₃ r₃
theorem ok_cmp {op : CmpOp} {a b : E} (ha : EOk G C k a) (hb : EOk G C k b) : EOk G C k (.cmp op a b) := by
  intro ns x env ρ H α s A Q hc hn hA F l h
  obtain ⟨_, _, _, _, rfl, hc⟩ := pCmp_of hc
  obtain ⟨_, rfl, hc⟩ := l1_of hc
  obtain ⟨_, rfl, hc⟩ := l1_of hc
  · obtain ⟨hc, h3⟩ := and2 hc
    obtain ⟨hc, h2⟩ := and2 hc
    obtain ⟨h1, hs⟩ := and2 hc
    cases of_decide_eq_true h1
    dsimp only [wE_cmp] at h
    intro R E hR
    refine wpAny_Compare1 (ha h2 hn hA F l h _ E fun v d α₁ H₁ h₁ tk₁ hq₁ x₁ l₁ r₁ => ?_) (marks_set hs)
    refine hb h3 hn hA (F.ext x₁) l₁ hq₁ _ E fun w d₂ α₂ H₂ h₂ tk₂ hq₂ x₂ l₂ r₂ => ?_
    refine cmp_ok (fun _ q => q) hA l₂ (r₁.ext x₂) r₂ hq₂ _ E fun u d₃ α₃ H₃ h₃ tk₃ hq₃ x₃ l₃ r₃ => ?_
    exact hR u d₃ α₃ H₃ h₃ tk₃ hq₃ ((x₁.then x₂).then x₃) l₃ r₃
theorem ok_or2 {a b : E} (ha : EOk G C k a) (hb : EOk G C k b) : EOk G C k (.or2 a b) := by
  intro ns x env ρ H α s A Q hc hn hA F l h
  obtain ⟨_, _, _, rfl, hc⟩ := pBool_of hc
  obtain ⟨rfl, hc⟩ := bOr_of hc
  obtain ⟨_, _, rfl, hc⟩ := l2_of hc
  · obtain ⟨h2, h3⟩ := and2 hc
    dsimp only [wE_or2] at h
    intro R E hR
    refine wpAny_Or2 (ha h2 hn hA F l h _ E fun v d α₁ H₁ h₁ tk₁ hq₁ x₁ l₁ r₁ => ?_)
    refine truth_raw r₁ hq₁ fun t tk ht => ?_
    cases t with
    | true => exact hR _ _ _ _ _ tk (ht.1 rfl) x₁ l₁ r₁
    | false =>
      refine hb h3 hn hA (F.ext x₁) l₁ (ht.2 rfl) _ E fun w d₂ α₂ H₂ h₂ tk₂ hq₂ x₂ l₂ r₂ => ?_
      exact hR w d₂ α₂ H₂ h₂ tk₂ hq₂ (x₁.then x₂) l₂ r₂
theorem ok_ite {t a b : E} (ht : EOkT G C k t) (ha : EOk G C k a) (hb : EOk G C k b) : EOk G C k (.ite t a b) := by
  intro ns x env ρ H α s A Q hc hn hA F l h
  obtain ⟨_, _, _, _, rfl, hc⟩ := pIf_of hc
  · obtain ⟨hc, h3⟩ := and2 hc
    obtain ⟨h1, h2⟩ := and2 hc
    dsimp only [wE_ite] at h
    intro R E hR
    refine wpAny_IfExp (ht h1 hn hA F l h _ E fun v d α₁ H₁ h₁ tk₁ hq₁ x₁ l₁ r₁ => ?_)
    cases r₁
    cases v with
    | true => exact ha h2 hn hA (F.ext x₁) l₁ (hq₁.1 rfl) _ E fun w d₂ α₂ H₂ h₂ tk₂ hq₂ x₂ l₂ r₂ => hR w d₂ α₂ H₂ h₂ tk₂ hq₂ (x₁.then x₂) l₂ r₂
    | false => exact hb h3 hn hA (F.ext x₁) l₁ (hq₁.2 rfl) _ E fun w d₂ α₂ H₂ h₂ tk₂ hq₂ x₂ l₂ r₂ => hR w d₂ α₂ H₂ h₂ tk₂ hq₂ (x₁.then x₂) l₂ r₂

/-! rows of expressions -/
theorem oks_nil : EsOk G C k .nil := by
  intro ns xs env ρ H α s A pos Q hc hst hn hA F l h
  cases es_nil_of hc
  · exact fun R E hR => wpAny_items_nil (hR _ _ _ _ _ s.toks h .refl l ⟨.nil, rfl⟩)
theorem oks_cons {e : E} {r : Es} (he : EOk G C k e) (hr : EsOk G C k r) : EsOk G C k (.cons e r) := by
  intro ns xs env ρ H α s A pos Q hc hst hn hA F l h
  obtain ⟨_, _, rfl, hc⟩ := es_cons_of hc
  · obtain ⟨h2, h3⟩ := and2 hc
    obtain ⟨hs1, hs2⟩ := and2 (List.all_cons ▸ hst)
    dsimp only [wL_cons] at h
    intro R E hR
    refine wpAny_items_cons (he h2 hn hA F l h _ E fun v d α₁ H₁ h₁ tk₁ hq₁ x₁ l₁ r₁ => ?_) (star_cons hs1)
    refine hr h3 hs2 hn hA (F.ext x₁) l₁ hq₁ _ E fun vs ds α₂ H₂ h₂ tk₂ hq₂ x₂ l₂ r₂ => ?_
    exact hR _ (d :: ds) α₂ H₂ h₂ tk₂ hq₂ (x₁.then x₂) l₂ ⟨.cons (r₁.ext x₂) r₂.1, by simp [r₂.2]⟩
theorem okA_nil : EsOkA G C k .nil := by
  intro ns xs env ρ H α s A K hc hn hA F l h
  cases es_nil_of hc
  · exact fun R E hR => wpAny_allTrue_And_nil (hR _ _ _ _ _ s.toks h .refl l rfl)
theorem okA_cons {e : E} {r : Es} (he : EOkT G C k e) (hr : EsOkA G C k r) : EsOkA G C k (.cons e r) := by
  intro ns xs env ρ H α s A K hc hn hA F l h
  obtain ⟨_, _, rfl, hc⟩ := es_cons_of hc
  · obtain ⟨h2, h3⟩ := and2 hc
    dsimp only [wA_cons] at h
    intro R E hR
    refine wpAny_allTrue_And_cons (he h2 hn hA F l h _ E fun v d α₁ H₁ h₁ tk₁ hq₁ x₁ l₁ r₁ => ?_)
    cases r₁
    cases v with
    | true => exact hr h3 hn hA (F.ext x₁) l₁ (hq₁.1 rfl) _ E fun w d₂ α₂ H₂ h₂ tk₂ hq₂ x₂ l₂ r₂ => hR w d₂ α₂ H₂ h₂ tk₂ hq₂ (x₁.then x₂) l₂ r₂
    | false => exact hR _ _ _ _ _ tk₁ (hq₁.2 rfl) x₁ l₁ rfl
theorem okO_nil : EsOkO G C k .nil := by
  intro ns xs env ρ H α s A K hc hn hA F l h
  cases es_nil_of hc
  · exact fun R E hR => wpAny_allTrue_Or_nil (hR _ _ _ _ _ s.toks h .refl l rfl)
theorem okO_cons {e : E} {r : Es} (he : EOkT G C k e) (hr : EsOkO G C k r) : EsOkO G C k (.cons e r) := by
  intro ns xs env ρ H α s A K hc hn hA F l h
  obtain ⟨_, _, rfl, hc⟩ := es_cons_of hc
  · obtain ⟨h2, h3⟩ := and2 hc
    dsimp only [wO_cons] at h
    intro R E hR
    refine wpAny_allTrue_Or_cons (he h2 hn hA F l h _ E fun v d α₁ H₁ h₁ tk₁ hq₁ x₁ l₁ r₁ => ?_)
    cases r₁
    cases v with
    | true => exact hR _ _ _ _ _ tk₁ (hq₁.1 rfl) x₁ l₁ rfl
    | false => exact hr h3 hn hA (F.ext x₁) l₁ (hq₁.2 rfl) _ E fun w d₂ α₂ H₂ h₂ tk₂ hq₂ x₂ l₂ r₂ => hR w d₂ α₂ H₂ h₂ tk₂ hq₂ (x₁.then x₂) l₂ r₂

/-! tests -/
theorem okT_not {e : E} (he : EOkT G C k e) : EOkT G C k (.not e) := by
  intro ns x env ρ H α s A K hc hn hA F l h
  obtain ⟨_, _, _, rfl, hc⟩ := pUn_of hc
  obtain ⟨rfl, hc⟩ := uNot_of hc
  · dsimp only [wT_not] at h
    intro R E hR
    exact wpAny_isTrue_Not (he hc hn hA F l h _ E fun v d α₁ H₁ h₁ tk₁ hq₁ x₁ l₁ r₁ => by cases r₁; exact hR _ _ _ _ _ tk₁ hq₁ x₁ l₁ rfl)
theorem okT_tand {r : Es} (hr : EsOkA G C k r) : EOkT G C k (.tand r) := by
  intro ns x env ρ H α s A K hc hn hA F l h
  obtain ⟨_, _, _, rfl, hc⟩ := pBool_of hc
  obtain ⟨rfl, hc⟩ := bAnd_of hc
  · dsimp only [wT_tand] at h
    exact fun R E hR => wpAny_isTrue_BoolOp (hr hc hn hA F l h R E hR)
theorem okT_tor {r : Es} (hr : EsOkO G C k r) : EOkT G C k (.tor r) := by
  intro ns x env ρ H α s A K hc hn hA F l h
  obtain ⟨_, _, _, rfl, hc⟩ := pBool_of hc
  obtain ⟨rfl, hc⟩ := bOr_of hc
  · dsimp only [wT_tor] at h
    exact fun R E hR => wpAny_isTrue_BoolOp (hr hc hn hA F l h R E hR)
theorem okT_cmp {op : CmpOp} {a b : E} (ha : EOk G C k a) (hb : EOk G C k b) : EOkT G C k (.cmp op a b) := by
  intro ns x env ρ H α s A Q hc hn hA F l h
  obtain ⟨_, _, _, _, rfl, hc⟩ := pCmp_of hc
  obtain ⟨_, rfl, hc⟩ := l1_of hc
  obtain ⟨_, rfl, hc⟩ := l1_of hc
  · obtain ⟨hc, h3⟩ := and2 hc
    obtain ⟨hc, h2⟩ := and2 hc
    obtain ⟨h1, hs⟩ := and2 hc
    cases of_decide_eq_true h1
    dsimp only [wT_cmp] at h
    intro R E hR
    refine wpAny_isTrue_Compare1 (ha h2 hn hA F l h _ E fun v d α₁ H₁ h₁ tk₁ hq₁ x₁ l₁ r₁ => ?_) (marks_set hs)
    refine hb h3 hn hA (F.ext x₁) l₁ hq₁ _ E fun w d₂ α₂ H₂ h₂ tk₂ hq₂ x₂ l₂ r₂ => ?_
    refine cmp_ok (Q := fun d H => ∃ c, d = .bool c ∧ Q c H₂ ∧ H = H₂) (fun c hc => ⟨c, rfl, hc, rfl⟩) hA l₂ (r₁.ext x₂) r₂ hq₂ _ E fun u d₃ α₃ H₃ h₃ tk₃ hq₃ x₃ l₃ r₃ => ?_
    · obtain ⟨c, rfl, hq₃, rfl⟩ := hq₃
      cases r₃
      exact wpAny_truthy_bool (hR _ _ _ _ _ _ hq₃ ((x₁.then x₂).then x₃) l₃ rfl)
end
end Mine

namespace Mine
open PySem PySem.W PyProof.Rows PySem.SeqAt

section
variable {G : Gl} {C : CallT} {k : Nat} {FT : Nat → Option Fn}

theorem chk_len {ns : Ns} : ∀ {l : Es} {xs : List Expr}, l.chk ns xs = true → xs.length = l.len
  | .nil, xs, h => by cases es_nil_of h; rfl
  | .cons e r, xs, h => by
    obtain ⟨_, _, rfl, h⟩ := es_cons_of h
    exact congrArg (· + 1) (chk_len (and2 h).2)

/-- a value's test, where the tree is one that has no test of its own -/
theorem okT_of {e : E} (he : EOk G C k e) (hw : ∀ {ρ H K}, e.wt C ρ H K → e.wp C ρ H fun d H' => truthW d fun b => K b H')
    (hx : ∀ {ns x env} {whole : Sem Value}, e.chk ns x = true → isTrue x env whole = (do let v ← whole; standAt x.pos; holding [v] (truthy v))) : EOkT G C k e := by
  intro ns x env ρ H α s A K hc hn hA F l h
  intro R E hR
  refine wpAny_isTrue_value (he hc hn hA F l (hw h) _ E fun v d α₁ H₁ h₁ tk₁ hq₁ x₁ l₁ r₁ => ?_) (hx hc)
  exact truth_raw r₁ hq₁ fun b tk hb => hR _ _ _ _ _ tk hb x₁ l₁ rfl
theorem okT_var {v : Nat} : EOkT G C k (.var v) := okT_of ok_var (fun h => h) (fun h => by obtain ⟨_, _, rfl, _⟩ := pName_of h; rfl)
theorem okT_bin {op : Operator} {a b : E} (ha : EOk G C k a) (hb : EOk G C k b) : EOkT G C k (.bin op a b) := okT_of (ok_bin ha hb) (fun h => h) (fun h => by obtain ⟨_, _, _, _, rfl, _⟩ := pBin_of h; rfl)

theorem ok_tup {r : Es} (hr : EsOk G C k r) : EOk G C k (.tup r) := by
  intro ns x env ρ H α s A Q hc hn hA F l h
  obtain ⟨_, _, _, rfl, hc⟩ := pTup_of hc
  · obtain ⟨hc, h3⟩ := and2 hc
    obtain ⟨h1, h2⟩ := and2 hc
    have hl := of_decide_eq_true h1
    dsimp only [wE_tup] at h
    intro R E hR
    refine wpAny_Tuple (hr h3 h2 hn hA F l h _ E fun vs ds α₁ H₁ h₁ tk₁ hq₁ x₁ l₁ r₁ => ⟨?_, ?_⟩)
    · rw [r₁.2, chk_len h3, sizeLine_eq]; omega
    · have hk : ∀ b o, h₁.get? b = some o → (h₁.push { cls := .type "tuple", data := .seq vs.toArray }).get? b = some o := fun b o e => pushed b o e
      exact hR _ _ _ _ _ tk₁ hq₁ (x₁.then (.of_keeps hk)) (l₁.all hk) (.tup (Heap.get?_push_size _ rfl) (r₁.1.mono (fun _ _ e => e) fun b o e _ => hk b o e))
theorem size_ge (h : Heap) {G : Gl} : h.objs.size ≤ h.objs.size ∨ (h.get? h.objs.size = none ∧ G.h0.get? h.objs.size = none ∧ mainGlobals < h.objs.size) := .inl (Nat.le_refl _)
theorem VR.here {α : List Addr} {H : Hp} {h h' : Heap} {a : Addr} (l : LR G α H h) : VR G (α ++ [a]) h' (.ref a) (.ref H.length) :=
  .ref (by rw [← l.len, List.getElem?_append_right (Nat.le_refl _), Nat.sub_self]; rfl)
theorem ok_lst {r : Es} (hr : EsOk G C k r) : EOk G C k (.lst r) := by
  intro ns x env ρ H α s A Q hc hn hA F l h
  obtain ⟨_, _, rfl, hc⟩ := pLst_of hc
  · obtain ⟨hc, h3⟩ := and2 hc
    obtain ⟨h1, h2⟩ := and2 hc
    have hl := of_decide_eq_true h1
    dsimp only [wE_lst] at h
    intro R E hR
    refine wpAny_List (hr h3 h2 hn hA F l h _ E fun vs ds α₁ H₁ h₁ tk₁ hq₁ x₁ l₁ r₁ => ⟨?_, ?_⟩)
    · rw [r₁.2, chk_len h3, sizeLine_eq]; omega
    · have hk : ∀ b o, h₁.get? b = some o → (h₁.push { cls := .type "list", data := .seq vs.toArray }).get? b = some o := fun b o e => pushed b o e
      exact hR _ _ _ _ _ tk₁ hq₁ (x₁.then (.newL hk (fresh_at _))) (l₁.new hk (size_ge _) (list_new (s := { s with heap := h₁, toks := tk₁ }) r₁.1 hk (Heap.get?_push_size _ rfl))) (.here l₁)

theorem ok_sub {a b : E} (ha : EOk G C k a) (hb : EOk G C k b) : EOk G C k (.sub a b) := by
  intro ns x env ρ H α s A Q hc hn hA F l h
  obtain ⟨_, _, _, rfl, hc⟩ := pSub_of hc
  · obtain ⟨hc, h3⟩ := and2 hc
    obtain ⟨h1, h2⟩ := and2 hc
    dsimp only [wE_sub] at h
    intro R E hR
    refine Subscript_ (ha h2 hn hA F l h _ E fun v d α₁ H₁ h₁ tk₁ hq₁ x₁ l₁ r₁ => ?_)
    refine hb h3 hn hA (F.ext x₁) l₁ hq₁ _ E fun w d₂ α₂ H₂ h₂ tk₂ hq₂ x₂ l₂ r₂ => ?_
    refine sub_ok h1 l₂ (r₁.ext x₂) r₂ hq₂ _ E fun u d₃ α₃ H₃ h₃ tk₃ hq₃ x₃ l₃ r₃ => ?_
    exact hR u d₃ α₃ H₃ h₃ tk₃ hq₃ ((x₁.then x₂).then x₃) l₃ r₃
theorem okT_sub {a b : E} (ha : EOk G C k a) (hb : EOk G C k b) : EOkT G C k (.sub a b) := okT_of (ok_sub ha hb) (fun h => h) (fun h => by obtain ⟨_, _, _, rfl, _⟩ := pSub_of h; rfl)

theorem slice_list {α : List Addr} {s : Shared} {H : Hp} {A : Around} {value : Expr} {env : Env} {lower upper : Option Expr} {p pos : Pos} {P Q : PV} {e : E} {ρ : Rho} {ns : Ns}
    (he : EOk G C k e) (hc : e.chk ns value = true) (hN : isName value = true) (hn : NsOk ns env) (hA : AOk k A) (F : FR G env α ρ s.heap) (l : LR G α H s.heap) (g : List Value → List Value) (gv : List V → List V) (lo hi : Option Int)
    (hg : ∀ vs : List Value, slicePick vs.toArray lo hi none = (g vs).toArray) (hgr : ∀ {α h vs ds}, VRs G α h vs ds → VRs G α h (g vs) (gv ds))
    (hlo : ∀ (M : Model) (s : Shared) (R : Value → Shared → Prop) E, (∀ v tk, IsPart v lo → R v { s with toks := tk }) → wpAny M A (evalPart lower env) R E s)
    (hhi : ∀ (M : Model) (s : Shared) (R : Value → Shared → Prop) E, (∀ v tk, IsPart v hi → R v { s with toks := tk }) → wpAny M A (evalPart upper env) R E s)
    (h : e.wp C ρ H P) (hP : ∀ d H₁, P d H₁ → (∃ i l, d = .ref i ∧ H₁[i]? = some (.list l) ∧ l.length ≤ 10000 ∧ Q (.ref H₁.length) (H₁ ++ [.list (gv l)])) ∨
      ∃ ns, d = .frz ns ∧ ns.length ≤ 10000 ∧ Q (.ref H₁.length) (H₁ ++ [.list (gv (ns.map V.int))])) : Tr G (VR G) A α (eval (.Subscript value (.Slice lower upper none p) pos) env) Q s := by
  intro R E hR
  refine wpAny_Subscript_list_slice (he hc hn hA F l h _ E fun v d α₁ H₁ h₁ tk₁ hq₁ x₁ l₁ r₁ => ?_) (go_name hN)
  refine hlo _ _ _ _ fun vl tk₂ pl => hhi _ _ _ _ fun vu tk₃ pu => ?_
  have fin : ∀ (vs : List Value) (ds : List V) (a : Addr), h₁.IsList a vs.toArray → v = .ref a → VRs G α₁ h₁ vs ds → ds.length ≤ 10000 → Q (.ref H₁.length) (H₁ ++ [.list (gv ds)]) →
      ∃ l items lo hi, v = .ref l ∧ h₁.IsList l items ∧ items.size ≤ sizeLine ∧ IsPart vl lo ∧ IsPart vu hi ∧
        R (.ref (h₁.objs.size + 1)) { s with heap := (h₁.push { cls := .type "slice", data := .fields #[vl, vu, .none] }).push { cls := .type "list", data := .seq (slicePick items lo hi none) }, toks := tk₃ } := by
    intro vs ds a ha hv rs hz hq
    have hlen := rs.length
    refine ⟨a, vs.toArray, lo, hi, hv, ha, by rw [sizeLine_eq, List.size_toArray]; omega, pl, pu, ?_⟩
    rw [hg]
    have hk : ∀ b o, h₁.get? b = some o → ((h₁.push { cls := .type "slice", data := .fields #[vl, vu, .none] }).push { cls := .type "list", data := .seq (g vs).toArray }).get? b = some o := fun b o e => pushed b o (pushed b o e)
    have hsz : (h₁.push { cls := .type "slice", data := .fields #[vl, vu, .none] }).objs.size = h₁.objs.size + 1 := Heap.size_push ..
    have hl : ((h₁.push { cls := .type "slice", data := .fields #[vl, vu, .none] }).push { cls := .type "list", data := .seq (g vs).toArray }).get? (h₁.objs.size + 1) = some { cls := .type "list", dict := none, data := .seq (g vs).toArray, slots := #[] } := by
      rw [← hsz]; exact Heap.get?_push_size _ rfl
    have ha : h₁.get? (h₁.objs.size + 1) = none := by
      cases e : h₁.get? (h₁.objs.size + 1) with
      | none => rfl
      | some o => exact absurd (Heap.lt_size e) (Nat.not_lt.mpr (Nat.le_succ _))
    exact hR _ _ _ _ _ _ hq (x₁.then (.newL hk ha)) (l₁.new hk (.inl (Nat.le_succ _)) (list_new (s := { s with heap := h₁, toks := tk₁ }) (hgr rs) hk hl)) (.here l₁)
  rcases hP _ _ hq₁ with ⟨i, ds, rfl, hd, hz, hq⟩ | ⟨ns, rfl, hz, hq⟩
  · cases r₁ with | ref ea =>
    obtain ⟨vs, n, eo, rs⟩ := l₁.obj _ _ _ ea hd
    exact fin vs ds _ ⟨_, eo, rfl, _, rfl⟩ rfl rs hz hq
  · cases r₁ with | frz hl hi =>
    obtain ⟨o, eo, rest⟩ := hl
    exact fin _ _ _ ⟨o, l₁.base _ _ eo, rest⟩ rfl (VRs.ints hi) (by simpa using hz) hq
theorem part_none {A : Around} {env : Env} (M : Model) (s : Shared) (R : Value → Shared → Prop) (E) (h : ∀ v tk, IsPart v none → R v { s with toks := tk }) : wpAny M A (evalPart none env) R E s := by
  rw [evalPart_none]; exact wpAny_pure (h _ s.toks .none)
theorem part_int {A : Around} {env : Env} {i : Int} {kd pos} (M : Model) (s : Shared) (R : Value → Shared → Prop) (E) (h : ∀ v tk, IsPart v (some i) → R v { s with toks := tk }) : wpAny M A (evalPart (some (.Constant (.int i) kd pos)) env) R E s :=
  wpAny_Constant_int (k := kd) (pos := pos) (h _ _ (.int _ _))
theorem ok_slTo {a : E} {n : Nat} (ha : EOk G C k a) : EOk G C k (.slTo a n) := by
  intro ns x env ρ H α s A Q hc hn hA F l h
  obtain ⟨_, _, _, rfl, hc⟩ := pSub_of hc
  obtain ⟨_, _, _, _, rfl, hc⟩ := pSlice_of hc
  obtain ⟨rfl, hc⟩ := o0_of hc
  obtain ⟨rfl, hc⟩ := o0_of hc
  obtain ⟨_, rfl, hc⟩ := o1_of hc
  obtain ⟨_, _, _, rfl, hc⟩ := pConst_of hc
  obtain ⟨_, rfl, hc⟩ := kInt_of hc
  · obtain ⟨hc, h4⟩ := and2 hc
    obtain ⟨hc, h3⟩ := and2 hc
    obtain ⟨h1, h2⟩ := and2 hc
    cases of_decide_eq_true h1
    dsimp only [wE_slTo] at h
    refine slice_list ha h4 h3 hn hA F l (List.take n) (List.take n) none (some (n : Int)) (fun vs => by rw [slicePick_upto']) (fun r => r.take n)
      part_none part_int h fun d H₁ hq => ?_
    rcases hq with hq | ⟨ns, rfl, h5, h6⟩
    · obtain ⟨i, rfl, hq⟩ := onRef_is hq
      obtain ⟨ds, hd, hq⟩ := onList_is hq
      exact .inl ⟨_, _, rfl, hd, hq⟩
    · exact .inr ⟨_, rfl, h5, by rw [← List.map_take]; exact h6⟩
theorem ok_slFrom {a : E} {n : Nat} (ha : EOk G C k a) : EOk G C k (.slFrom a n) := by
  intro ns x env ρ H α s A Q hc hn hA F l h
  obtain ⟨_, _, _, rfl, hc⟩ := pSub_of hc
  obtain ⟨_, _, _, _, rfl, hc⟩ := pSlice_of hc
  obtain ⟨rfl, hc⟩ := o0_of hc
  obtain ⟨rfl, hc⟩ := o0_of hc
  obtain ⟨_, rfl, hc⟩ := o1_of hc
  obtain ⟨_, _, _, rfl, hc⟩ := pConst_of hc
  obtain ⟨_, rfl, hc⟩ := kInt_of hc
  · obtain ⟨hc, h4⟩ := and2 hc
    obtain ⟨hc, h3⟩ := and2 hc
    obtain ⟨h1, h2⟩ := and2 hc
    cases of_decide_eq_true h1
    dsimp only [wE_slFrom] at h
    refine slice_list ha h4 h3 hn hA F l (List.drop n) (List.drop n) (some (n : Int)) none (fun vs => by rw [slicePick_from']) (fun r => r.drop n)
      part_int part_none h fun d H₁ hq => ?_
    obtain ⟨i, rfl, hq⟩ := onRef_is hq
    obtain ⟨ds, hd, hq⟩ := onList_is hq
    exact .inl ⟨_, _, rfl, hd, hq⟩
end
end Mine

namespace Mine
open PySem PySem.W PyProof.Rows PySem.SeqAt

section
variable {G : Gl} {C : CallT} {k : Nat} {FT : Nat → Option Fn}

theorem ok_attr {o : E} {a : Nat} (K : ClsOk G) (ho : EOk G C k o) : EOk G C k (.attr o a) := by
  intro ns x env ρ H α s A Q hc hn hA F l h
  obtain ⟨b, t, _, rfl, hc⟩ := pAttr_of hc
  · obtain ⟨hc, h4⟩ := and2 hc
    obtain ⟨hc, h3⟩ := and2 hc
    obtain ⟨h1, h2⟩ := and2 hc
    cases of_decide_eq_true h1
    dsimp only [wE_attr] at h
    intro R E hR
    have key : wpAny (Mo G) A (eval b env) (fun o s₁ => wpAny (Mo G) A (getAttr o (nm a) true) R E s₁) E s := by
      refine ho h4 hn hA F l h _ E fun v d α₁ H₁ h₁ tk₁ hq₁ x₁ l₁ r₁ => ?_
      obtain ⟨i, rfl, hq₁⟩ := onInst_is hq₁
      obtain ⟨ob, hob, hq₁⟩ := onNs_is hq₁
      obtain ⟨d', hd, hq₁⟩ := onSome_of hq₁
      exact get_ok K l₁ r₁ hob h2 hd hq₁ _ E fun u d₃ α₃ H₃ h₃ tk₃ hq₃ x₃ l₃ r₃ => hR u d₃ α₃ H₃ h₃ tk₃ hq₃ (x₁.then x₃) l₃ r₃
    obtain ⟨_, _, rfl⟩ := isName_of h3
    exact Attribute_name key

theorem args_all {f : Value} {args : List Expr} {env : Env} {pos : Pos} {A : Around} {s : Shared} {E : Value → Shared → Prop} {M : Model} {Q : Args → Shared → Prop} (hs : args.all notStar = true)
    (h : wpAny M A (spliced (backTo pos (starEach args env))) (fun vs s' => Q ⟨vs, []⟩ s') E s) : wpAny M A (evalArgs f true (backTo pos (starEach args env)) []) Q E s := by
  cases args with
  | nil =>
    unfold evalArgs
    show wpAny M A (spliced [] >>= _) Q E s
    refine wpAny_bind (wpAny_mono h (fun vs s' h' => ?_) fun _ _ x => x)
    refine wpAny_holding ?_
    exact wpAny_bind (wpAny_pure (wpAny_bind (wpAny_pure (wpAny_pure h'))))
  | cons e r =>
    obtain ⟨h1, _⟩ := and2 (List.all_cons ▸ hs)
    rw [star_cons h1] at h ⊢
    exact Calls.evalArgs_plain h

theorem glob_load {t : Str} {env : Env} {A : Around} {s : Shared} {E : Value → Shared → Prop} {R : Value → Shared → Prop} {p : Pos} {ns : Ns} {α : List Addr} {ρ : Rho} {H : Hp} {v : Value} (hn : NsOk ns env) (F : FR G env α ρ s.heap) (l : LR G α H s.heap)
    (hg : isGlob ns t = true) (hd : (t == ("__debug__" : Str)) = false) (hv : G.mg t = some v ∨ (G.mg t = none ∧ G.mb t = some v)) (h : R v s) : wpAny (Mo G) A (eval (.Name t p) env) R E s := by
  have hk := hn.same t .globalImplicit (of_decide_eq_true hg) (by decide)
  refine Calls.Name_function_global F.ok.kind hk ?_ hd
  have ng : s.heap.Ns env.globals G.mg := by rw [F.ok.glob]; exact ns_get G.g fun o e => l.base _ _ e
  have nb : s.heap.Ns env.builtins G.mb := by rw [F.ok.blt]; exact ns_get G.b fun o e => l.base _ _ e
  rcases hv with e | ⟨e1, e2⟩
  · exact Calls.loadGlobal_global ng e h
  · exact Calls.loadGlobal_builtin ng e1 nb e2 h

theorem call_fn {f : Nat} {ds : List V} {vs : List Value} {Q : PV} {a : Addr} {F : Fn} {A : Around} {s : Shared} {α : List Addr} {H : Hp} (hC : SemC G FT C k) (hA : AOk k A) (l : LR G α H s.heap) (r : VRs G α s.heap vs ds) (hf : FT f = some F) (hF : FnAt G a F) (h : C f ds H Q) :
    Tr G (VR G) A α (call (.ref a) vs) Q s := fun R E hR =>
  wpAny_call (hC f ds H Q h a F hf hF A α s vs _ hA.w l r fun v d α' H' h' tk hq x l r => hR v d α' H' h' tk hq x l r)

theorem ok_call {f : Nat} {r : Es} (P : Prg G FT) (hC : SemC G FT C k) (hr : EsOk G C k r) : EOk G C k (.call f r) := by
  intro ns x env ρ H α s A Q hc hn hA F l h
  obtain ⟨_, _, _, _, rfl, hc⟩ := pCall_of hc
  obtain ⟨_, _, rfl, hc⟩ := pName_of hc
  obtain ⟨rfl, hc⟩ := l0_of hc
  · obtain ⟨hc, h5⟩ := and2 hc
    obtain ⟨hc, h4⟩ := and2 hc
    obtain ⟨hc, h3⟩ := and2 hc
    obtain ⟨h1, h2⟩ := and2 hc
    cases of_decide_eq_true h1
    dsimp only [wE_call] at h
    obtain ⟨a, Fn, e1, e2, e3⟩ := P.glob f h2
    obtain ⟨o, fd, body, ho, hd, _⟩ := e3.at_
    intro R E hR
    rw [arm_eval_Call_Name']
    refine wpAny_bind (glob_load hn F l h3 (nm_debug _) (.inl e2) ?_)
    refine Calls.callWith_function (o := o) (fd := fd) (args_all h4 ?_)
    refine hr h5 h4 hn hA F l h _ E fun vs ds α₁ H₁ h₁ tk₁ hq₁ x₁ l₁ r₁ => ⟨⟨l₁.base _ _ ho, hd⟩, ?_⟩
    exact call_fn hC hA l₁ r₁.1 e1 e3 hq₁ _ E fun u d₃ α₃ H₃ h₃ tk₃ hq₃ x₃ l₃ r₃ => hR u d₃ α₃ H₃ h₃ tk₃ hq₃ (x₁.then x₃) l₃ r₃
theorem okT_call {f : Nat} {r : Es} (P : Prg G FT) (hC : SemC G FT C k) (hr : EsOk G C k r) : EOkT G C k (.call f r) := okT_of (ok_call P hC hr) (fun h => h) (fun h => by
    obtain ⟨_, _, _, _, rfl, h⟩ := pCall_of h
    obtain ⟨_, _, rfl, h⟩ := pName_of h
    obtain ⟨rfl, _⟩ := l0_of h
    rfl)

theorem ok_new {r : Es} (P : Prg G FT) (hC : SemC G FT C k) (hr : EsOk G C k r) : EOk G C k (.new r) := by
  intro ns x env ρ H α s A Q hc hn hA F l h
  obtain ⟨_, args, _, pos, rfl, hc⟩ := pCall_of hc
  obtain ⟨t, p, rfl, hc⟩ := pName_of hc
  obtain ⟨rfl, hc⟩ := l0_of hc
  · obtain ⟨hc, h4⟩ := and2 hc
    obtain ⟨hc, h3⟩ := and2 hc
    obtain ⟨h1, h2⟩ := and2 hc
    cases of_decide_eq_true h1
    dsimp only [wE_new] at h
    obtain ⟨a, Fn, e1, e2, e4, e3⟩ := P.init
    intro R E hR
    rw [arm_eval_Call_Name']
    refine wpAny_bind (glob_load hn F l h2 (nm_debug _) (.inl P.made) ?_)
    refine callWith_of (P := fun h => G.K.In h) (by rw [star_any h3]; rfl) (keeps_K P.cls.keep) (args_all h3 ?_)
    refine hr h4 h3 hn hA F l h _ E fun vs ds α₁ H₁ h₁ tk₁ hq₁ x₁ l₁ r₁ => ⟨Frag.In.keeps G.kin l₁.base, ?_⟩
    have X : G.K.In h₁ := Frag.In.keeps G.kin l₁.base
    refine wpAny_call ?_
    refine make_core (makes_of X P.cls.makes) (looks_findIn X e2) (fun self => bind_fn X self e4) (.inl rfl) ?_
    have hk : ∀ b o, h₁.get? b = some o → ((h₁.push emptyDict).push (instObj G.C h₁.objs.size)).get? b = some o := fun b o e => pushed b o (pushed b o e)
    have hd : ((h₁.push emptyDict).push (instObj G.C h₁.objs.size)).get? h₁.objs.size = some (dictOf [] 0) := pushed _ _ (Heap.get?_push_size _ rfl)
    have hx : ((h₁.push emptyDict).push (instObj G.C h₁.objs.size)).get? (h₁.objs.size + 1) = some (instObj G.C h₁.objs.size) := by
      rw [← Heap.size_push h₁ emptyDict]; exact Heap.get?_push_size _ rfl
    have x₂ : Ext G α₁ α₁ h₁ (α₁ ++ [h₁.objs.size]) ((h₁.push emptyDict).push (instObj G.C h₁.objs.size)) := .newL hk (fresh_at _)
    have l₂ : LR G (α₁ ++ [h₁.objs.size]) (H₁ ++ [.ns []]) ((h₁.push emptyDict).push (instObj G.C h₁.objs.size)) :=
      l₁.new hk (size_ge _) ⟨[], 0, hd, Nat.le_refl _, by simp, fun k => by simp [look_nil]⟩
    have rx : VR G (α₁ ++ [h₁.objs.size]) ((h₁.push emptyDict).push (instObj G.C h₁.objs.size)) (.ref (h₁.objs.size + 1)) (.inst H₁.length) :=
      .inst hx (by rw [← l₁.len, List.getElem?_append_right (Nat.le_refl _), Nat.sub_self]; rfl)
    refine hC _ _ _ _ hq₁ a Fn e1 e3 _ _ ⟨_, _, _, _, _⟩ _ _ (hA.typeCall ..) l₂ (.cons rx (r₁.1.ext x₂)) fun v d α' H' h' tk hq x' l' r' => ?_
    obtain ⟨rfl, hq⟩ := hq
    cases r'
    exact ⟨rfl, hR _ _ _ _ _ tk hq ((x₁.then x₂).then x') l' (rx.ext x')⟩

theorem meth_open {A : Around} {s : Shared} {E : Value → Shared → Prop} {env : Env} {o : Expr} {name : Str} {apos pos : Pos} {args : List Expr} {Q : Value → Shared → Prop} (hb : notCall o = true) (hst : args.all notStar = true) (hlen : args.length < 20)
    (hline : (apos.endLine == pos.line) = true)
    (h : wpAny (Mo G) A (eval o env) (fun ov s₁ => ∀ pl, wpAny (Mo G) A (getMethod ov name pl) (fun fx s₂ => wpAny (Mo G) A (callWith pos fx.1 fx.2 (backTo pos (starEach args env)) []) Q E s₂) E s₁) E s) :
    wpAny (Mo G) A (eval (.Call (.Attribute o name apos) args [] pos) env) Q E s := by
  have hform : methodCallForm (args.length + ([] : List Keyword).length) (backTo pos (starEach args env)) (backToKw pos (keywordEach [] env)) = true := by
    show ((backTo pos (starEach args env)).all (fun x => !x.1) && ([] : List (Option Str × Sem Value)).all (fun x => x.1.isSome) && decide (args.length + 0 + 0 < 30)) = true
    rw [star_all hst]; simp; omega
  have hpos : methodCallPos true o env apos pos = pure pos := by unfold methodCallPos; simp [hline]
  rw [arm_eval_Call, base_notCall hb]
  refine wpAny_bind (wpAny_mono h (fun ov s₁ h₁ => ?_) fun _ _ e => e)
  refine wpAny_bind (wpAny_standAt ?_)
  unfold methodCall
  rw [hform]
  refine wpAny_bind (wpAny_holding (wpAny_mono (h₁ _) (fun fx s₂ h₂ => ?_) fun _ _ e => e))
  exact wpAny_bind (wpAny_of_eq hpos h₂)

theorem ok_meth {o : E} {m : Nat} {r : Es} (P : Prg G FT) (hC : SemC G FT C k) (ho : EOk G C k o) (hr : EsOk G C k r) : EOk G C k (.meth o m r) := by
  intro ns x env ρ H α s A Q hc hn hA F l h
  obtain ⟨_, _, _, _, rfl, hc⟩ := pCall_of hc
  obtain ⟨_, _, _, rfl, hc⟩ := pAttr_of hc
  obtain ⟨rfl, hc⟩ := l0_of hc
  · obtain ⟨hc, h8⟩ := and2 hc
    obtain ⟨hc, h7⟩ := and2 hc
    obtain ⟨hc, h6⟩ := and2 hc
    obtain ⟨hc, h5⟩ := and2 hc
    obtain ⟨hc, h4⟩ := and2 hc
    obtain ⟨hc, h3⟩ := and2 hc
    obtain ⟨h1, h2⟩ := and2 hc
    cases of_decide_eq_true h1
    dsimp only [wE_meth] at h
    obtain ⟨a, Fn, e1, e2, e3, e4⟩ := P.meth m h2
    obtain ⟨of, fd, body, hof, hfd, _⟩ := e4.at_
    intro R E hR
    refine meth_open (name_notCall h4) h6 (of_decide_eq_true h5) h3 (ho h7 hn hA F l h _ E fun v d α₁ H₁ h₁ tk₁ hq₁ x₁ l₁ r₁ pl => ?_)
    obtain ⟨i, rfl, hq₁⟩ := onInst_is hq₁
    obtain ⟨ob, hob, hlk, hq₁⟩ := onNs_is hq₁
    have r₁' := r₁
    cases r₁ with | inst e ei =>
    obtain ⟨es, n, I, e5, hz, hs, hf⟩ := inst_at (s := { s with heap := h₁, toks := tk₁ }) e (l₁.obj _ _ _ ei hob)
    have hm := hf m
    rw [hlk] at hm
    refine method_fn (Frag.In.keeps G.kin l₁.base) I P.cls.ga P.cls.gattr e2 e3 ?_ ?_
    · show (lookIn (nm m) (dictOf es n)).map _ = _
      rw [lookIn_dict]; unfold getL; rw [hm]; simp [noRef hs]
    · refine Calls.callWith_function (o := of) (fd := fd) (args_all h6 ?_)
      refine hr h8 h6 hn hA (F.ext x₁) l₁ hq₁ _ E fun vs ds α₂ H₂ h₂ tk₂ hq₂ x₂ l₂ r₂ => ⟨⟨l₂.base _ _ hof, hfd⟩, ?_⟩
      exact call_fn hC hA l₂ (.cons (r₁'.ext x₂) r₂.1) e1 e4 hq₂ _ E fun u d₃ α₃ H₃ h₃ tk₃ hq₃ x₃ l₃ r₃ => hR u d₃ α₃ H₃ h₃ tk₃ hq₃ ((x₁.then x₂).then x₃) l₃ r₃

theorem bf_debug (f : Bf) : (f.name == ("__debug__" : Str)) = false := by cases f <;> decide +kernel
theorem ok_bcall {f : Bf} {r : Es} (P : Prg G FT) (hr : EsOk G C k r) : EOk G C k (.bcall f r) := by
  intro ns x env ρ H α s A Q hc hn hA F l h
  obtain ⟨_, args, _, pos, rfl, hc⟩ := pCall_of hc
  obtain ⟨t, p, rfl, hc⟩ := pName_of hc
  obtain ⟨rfl, hc⟩ := l0_of hc
  · obtain ⟨hc, h4⟩ := and2 hc
    obtain ⟨hc, h3⟩ := and2 hc
    obtain ⟨h1, h2⟩ := and2 hc
    cases of_decide_eq_true h1
    dsimp only [wE_bcall] at h
    intro R E hR
    rw [arm_eval_Call_Name']
    refine wpAny_bind (glob_load hn F l h2 (bf_debug f) (.inr (P.blt f)) ?_)
    have key : ∀ first, wpAny (Mo G) A (evalArgs first true (backTo pos (starEach args env)) []) (fun a s₁ => wpAny (Mo G) A (call f.val ([] ++ a.pos) a.kw) R E s₁) E s := fun first => by
      refine args_all h3 (hr h4 h3 hn hA F l h _ E fun vs ds α₁ H₁ h₁ tk₁ hq₁ x₁ l₁ r₁ => ?_)
      exact b_ok hA l₁ r₁.1 hq₁ _ E fun u d₃ α₃ H₃ h₃ tk₃ hq₃ x₃ l₃ r₃ => hR u d₃ α₃ H₃ h₃ tk₃ hq₃ (x₁.then x₃) l₃ r₃
    cases f <;> first | exact Calls.callWith_builtin (star_any h3) (key _) | exact PySem.callWith_type (star_any h3) (key _)

theorem bm_slot (m : Bm) : Slot m.ty m.name m.id := by
  cases m
  · exact PySem.F.slot_list_append
  · exact PySem.F.slot_list_pop
  · exact PySem.F.slot_list_index
  · exact PySem.F.slot_dict_get
  · exact PySem.F.slot_list_reverse
theorem bm_type (m : Bm) : typeOf (.builtin m.id) = pure (.type "method_descriptor") := by
  cases m
  · exact PySem.F.type_list_append
  · exact PySem.F.type_list_pop
  · exact PySem.F.type_list_index
  · exact PySem.F.type_dict_get
  · exact PySem.F.type_list_reverse
theorem bm_plain (m : Bm) : PlainAttrs m.ty := by
  cases m
  · exact PySem.F.plainAttrs_list
  · exact PySem.F.plainAttrs_list
  · exact PySem.F.plainAttrs_list
  · exact PySem.F.plainAttrs_dict
  · exact PySem.F.plainAttrs_list
theorem bm_has {m : Bm} {d : V} {v : Value} {α : List Addr} {H : Hp} {s : Shared} (l : LR G α H s.heap) (r : VR G α s.heap v d) (h : bmHas m d H) :
    s.TypeIs v m.ty ∧ ∀ a, v = .ref a → ∃ o, s.heap.get? a = some o ∧ o.dict = none := by
  obtain ⟨i, p, rfl, _, ea, h⟩ := onRef_of r h
  have lst : (onList H i fun _ => True) → ∃ o, s.heap.get? p = some o ∧ s.TypeIs (.ref p) "list" ∧ o.dict = none := fun h => by
    obtain ⟨ds, vs, n, eo, _⟩ := onList_of l ea h
    have hL : s.heap.IsList p vs.toArray := ⟨_, eo, rfl, _, rfl⟩
    exact ⟨_, eo, hL.typeIs, rfl⟩
  cases m
  case get =>
    obtain ⟨D, kvs, hm, _⟩ := onDict_of l ea h
    exact ⟨hm.typeIs, hm.mapOf.noDict⟩
  all_goals
    obtain ⟨o, eo, hT, hd⟩ := lst h
    exact ⟨hT, fun a e => by cases e; exact ⟨_, eo, hd⟩⟩
theorem ok_bmeth {o : E} {m : Bm} {r : Es} (ho : EOk G C k o) (hr : EsOk G C k r) : EOk G C k (.bmeth o m r) := by
  intro ns x env ρ H α s A Q hc hn hA F l h
  obtain ⟨_, _, _, _, rfl, hc⟩ := pCall_of hc
  obtain ⟨_, _, _, rfl, hc⟩ := pAttr_of hc
  obtain ⟨rfl, hc⟩ := l0_of hc
  · obtain ⟨hc, h7⟩ := and2 hc
    obtain ⟨hc, h6⟩ := and2 hc
    obtain ⟨hc, h5⟩ := and2 hc
    obtain ⟨hc, h4⟩ := and2 hc
    obtain ⟨hc, h3⟩ := and2 hc
    obtain ⟨h1, h2⟩ := and2 hc
    cases of_decide_eq_true h1
    dsimp only [wE_bmeth] at h
    intro R E hR
    refine meth_open h3 h5 (of_decide_eq_true h4) h2 (ho h6 hn hA F l h _ E fun v d α₁ H₁ h₁ tk₁ hq₁ x₁ l₁ r₁ pl => ?_)
    obtain ⟨hb, hq₁⟩ := hq₁
    obtain ⟨hT, hdn⟩ := bm_has (s := { s with heap := h₁, toks := tk₁ }) l₁ r₁ hb
    refine getMethod_builtin hT (bm_plain m) (bm_slot m) (bm_type m) hdn ?_
    refine Calls.callWith_builtin (star_any h5) (args_all h5 ?_)
    refine hr h7 h5 hn hA (F.ext x₁) l₁ hq₁ _ E fun vs ds α₂ H₂ h₂ tk₂ hq₂ x₂ l₂ r₂ => ?_
    exact bm_ok l₂ (r₁.ext x₂) r₂.1 hq₂ _ E fun u d₃ α₃ H₃ h₃ tk₃ hq₃ x₃ l₃ r₃ => hR u d₃ α₃ H₃ h₃ tk₃ hq₃ ((x₁.then x₂).then x₃) l₃ r₃
end
end Mine

namespace Mine
open PySem PySem.W PyProof.Rows PySem.SeqAt

theorem valueAt_stored {K : Type} [DecidableEq K] (kvs : List (K × Value)) (k j : K) (v : Value) : valueAt (stored kvs k v) j = if k = j then some v else valueAt kvs j := by
  unfold valueAt stored
  split
  · rename_i h
    have : ∀ l : List (K × Value), (l.map (fun kv => if kv.1 = k then (kv.1, v) else kv)).find? (fun kv => decide (kv.1 = j)) = (l.find? (fun kv => decide (kv.1 = j))).map fun kv => if kv.1 = k then (kv.1, v) else kv := by
      intro l
      rw [List.find?_map]
      congr 2
      funext x
      simp only [Function.comp]
      split <;> rfl
    rw [this]
    by_cases q : k = j
    · subst q
      simp only [if_true]
      obtain ⟨x, hx, hk⟩ := List.any_eq_true.mp h
      cases e : kvs.find? (fun kv => decide (kv.1 = k)) with
      | none =>
        have := List.find?_eq_none.mp e x hx
        exact absurd hk this
      | some y =>
        have := List.find?_some e
        simp at this
        simp [this]
    · rw [if_neg q]
      cases e : kvs.find? (fun kv => decide (kv.1 = j)) with
      | none => rfl
      | some y =>
        have h2 := List.find?_some e
        simp only [decide_eq_true_eq] at h2
        have : ¬ y.1 = k := fun z => q (z.symm.trans h2)
        simp [this]
  · rename_i h
    rw [List.find?_append]
    by_cases q : k = j
    · subst q
      simp only [if_true]
      have : kvs.find? (fun kv => decide (kv.1 = k)) = none := by
        rw [List.find?_eq_none]
        intro x hx hk
        exact h (List.any_eq_true.mpr ⟨x, hx, hk⟩)
      rw [this]; simp
    · rw [if_neg q]
      cases e : kvs.find? (fun kv => decide (kv.1 = j)) with
      | none => simp [q]
      | some y => simp

theorem merged_snoc {K : Type} [DecidableEq K] (P : List (K × Value)) (x : K × Value) : merged [] (P ++ [x]) = stored (merged [] P) x.1 x.2 := by
  simp [merged, List.foldl_append]

section
variable {G : Gl} {C : CallT} {k : Nat} {FT : Nat → Option Fn}

inductive KeysX (G : Gl) {K : Type} [DecidableEq K] (knd : PySem.KeyKind G.prog G.w K) : List K → List (Option Expr) → Prop
  | nil : KeysX G knd [] []
  | cons {k : K} {x : Expr} {ks : List K} {r : List (Option Expr)} : (∀ (env : Env) (A : Around) (s : Shared) (R : Value → Shared → Prop) (E : Value → Shared → Prop), (∀ v tk, knd.is k v = true → R v { s with toks := tk }) → wpAny (Mo G) A (eval x env) R E s) →
      KeysX G knd ks r → KeysX G knd (k :: ks) (some x :: r)

theorem keysI_x {G : Gl} : ∀ {ks : List Int} {keys : List (Option Expr)}, keysI ks keys = true → KeysX G (intKind G.prog G.w) ks keys
  | [], [], _ => .nil
  | [], _ :: _, h => by simp [keysI] at h
  | k :: ks, keys, h => by
    unfold keysI at h
    split at h
    · rename_i h1; cases h1
    · rename_i k' ks' j kd p r e
      cases e
      obtain ⟨h1, h2⟩ := and2 h
      cases of_decide_eq_true h1
      exact .cons (fun env A s R E hR => wpAny_Constant_int (hR _ _ (by simp [intKind, Value.isInt]))) (keysI_x h2)
    · cases h
theorem keysS_x {G : Gl} : ∀ {ks : List Nat} {keys : List (Option Expr)}, keysS ks keys = true → KeysX G (PySem.strKind G.prog G.w) (ks.map nm) keys
  | [], [], _ => .nil
  | [], _ :: _, h => by simp [keysS] at h
  | k :: ks, keys, h => by
    unfold keysS at h
    split at h
    · rename_i h1; cases h1
    · rename_i k' ks' j kd p r e
      cases e
      obtain ⟨h1, h2⟩ := and2 h
      cases of_decide_eq_true h1
      exact .cons (fun env A s R E hR => wpAny_Constant_str (hR _ _ (by simp [PySem.strKind, Value.isStrOf]))) (keysS_x h2)
    · cases h
theorem KeysX.len {K : Type} [DecidableEq K] {knd : PySem.KeyKind G.prog G.w K} {ks : List K} {keys : List (Option Expr)} (h : KeysX G knd ks keys) : keys.length = ks.length ∧ keys.all (·.isSome) = true := by
  induction h with
  | nil => exact ⟨rfl, rfl⟩
  | cons _ _ ih => simp [ih.1, ih.2]

/-- the pairs of a display -/
noncomputable def RPs (G : Gl) {K : Type} [DecidableEq K] (knd : PySem.KeyKind G.prog G.w K) (ks : List K) : List Addr → Heap → List (Value × Value) → List V → Prop :=
  fun α h pvs ds => ∃ vs, Carries knd pvs (ks.zip vs) ∧ VRs G α h vs ds ∧ vs.length = ks.length
noncomputable def EsOkD (G : Gl) (C : CallT) (k : Nat) (l : Es) : Prop :=
  ∀ {K : Type} [DecidableEq K] {knd : PySem.KeyKind G.prog G.w K} {ks : List K} {keys : List (Option Expr)} {ns : Ns} {xs : List Expr} {env : Env} {ρ : Rho} {H : Hp} {α : List Addr} {s : Shared} {A : Around} {pos : Pos} {Q : List V → Hp → Prop},
    KeysX G knd ks keys → ks.length = xs.length → l.chk ns xs = true → NsOk ns env → AOk k A → FR G env α ρ s.heap → LR G α H s.heap → l.wp C ρ H Q → Tr G (RPs G knd ks) A α (evalPairs (pairTrees keys xs env pos)) Q s
theorem okD_nil : EsOkD G C k .nil := by
  intro K _ knd ks keys ns xs env ρ H α s A pos Q hk hl hc hn hA F l h
  cases es_nil_of hc
  · cases hk with
    | nil => exact fun R E hR => pairTrees_nil_walk (hR _ _ _ _ _ s.toks h .refl l ⟨[], trivial, .nil, rfl⟩)
    | cons _ _ => simp at hl
theorem okD_cons {e : E} {r : Es} (he : EOk G C k e) (hr : EsOkD G C k r) : EsOkD G C k (.cons e r) := by
  intro K _ knd ks keys ns xs env ρ H α s A pos Q hk hl hc hn hA F l h
  obtain ⟨_, _, rfl, hc⟩ := es_cons_of hc
  · obtain ⟨h2, h3⟩ := and2 hc
    cases hk with
    | nil => simp at hl
    | cons hx hk =>
      dsimp only [wL_cons] at h
      intro R E hR
      refine pairTrees_cons_walk (hx _ _ _ _ _ fun kv tk hkv => ?_)
      refine he h2 hn hA (s := { s with toks := tk }) F l h _ E fun v d α₁ H₁ h₁ tk₁ hq₁ x₁ l₁ r₁ => ?_
      refine hr hk (by simpa using hl) h3 hn hA (F.ext x₁) l₁ hq₁ _ E fun vs ds α₂ H₂ h₂ tk₂ hq₂ x₂ l₂ r₂ => ?_
      obtain ⟨ws, hcar, hv, hlen⟩ := r₂
      exact hR _ (d :: ds) α₂ H₂ h₂ tk₂ hq₂ (x₁.then x₂) l₂ ⟨v :: ws, ⟨hkv, rfl, hcar⟩, .cons (r₁.ext x₂) hv, by simp [hlen]⟩

theorem zip_nil {β γ : Type} (l : List β) : l.zip ([] : List γ) = [] := by cases l <;> rfl
/-- what stands in the object, and what the words say -/
theorem merged_look {α : List Addr} {h : Heap} {K κ : Type} [DecidableEq K] (f : κ → K) (lk : κ → List (κ × V) → Option V)
    (lk0 : ∀ x, lk x [] = none) (lk1 : ∀ x y v r, lk x ((y, v) :: r) = if f y = f x then some v else lk x r) :
    ∀ (n : Nat) (ks : List κ) (vs : List Value) (ds : List V), ks.length = n → vs.length = n → VRs G α h vs ds → ∀ x, match lk x (ks.zip ds).reverse with
      | some d => ∃ v, valueAt (merged [] ((ks.map f).zip vs)) (f x) = some v ∧ VR G α h v d
      | none => valueAt (merged [] ((ks.map f).zip vs)) (f x) = none := by
  intro n
  induction n with
  | zero =>
    intro ks vs ds h1 h2 r x
    cases ks with
    | cons _ _ => simp at h1
    | nil => simp [lk0, merged, valueAt]
  | succ n ih =>
    intro ks vs ds h1 h2 r x
    have hd : ds.length = n + 1 := by rw [← r.length, h2]
    obtain ⟨ks', a, rfl⟩ : ∃ l a, ks = l ++ [a] := ⟨ks.dropLast, ks.getLast (by intro e; simp [e] at h1), (List.dropLast_concat_getLast _).symm⟩
    obtain ⟨vs', v, rfl⟩ : ∃ l a, vs = l ++ [a] := ⟨vs.dropLast, vs.getLast (by intro e; simp [e] at h2), (List.dropLast_concat_getLast _).symm⟩
    obtain ⟨ds', d, rfl⟩ : ∃ l a, ds = l ++ [a] := ⟨ds.dropLast, ds.getLast (by intro e; simp [e] at hd), (List.dropLast_concat_getLast _).symm⟩
    have h1' : ks'.length = n := by simpa using h1
    have h2' : vs'.length = n := by simpa using h2
    have h3' : ds'.length = n := by simpa using hd
    have rr := r.take n
    rw [List.take_append_of_le_length (by omega), List.take_append_of_le_length (by omega), List.take_of_length_le (by omega), List.take_of_length_le (by omega)] at rr
    have rl : VR G α h v d := by
      obtain ⟨v', e1, e2⟩ := r.get (k := n) (d := d) (by rw [List.getElem?_append_right (by omega), h3', Nat.sub_self]; rfl)
      rw [List.getElem?_append_right (by omega), h2', Nat.sub_self] at e1
      cases e1; exact e2
    have := ih ks' vs' ds' h1' h2' rr x
    rw [List.zip_append (by omega), List.map_append, List.zip_append (by simp; omega), List.reverse_append]
    show match lk x ((a, d) :: (ks'.zip ds').reverse) with
      | some d => ∃ w, valueAt (merged [] ((ks'.map f).zip vs' ++ [(f a, v)])) (f x) = some w ∧ VR G α h w d
      | none => valueAt (merged [] ((ks'.map f).zip vs' ++ [(f a, v)])) (f x) = none
    rw [lk1, merged_snoc]
    simp only [valueAt_stored]
    by_cases q : f a = f x
    · simp only [if_pos q]
      exact ⟨v, rfl, rl⟩
    · simp only [if_neg q]
      exact this

theorem merged_len {K : Type} [DecidableEq K] (P : List (K × Value)) : (merged [] P).length ≤ P.length := by
  have := merged_length_le ([] : List (K × Value)) P
  simpa using this
theorem dict_made {h h' : Heap} {a : Addr} (hs : Heap.SameBut a h h') (hn : ∀ o, h.get? a = some o → ¬ Imm G o) : ∀ b o, h.get? b = some o → Imm G o → h'.get? b = some o := fun b o e i =>
  (hs.2 b (fun q => by subst q; exact hn o e i)).trans e

theorem ok_dict {K : Type} [DecidableEq K] {knd : PySem.KeyKind G.prog G.w K} {ks : List K} {r : Es} (hr : EsOkD G C k r) {ns : Ns} {keys : List (Option Expr)} {values : List Expr} {env : Env} {ρ : Rho} {H : Hp} {α : List Addr} {s : Shared} {A : Around} {pos : Pos} {Q : PV}
    {mk : List V → O} (hK : KeysX G knd ks keys) (h0 : ks ≠ []) (h15 : ks.length ≤ 15) (hlen : ks.length = r.len) (hc : r.chk ns values = true) (hn : NsOk ns env) (hA : AOk k A) (F : FR G env α ρ s.heap) (l : LR G α H s.heap)
    (hO : ∀ α h vs ds a, vs.length = ks.length → VRs G α h vs ds → h.DictOf knd a (merged [] (ks.zip vs)) → OR G α h a (mk ds))
    (h : r.wp C ρ H fun ds H₁ => Q (.ref H₁.length) (H₁ ++ [mk ds])) : Tr G (VR G) A α (eval (.Dict keys values pos) env) Q s := by
  obtain ⟨hk1, hk2⟩ := hK.len
  have hx := chk_len hc
  have hks : ks.length = values.length := by rw [hx]; exact hlen
  intro R E hR
  refine wpAny_Dict_walk (knd := knd) hk2 (by rw [hk1, hks]) (fun e => h0 (List.length_eq_zero_iff.mp (by rw [← hk1, e]; rfl))) (by rw [hk1]; exact h15) ?_
  have hkp : ∀ b o, s.heap.get? b = some o → (s.heap.push emptyDict).get? b = some o := fun b o e => pushed b o e
  have hemp : (s.heap.push emptyDict).get? s.heap.objs.size = some emptyDict := Heap.get?_push_size _ rfl
  have x₀ : Ext G α α s.heap α (s.heap.push emptyDict) := .of_keeps hkp
  have hnew : s.heap.objs.size ∉ α := fun hm => by
    obtain ⟨o, e, _⟩ := l.occ hm
    exact absurd (Heap.lt_size e) (Nat.lt_irrefl _)
  refine hr hK hks hc hn hA (s := { s with heap := s.heap.push emptyDict }) (F.ext x₀) (l.all hkp) h _ E fun pvs ds α₁ H₁ h₁ tk₁ hq₁ x₁ l₁ r₁ => ?_
  obtain ⟨vs, hcar, hv, hvl⟩ := r₁
  have hD : h₁.get? s.heap.objs.size = some emptyDict := x₁.keep _ _ hemp (.inl hnew)
  have hnI : ∀ o, h₁.get? s.heap.objs.size = some o → ¬ Imm G o := fun o e i => by
    rw [hD] at e; cases e; exact i.notDict rfl
  have hnα₁ : s.heap.objs.size ∉ α₁ := x₁.notIn hnew hemp
  have h00 := l.above (Nat.le_refl s.heap.objs.size)
  refine ⟨_, hcar, ⟨emptyDict, #[], 0, hD, ⟨rfl, rfl, rfl⟩, rfl, (by intro e he; simp at he), .nil, by simp⟩, fun h' hd' hs' => ?_⟩
  have y : Ext G [s.heap.objs.size] α₁ h₁ α₁ h' := Ext.at hs' hnI (let ⟨o, _, _, e, _⟩ := hd'; ⟨o, e⟩)
  have l₂ : LR G α₁ H₁ h' := l₁.off y fun a ha => by simp at ha; subst ha; exact ⟨hnα₁, h00.1⟩
  have hv' := hv.ext y
  have l₃ : LR G (α₁ ++ [s.heap.objs.size]) (H₁ ++ [mk ds]) h' := l₂.join hnα₁ h00 (hO _ _ vs ds _ hvl (hv'.mono (fun i b q => by rw [List.getElem?_append_left (List.getElem?_eq_some_iff.mp q).1]; exact q) fun b o e _ => e) hd')
  have x₂ : Ext G α α s.heap α₁ h' := (x₀.then x₁).trans y fun a ha => by simp at ha; subst ha; exact .inr (fresh_at _)
  exact hR _ _ _ _ _ _ hq₁ (x₂.join (fresh_at _)) l₃ (.here l₂)

theorem ok_dctI {ks : List Int} {r : Es} (hr : EsOkD G C k r) : EOk G C k (.dctI ks r) := by
  intro ns x env ρ H α s A Q hc hn hA F l h
  obtain ⟨keys, values, pos, rfl, hc⟩ := pDict_of hc
  · obtain ⟨hc, h4⟩ := and2 hc
    obtain ⟨hc, h3⟩ := and2 hc
    obtain ⟨h1, h2⟩ := and2 hc
    have h1 := of_decide_eq_true h1
    have h2 := of_decide_eq_true h2
    dsimp only [wE_dctI] at h
    have hK := keysI_x (G := G) h3
    by_cases h0 : ks = []
    · subst h0
      cases hK
      have hv : values = [] := List.length_eq_zero_iff.mp (by rw [chk_len h4, ← h2]; rfl)
      subst hv
      cases r with
      | cons _ _ => simp [Es.len] at h2
      | nil =>
        dsimp only [wL_nil] at h
        intro R E hR
        refine wpAny_Dict_empty ?_
        have hk : ∀ b o, s.heap.get? b = some o → (s.heap.push emptyDict).get? b = some o := fun b o e => pushed b o e
        refine hR _ _ _ _ _ s.toks h (.newL hk (fresh_at _)) (l.new hk (size_ge _) ⟨[], ⟨emptyDict, #[], 0, Heap.get?_push_size _ rfl, ⟨rfl, rfl, rfl⟩, rfl, (by intro e he; simp at he), .nil, by simp⟩, Nat.le_refl _, fun k => by simp [lookI, valueAt]⟩) (.here l)
    · refine ok_dict hr hK h0 h1 h2 h4 hn hA F l (mk := fun ds => .dict (ks.zip ds).reverse) (fun α h vs ds a hvl rv hd => ⟨_, hd, ?_, fun x => ?_⟩) h
      · have e1 := merged_len (ks.zip vs)
        have e2 := rv.length
        simp only [List.length_reverse, List.length_zip] at e1 ⊢
        omega
      · have := merged_look (G := G) (α := α) (h := h) (id : Int → Int) lookI (fun _ => rfl) (fun x y v r => rfl) ks.length ks vs ds rfl hvl rv x
        rw [List.map_id] at this
        exact this
theorem ok_dctS {ks : List Nat} {r : Es} (hr : EsOkD G C k r) : EOk G C k (.dctS ks r) := by
  intro ns x env ρ H α s A Q hc hn hA F l h
  obtain ⟨keys, values, pos, rfl, hc⟩ := pDict_of hc
  · obtain ⟨hc, h4⟩ := and2 hc
    obtain ⟨hc, h3⟩ := and2 hc
    obtain ⟨hc, h2⟩ := and2 hc
    obtain ⟨h1, h5⟩ := and2 hc
    have h1 := of_decide_eq_true h1
    have h5 := of_decide_eq_true h5
    have h2 := of_decide_eq_true h2
    dsimp only [wE_dctS] at h
    have hK := keysS_x (G := G) h3
    refine ok_dict hr hK (by intro e; rw [List.map_eq_nil_iff] at e; subst e; simp at h5) (by simpa using h1) (by simpa using h2) h4 hn hA F l (mk := fun ds => .sdict (ks.zip ds).reverse) (fun α h vs ds a hvl rv hd => ⟨_, hd, ?_, fun x => ?_⟩) h
    · have e1 := merged_len ((ks.map nm).zip vs)
      have e2 := rv.length
      simp only [List.length_reverse, List.length_zip, List.length_map] at e1 hvl ⊢
      omega
    · exact merged_look (G := G) (α := α) (h := h) nm look (fun _ => rfl) (fun x y v r => by rw [look_cons]; simp only [nm_eq]) ks.length ks vs ds rfl (by simpa using hvl) rv x
end
end Mine

namespace Mine
open PySem PySem.W PyProof.Rows PySem.SeqAt

section
variable {G : Gl} {C : CallT} {k : Nat} {FT : Nat → Option Fn} {A : Around} {α : List Addr} {s : Shared} {H : Hp} {env : Env} {ρ : Rho}

/-- a store into a local name: it writes the frame's dict alone -/
theorem FR.storeL {x : Nat} {v : Value} {d : V} {R : Unit → Shared → Prop} {E : Value → Shared → Prop} (F : FR G env α ρ s.heap) (L : LR G α H s.heap) (hk : env.kindOf (nm x) = some .local)
    (hv : VR G α s.heap v d) (h : ∀ h' tk, FR G env α ((x, d) :: ρ) h' → LR G α H h' → Ext G [env.locals] α s.heap α h' → R () { s with heap := h', toks := tk }) :
    wpAny (Mo G) A (storeName env (nm x) v) R E s := by
  obtain ⟨m, hn, hm⟩ := F.ns
  refine wpAny_storeName_local hk hn (fun h' hn' hs => ?_) (by rw [F.ok.kind]; rfl)
  have X : Ext G [env.locals] α s.heap α h' := ⟨⟨[], by simp, fun _ h => nomatch h⟩, fun b o e hb => by
    have : b ≠ env.locals := fun q => by
      subst q
      rcases hb with q | q
      · simp at q
      · obtain ⟨o', es, ep, e', hd, _⟩ := hn
        rw [e'] at e; cases e; exact q.notDict hd
    exact (hs.2 b this).trans e, fun b o e => by
      by_cases q : b = env.locals
      · subst q; obtain ⟨o', _, _, e', _⟩ := hn'; exact ⟨o', e'⟩
      · exact ⟨o, (hs.2 b q).trans e⟩⟩
  have L' : LR G α H h' := L.off X fun a ha => by simp at ha; subst ha; exact ⟨F.Lα, F.L0⟩
  have kc : ∀ c ∈ env.cells.map (·.2), ∀ o, s.heap.get? c = some o → h'.get? c = some o := fun c hc o e => X.keep c o e (.inl (by
    simp; rintro rfl
    obtain ⟨_, _, w, o', e', hd'⟩ := F.C0 _ hc
    obtain ⟨o₂, es, ep, e₂, hd, _⟩ := hn
    rw [e'] at e₂; cases e₂; rw [hd'] at hd; cases hd))
  refine h h' _ ⟨F.ok, F.L0, F.Lα, fun c hc => ?_, ⟨_, hn', fun y d' e k => ?_⟩, fun y d' e => ?_⟩ L' X
  · obtain ⟨h1, h2, w, h3⟩ := F.C0 c hc; exact ⟨h1, h2, w, cell_get h3 (kc c hc)⟩
  · rw [look_cons] at e
    by_cases q : x = y
    · subst q; simp at e; subst e; exact ⟨v, by simp, hv.ext X⟩
    · rw [if_neg q] at e
      obtain ⟨w, h1, h2⟩ := hm y d' e k
      refine ⟨w, ?_, h2.ext X⟩
      rw [if_neg (fun z => q (nm_inj z).symm)]; exact h1
  · rw [look_cons] at e
    by_cases q : x = y
    · subst q; exact .inl hk
    · rw [if_neg q] at e
      rcases F.cv y d' e with z | ⟨k, c, w, h1, h2, h3⟩
      · exact .inl z
      · exact .inr ⟨k, c, w, h1, cell_get h2 (kc c (mem_cells h1)), h3.ext X⟩

theorem FR.sub {ρ' : Rho} {h : Heap} (F : FR G env α ρ h) (hs : ∀ x d, look x ρ' = some d → look x ρ = some d) : FR G env α ρ' h := by
  obtain ⟨m, hn, hm⟩ := F.ns
  exact ⟨F.ok, F.L0, F.Lα, F.C0, ⟨m, hn, fun x d e k => hm x d (hs x d e) k⟩, fun x d e => F.cv x d (hs x d e)⟩
theorem FR.extW {α' : List Addr} {W : List Addr} {h h' : Heap} (x : FR G env α ρ h) (y : Ext G W α h α' h') (hL : env.locals ∉ W) (hC : ∀ c ∈ env.cells.map (·.2), c ∉ W) : FR G env α' ρ h' := by
  obtain ⟨m, hn, hv⟩ := x.ns
  have kc : ∀ c ∈ env.cells.map (·.2), ∀ o, h.get? c = some o → h'.get? c = some o := fun c hc o e => y.keep c o e (.inl (hC c hc))
  obtain ⟨oL, _, _, eL, _⟩ := id hn
  refine ⟨x.ok, x.L0, y.notIn x.Lα eL, fun c hc => ?_, ⟨m, ns_get hn fun o e => y.keep _ o e (.inl hL), fun a d e k => ?_⟩, fun a d e => ?_⟩
  · obtain ⟨h1, h2, v, h3⟩ := x.C0 c hc
    obtain ⟨oc, ec, _⟩ := id h3
    exact ⟨h1, y.notIn h2 ec, v, cell_get h3 (kc c hc)⟩
  · obtain ⟨v, h1, h2⟩ := hv a d e k; exact ⟨v, h1, h2.ext y⟩
  · rcases x.cv a d e with q | ⟨k, c, v, h1, h2, h3⟩
    · exact .inl q
    · exact .inr ⟨k, c, v, h1, cell_get h2 (kc c (mem_cells h1)), h3.ext y⟩

/-! names as targets -/
theorem var_kind {ns : Ns} {x : Str} (hn : NsOk ns env) (h : isVar ns x = true) : env.kindOf x = some .local ∨ env.kindOf x = some .cell := by
  rcases Bool.or_eq_true_iff.mp h with q | q
  · exact .inl (hn.same _ _ (of_decide_eq_true q) (by decide))
  · exact .inr (hn.same _ _ (of_decide_eq_true q) (by decide))
theorem loc_kind {ns : Ns} {x : Str} (hn : NsOk ns env) (h : isLoc ns x = true) : env.kindOf x = some .local := hn.same _ _ (of_decide_eq_true h) (by decide)

theorem Wf_self {α' : List Addr} {h h' h₁ : Heap} (x : Ext G (Wf env α) α h α h₁) (y : Ext G (Wf env α) α h₁ α' h') : Ext G (Wf env α) α h α' h' := x.trans y fun _ h => .inl h
theorem namesOk_cons {ns : Ns} {x : Nat} {xs : List Nat} {elts : List Expr} (h : namesOk ns (x :: xs) elts = true) : ∃ p rest, elts = .Name (nm x) p :: rest ∧ isVar ns (nm x) = true ∧ namesOk ns xs rest = true := by
  cases elts with
  | nil => simp [namesOk] at h
  | cons e r =>
    cases e <;> simp only [namesOk] at h <;> first | cases h | skip
    obtain ⟨hc, h3⟩ := and2 h
    obtain ⟨h1, h2⟩ := and2 hc
    cases of_decide_eq_true h1
    exact ⟨_, _, rfl, h2, h3⟩
theorem assign_names {ns : Ns} (hn : NsOk ns env) {R : Unit → Shared → Prop} {E : Value → Shared → Prop} : ∀ {xs : List Nat} {elts : List Expr} {vs : List Value} {ds : List V} {ρ ρ' : Rho} {s : Shared}, namesOk ns xs elts = true → FR G env α ρ s.heap → LR G α H s.heap → VRs G α s.heap vs ds → bindT xs ds ρ = some ρ' →
    (∀ h' tk, FR G env α ρ' h' → LR G α H h' → Ext G (Wf env α) α s.heap α h' → R () { s with heap := h', toks := tk }) → wpAny (Mo G) A (assignInOrder ((assignEach elts env).map (·.2)) vs) R E s
  | [], elts, vs, ds, ρ, ρ', s, hc, F, l, r, hb, h => by
    cases elts with
    | cons _ _ => simp [namesOk] at hc
    | nil =>
      cases ds with
      | cons _ _ => simp [bindT] at hb
      | nil => simp [bindT] at hb; subst hb; cases r; exact wpAny_pure (h _ s.toks F l .refl)
  | x :: xs, elts, vs, ds, ρ, ρ', s, hc, F, l, r, hb, h => by
    obtain ⟨p, rest, rfl, h2, h3⟩ := namesOk_cons hc
    cases ds with
    | nil => simp [bindT] at hb
    | cons d ds =>
      cases r with | cons r1 r2 =>
      simp only [bindT] at hb
      rw [assign_cons rfl]
      show wpAny (Mo G) A (holding _ (assign (.Name (nm x) p) env _) >>= fun _ => assignInOrder _ _) R E s
      refine wpAny_bind (wpAny_holding (wpAny_assign_Name (F.store l (var_kind hn h2) r1 fun h' tk F' l' x' => ?_)))
      refine assign_names hn h3 (s := { s with heap := h', toks := tk }) F' l' (r2.ext x') hb fun h'' tk' F'' l'' x'' => ?_
      exact h h'' tk' F'' l'' (x'.trans x'' fun _ h => .inl h)
theorem namesOk_len (env : Env) {ns : Ns} : ∀ {xs : List Nat} {elts : List Expr}, namesOk ns xs elts = true → (assignEach elts env).length = xs.length ∧ (assignEach elts env).findIdx? (·.1) = none
  | [], elts, h => by
    cases elts with
    | cons _ _ => simp [namesOk] at h
    | nil => exact ⟨rfl, rfl⟩
  | x :: xs, elts, h => by
    obtain ⟨p, rest, rfl, h2, h3⟩ := namesOk_cons h
    obtain ⟨i1, i2⟩ := namesOk_len env h3
    rw [assign_cons rfl]
    exact ⟨by simp [i1], by rw [List.findIdx?_cons]; simp [i2]⟩
theorem bindT_len : ∀ {xs : List Nat} {ds : List V} {ρ ρ' : Rho}, bindT xs ds ρ = some ρ' → xs.length = ds.length
  | [], [], _, _, _ => rfl
  | [], _ :: _, _, _, h => by simp [bindT] at h
  | _ :: _, [], _, _, h => by simp [bindT] at h
  | _ :: _, _ :: _, _, _, h => by simp [bindT_len (by simpa [bindT] using h)]
theorem assign_tuple {ns : Ns} (hn : NsOk ns env) (hA : A.handled = none) {xs : List Nat} {elts : List Expr} {kk : Nat} {p : Pos} {v : Value} {ds : List V} {ρ' : Rho} {R : Unit → Shared → Prop} {E : Value → Shared → Prop} (hc : namesOk ns xs elts = true) (F : FR G env α ρ s.heap) (l : LR G α H s.heap) (r : VR G α s.heap v (.tup ds)) (hb : bindT xs ds ρ = some ρ')
    (h : ∀ h' tk, FR G env α ρ' h' → LR G α H h' → Ext G (Wf env α) α s.heap α h' → R () { s with heap := h', toks := tk }) : wpAny (Mo G) A (assign (.Tuple elts kk p) env v) R E s := by
  cases r with | tup e r =>
  rename_i a vs n
  have hl := r.length
  obtain ⟨h1, h2⟩ := namesOk_len env hc
  refine wpAny_assign_Tuple hA ⟨_, e, rfl, _, rfl⟩ (by rw [h1, bindT_len hb]; simp [hl]) h2 fun h₁ hx => ?_
  have hk : ∀ b o, s.heap.get? b = some o → h₁.get? b = some o := fun b o e => hx b o (Nat.ne_of_lt (Heap.lt_size e)) e
  have x₁ : Ext G α α s.heap α h₁ := .of_keeps hk
  refine assign_names hn hc (s := { s with heap := h₁ }) (F.ext x₁) (l.all hk) (r.ext x₁) hb fun h' tk F' l' x' => ?_
  exact h h' tk F' l' (Ext.trans (.of_keeps hk) x' fun _ h => .inl h)

/-! the scope of a comprehension -/
theorem lookup_relabel {sc : Scope} {x : Str} : ∀ {names : List (Str × NameKind)},
    (names.map fun (n, k) => if (k == NameKind.free && env.scope.kind == .function && env.kindOf n == some .cell) then (n, NameKind.cell) else (n, k)).lookup x =
      (names.lookup x).map fun k => if (k == NameKind.free && env.scope.kind == .function && env.kindOf x == some .cell) then NameKind.cell else k
  | [] => rfl
  | (n, k) :: r => by
    have ih := @lookup_relabel sc x r
    show List.lookup x ((if (k == NameKind.free && env.scope.kind == .function && env.kindOf n == some .cell) = true then (n, NameKind.cell) else (n, k)) :: _) = _
    by_cases hx : x = n
    · subst hx
      by_cases q : (k == NameKind.free && env.scope.kind == .function && env.kindOf x == some .cell) = true
      · rw [if_pos q]; simp only [List.lookup_cons, beq_self_eq_true, Option.map_some, if_pos q]
      · rw [if_neg q]; simp only [List.lookup_cons, beq_self_eq_true, Option.map_some, if_neg q]
    · have hx : (x == n) = false := beq_eq_false_iff_ne.mpr hx
      by_cases q : (k == NameKind.free && env.scope.kind == .function && env.kindOf n == some .cell) = true
      · rw [if_pos q]; simp only [List.lookup_cons, hx]; exact ih
      · rw [if_neg q]; simp only [List.lookup_cons, hx]; exact ih
theorem compKind {sc : Scope} {cl : List (Str × Addr)} {Ca : Addr} {x : Str} : (compEnvC sc cl Ca env).kindOf x = (sc.names.lookup x).map fun k => if (k == NameKind.free && env.scope.kind == .function && env.kindOf x == some .cell) then NameKind.cell else k :=
  lookup_relabel (sc := sc)

noncomputable def clo (env : Env) : List (Str × NameKind) → List (Str × Addr) → List (Str × Addr)
  | [], cs => cs
  | (n, k) :: r, cs => clo env r (if k == .free then (n, (env.cells.lookup n).getD 0) :: cs else cs)
theorem closure_eq {sc : Scope} (hf : ∀ p ∈ sc.names, p.2 = .free → ∃ c, env.cells.lookup p.1 = some c) : closureFor sc env = pure (clo env sc.names []) := by
  have key : ∀ (names : List (Str × NameKind)) (cs : List (Str × Addr)), (∀ p ∈ names, p.2 = .free → ∃ c, env.cells.lookup p.1 = some c) →
      (forIn names cs fun x r => if (x.2 == NameKind.free) = true then do let a ← cellOf env x.1; pure (ForInStep.yield ((x.1, a) :: r)) else pure (ForInStep.yield r)) = (pure (clo env names cs) : Sem (List (Str × Addr))) := by
    intro names
    induction names with
    | nil => intro cs _; rfl
    | cons p r ih =>
      intro cs h
      obtain ⟨n, kd⟩ := p
      rw [List.forIn_cons]
      unfold clo
      by_cases q : (kd == NameKind.free) = true
      · obtain ⟨c, hc⟩ := h (n, kd) List.mem_cons_self (by simpa using q)
        simp only [q, if_true]
        unfold cellOf
        rw [hc]
        simp only [pure_bind]
        exact ih _ fun p hp => h p (List.mem_cons_of_mem _ hp)
      · simp only [q, if_false, pure_bind]
        exact ih _ fun p hp => h p (List.mem_cons_of_mem _ hp)
  have := key sc.names [] hf
  have e : closureFor sc env = ((forIn sc.names [] fun x r => if (x.2 == NameKind.free) = true then do let a ← cellOf env x.1; pure (ForInStep.yield ((x.1, a) :: r)) else pure (ForInStep.yield r)) >>= fun cs => pure cs) := rfl
  rw [e, this, pure_bind]
theorem clo_spec : ∀ (names : List (Str × NameKind)) (cs : List (Str × Addr)), (∀ p ∈ names, p.2 = .free → ∃ c, env.cells.lookup p.1 = some c) → (∀ p ∈ cs, env.cells.lookup p.1 = some p.2) →
    (∀ p ∈ clo env names cs, env.cells.lookup p.1 = some p.2) ∧ (∀ p ∈ cs, p ∈ clo env names cs) ∧ ∀ p ∈ names, p.2 = .free → ∃ c, (p.1, c) ∈ clo env names cs
  | [], cs, _, h => ⟨h, fun _ h => h, fun _ h => nomatch h⟩
  | (n, kd) :: r, cs, hf, h => by
    unfold clo
    obtain ⟨i1, i2, i3⟩ := clo_spec r (if kd == .free then (n, (env.cells.lookup n).getD 0) :: cs else cs) (fun p hp => hf p (List.mem_cons_of_mem _ hp)) (by
      intro p hp
      split at hp
      · rename_i q
        obtain ⟨c, hc⟩ := hf (n, kd) List.mem_cons_self (by simpa using q)
        rcases List.mem_cons.mp hp with rfl | hp
        · simp [hc]
        · exact h p hp
      · exact h p hp)
    refine ⟨i1, fun p hp => i2 p (by split <;> first | exact List.mem_cons_of_mem _ hp | exact hp), fun p hp hk => ?_⟩
    rcases List.mem_cons.mp hp with rfl | hp
    · simp only at hk; subst hk
      exact ⟨_, i2 _ (by rw [if_pos (by decide)]; exact List.mem_cons_self)⟩
    · exact i3 p hp hk

structure ScOk (ns : Ns) (sc : Scope) (fv : List Nat) : Prop where
  kind : sc.kind = .function
  noCell : ∀ p ∈ sc.names, p.2 ≠ .cell
  loc : ∀ p ∈ sc.names, p.2 = .local → sc.names.lookup p.1 = some .local
  free : ∀ p ∈ sc.names, p.2 = .free → ns.lookup p.1 = some .free ∨ ns.lookup p.1 = some .cell
  fv : ∀ x ∈ fv, sc.names.lookup (nm x) = some .free
theorem scopeOk_of {ns : Ns} {sc : Scope} {fv : List Nat} (h : scopeOk ns sc fv = true) : ScOk ns sc fv := by
  unfold scopeOk at h
  obtain ⟨h, h5⟩ := and2 h
  obtain ⟨h, h4⟩ := and2 h
  obtain ⟨h, h3⟩ := and2 h
  obtain ⟨h1, h2⟩ := and2 h
  rw [List.all_eq_true] at h2 h3 h4 h5
  refine ⟨of_decide_eq_true h1, fun p hp => of_decide_eq_true (h2 p hp), fun p hp hl => ?_, fun p hp hl => ?_, fun x hx => of_decide_eq_true (h5 x hx)⟩
  · rcases Bool.or_eq_true_iff.mp (h3 p hp) with q | q
    · exact absurd hl (of_decide_eq_true q)
    · exact of_decide_eq_true q
  · rcases Bool.or_eq_true_iff.mp (h4 p hp) with q | q
    · rcases Bool.or_eq_true_iff.mp q with q | q
      · exact absurd hl (of_decide_eq_true q)
      · exact .inl (of_decide_eq_true q)
    · exact .inr (of_decide_eq_true q)
theorem lookup_mem {β : Type} {names : List (Str × β)} {x : Str} {y : β} (h : names.lookup x = some y) : (x, y) ∈ names := mem_of_lookup h
theorem look_keep {fv : List Nat} {x : Nat} {d : V} : ∀ {ρ : Rho}, look x (keepV fv ρ) = some d → x ∈ fv ∧ look x ρ = some d
  | [], h => by simp [keepV, look_nil] at h
  | (y, e) :: r, h => by
    unfold keepV at h
    rw [List.filter_cons] at h
    split at h
    · rename_i q
      rw [look_cons] at h ⊢
      by_cases z : y = x
      · rw [if_pos z] at h ⊢
        exact ⟨by subst z; simpa using q, h⟩
      · rw [if_neg z] at h ⊢
        exact look_keep (ρ := r) h
    · rename_i q
      obtain ⟨h1, h2⟩ := look_keep (ρ := r) h
      rw [look_cons, if_neg (fun z => q (by subst z; simpa using h1))]
      exact ⟨h1, h2⟩

theorem freeCells {ns : Ns} {sc : Scope} {fv : List Nat} (hs : ScOk ns sc fv) (hn : NsOk ns env) (ok : EnvOk env) : ∀ p ∈ sc.names, p.2 = .free → ∃ c, env.cells.lookup p.1 = some c := fun p hp hk => by
  rcases hs.free p hp hk with q | q
  · exact ok.cells _ (hn.free _ q).symm
  · exact ok.cells _ (.inl (hn.same _ _ q (by decide)))
theorem NsOk.comp {ns : Ns} {sc : Scope} {fv : List Nat} {cl : List (Str × Addr)} {Ca : Addr} : NsOk sc.names (compEnvC sc cl Ca env) := by
  refine ⟨fun x kd h hk => ?_, fun x h => ?_⟩
  · rw [compKind, h]
    have : (kd == NameKind.free) = false := by simpa using hk
    simp only [Option.map_some, this, Bool.false_and, Bool.false_eq_true, if_false]
  · rw [compKind, h]
    simp only [Option.map_some]
    split
    · exact .inr rfl
    · exact .inl rfl
theorem FR.comp {ns : Ns} {sc : Scope} {fv : List Nat} {Ca : Addr} {m : Str → Option Value} {h : Heap} (F : FR G env α ρ h) (hs : ScOk ns sc fv) (hn : NsOk ns env) (hC : h.Ns Ca m) (hα : Ca ∉ α) (h0 : G.h0.get? Ca = none) :
    FR G (compEnvC sc (clo env sc.names []) Ca env) α (keepV fv ρ) h := by
  have hf := freeCells hs hn F.ok
  obtain ⟨c1, c2, c3⟩ := clo_spec sc.names [] hf (fun _ h => nomatch h)
  have lk : ∀ n c, (clo env sc.names []).lookup n = some c → env.cells.lookup n = some c := fun n c e => c1 _ (lookup_mem e)
  have some_of : ∀ n, sc.names.lookup n = some .free → ∃ c, (clo env sc.names []).lookup n = some c := fun n e => by
    obtain ⟨c, hc⟩ := c3 _ (lookup_mem e) rfl
    cases q : (clo env sc.names []).lookup n with
    | some c => exact ⟨c, rfl⟩
    | none =>
      have := List.lookup_eq_none_iff.mp q _ hc
      simp at this
  have kfree : ∀ n, (compEnvC sc (clo env sc.names []) Ca env).kindOf n = some .cell ∨ (compEnvC sc (clo env sc.names []) Ca env).kindOf n = some .free → sc.names.lookup n = some .free := fun n hk => by
    rw [compKind] at hk
    cases e : sc.names.lookup n with
    | none => rw [e] at hk; simp at hk
    | some kd =>
      rw [e] at hk
      simp only [Option.map_some] at hk
      have nc := hs.noCell _ (lookup_mem e)
      by_cases q : kd = .free
      · rw [q]
      · have q' : (kd == NameKind.free) = false := by simpa using q
        simp only [q', Bool.false_and, Bool.false_eq_true, if_false] at hk
        rcases hk with hk | hk <;> cases hk
        · exact absurd rfl nc
        · exact absurd rfl q
  refine ⟨⟨hs.kind, F.ok.glob, F.ok.blt, fun n hk => some_of n (kfree n hk), fun n n' c e e' => F.ok.apart n n' c (lk _ _ e) (lk _ _ e')⟩, h0, hα, fun c hc => ?_, ⟨m, hC, fun x d e hk => ?_⟩, fun x d e => ?_⟩
  · obtain ⟨p, hp, rfl⟩ := List.mem_map.mp hc
    exact F.C0 _ (mem_cells (c1 p hp))
  · exfalso
    have hx := hs.fv x (look_keep e).1
    rw [compKind, hx] at hk
    simp only [Option.map_some] at hk
    split at hk <;> cases hk
  · obtain ⟨hx, hl⟩ := look_keep e
    have hfree := hs.fv x hx
    have hkc : (compEnvC sc (clo env sc.names []) Ca env).kindOf (nm x) = some .cell ∨ (compEnvC sc (clo env sc.names []) Ca env).kindOf (nm x) = some .free := by
      rcases (NsOk.comp (ns := ns) (fv := fv) (cl := clo env sc.names []) (Ca := Ca) (env := env)).free _ hfree with q | q
      · exact .inr q
      · exact .inl q
    refine .inr ⟨hkc, ?_⟩
    have hek : env.kindOf (nm x) = some .free ∨ env.kindOf (nm x) = some .cell := by
      rcases hs.free _ (lookup_mem hfree) rfl with q | q
      · exact hn.free _ q
      · exact .inr (hn.same _ _ q (by decide))
    rcases F.cv x d hl with q | ⟨_, c, v, h1, h2, h3⟩
    · rw [q] at hek; rcases hek with z | z <;> cases z
    · obtain ⟨c', hc'⟩ := some_of _ hfree
      have := lk _ _ hc'
      rw [h1] at this; cases this
      exact ⟨c, v, hc', h2, h3⟩
end
end Mine

namespace Mine
open PySem PySem.W PyProof.Rows PySem.SeqAt

section
variable {prog : Program} {w : World} {A : Around} {E : Value → Shared → Prop} {R : Result → Shared → Prop} {s : Shared}
abbrev testsT (ifs : List Expr) (env : Env) : Sem Bool := forIn ifs true fun c r => if r = true then do let ok ← isTrue c env (eval c env); pure (ForInStep.yield ok) else pure (ForInStep.yield r)
theorem loop_gen {elt target iter : Expr} {ifs : List Expr} {scope : Scope} {pos : Pos} {it acc : Value} {env : Env} (I : Nat → Shared → Prop)
    (turn : ∀ n s, I n s → wpAny (model prog w) A (pyNext it) (fun r s₁ => match r with
      | none => R (.ok .next) s₁
      | some v => wpAny (model prog w) A (letOwnedTupleGo target it v) (fun _ s₁' => wpAny (model prog w) A (assign target env v) (fun _ s₂ =>
          wpAny (model prog w) A (testsT ifs env) (fun ok s₃ =>
            if ok = true then wpAny (model prog w) A (eval elt env) (fun x s₄ =>
              wpAny (model prog w) A (call (.builtin "list.append") [acc, x]) (fun _ s₅ => ∃ m, m < n ∧ I m s₅) (notedBy (model prog w) A env fun e s' => R (.error e) s') s₄) (notedBy (model prog w) A env fun e s' => R (.error e) s') s₃
            else ∃ m, m < n ∧ I m s₃) (notedBy (model prog w) A env fun e s' => R (.error e) s') s₂) (notedBy (model prog w) A env fun e s' => R (.error e) s') s₁') (notedBy (model prog w) A env fun e s' => R (.error e) s') s₁) (notedBy (model prog w) A env fun e s' => R (.error e) s') s)
    (n : Nat) (h : I n s) : codeAny (model prog w) A (.compLoop (.ListComp elt [⟨target, iter, ifs, 0⟩] scope pos) 0 it acc env) R s := by
  refine codeAny_loop rfl I (fun n s hI => ?_) n h
  show wpAny _ A ((compTurn (.ListComp elt [⟨target, iter, ifs, 0⟩] scope pos) 0 it acc env).onRaise (fun x => do noteFrame x env; theTreesLotGoes x)) _ _ s
  refine wpAny_noted ?_
  rw [compTurn_list]
  refine wpAny_bind (wpAny_standAt (wpAny_bind (wpAny_mono (turn n s hI) (fun r s₁ h₁ => ?_) fun _ _ h' => h')))
  cases r with
  | none => exact wpAny_pure h₁
  | some v =>
    refine wpAny_bind (wpAny_mono h₁ (fun _ s₁' h₁' => ?_) fun _ _ h' => h')
    refine wpAny_bind (wpAny_mono h₁' (fun _ s₂ h₂ => wpAny_bind (wpAny_mono h₂ (fun ok s₃ h₃ => ?_) fun _ _ h' => h')) fun _ _ h' => h')
    cases ok with
    | false => exact wpAny_pure ⟨rfl, h₃⟩
    | true =>
      exact wpAny_bind (wpAny_bind (wpAny_mono h₃ (fun x s₄ h₄ => wpAny_bind (wpAny_mono h₄ (fun _ s₅ h₅ => wpAny_pure (wpAny_pure ⟨rfl, h₅⟩)) fun _ _ h' => h')) fun _ _ h' => h'))
end

section
variable {G : Gl} {C : CallT} {k : Nat} {FT : Nat → Option Fn} {A : Around} {α : List Addr} {s : Shared} {H : Hp} {env : Env} {ρ : Rho}

theorem it_self {I : Addr} {j : Nat} {d : V} {Q : Value → Shared → Prop} {E : Value → Shared → Prop} (it : ItAt G α s.heap I j d) (h : Q (.ref I) s) : wpAny (Mo G) A (pyIter (.ref I)) Q E s := by
  cases d <;> simp only [ItAt] at it
  case rng => exact wpAny_pyIter_rangeiter it.1 h
  case tup => obtain ⟨_, _, _, it, _⟩ := it; exact wpAny_pyIter_tupleiter it h
  case ref => obtain ⟨_, _, it⟩ := it; exact wpAny_pyIter_listiter it h

/-- where a comprehension ends -/
noncomputable def CEnd (G : Gl) (α : List Addr) (s : Shared) (K : List V → Hp → Prop) (RR : Value → Addr → Result → Shared → Prop) : Prop :=
  ∀ D Ca α' H' h' tk m' acc, K acc H' → Ext G α α s.heap (α' ++ [D]) h' → LR G (α' ++ [D]) (H' ++ [.list acc]) h' → h'.Ns Ca m' → Ca ∉ α' ++ [D] → s.heap.get? Ca = none → G.h0.get? Ca = none → VR G (α' ++ [D]) h' (.ref D) (.ref H'.length) →
    RR (.ref D) Ca (.ok .next) { s with heap := h', toks := tk }

structure CI (G : Gl) (cenv : Env) (ρ0 : Rho) (α : List Addr) (h₀ : Heap) (I D : Addr) (d : V) (rest : Nat → Hp → List V → Prop) (n : Nat) (α' : List Addr) (H' : Hp) (h' : Heap) (j : Nat) (acc : List V) (ws : List Value) : Prop where
  jn : j ≤ n
  ext : Ext G α α h₀ α' h'
  led : LR G α' H' h'
  fr : FR G cenv α' ρ0 h'
  it : ItAt G α' h' I j d
  Iα : I ∉ α'
  pl : h'.PlainList D ws.toArray
  vals : VRs G α' h' ws acc
  Dα : D ∉ α'
  few : acc.length ≤ j
  rest : rest j H' acc

theorem comp_core {elt target iter : Expr} {ifs : List Expr} {sc : Scope} {pos : Pos} {fv : List Nat} {ns : Ns} {I : Addr} {d : V} {vs : List V} {st : Hp → Prop} {H₀ : Hp} {E : Value → Shared → Prop} {K : List V → Hp → Prop} {RR : Value → Addr → Result → Shared → Prop}
    (tst : V → Hp → (Bool → Hp → Prop) → Prop) (f : V → Hp → PV → Prop) (shape : V → Option Rho) (W : List V → Hp → List V → Prop) (hW0 : ∀ H acc, W [] H acc → st H ∧ K acc H) (hW1 : ∀ v vs H acc, W (v :: vs) H acc → st H ∧ tst v H fun b H₁ => (b = true → f v H₁ fun y H' => W vs H' (acc ++ [y])) ∧ (b = false → W vs H₁ acc))
    {hb : Heap} (xb : Ext G α α hb α s.heap) (hIb : hb.get? I = none) (hA : AOk k A) (hs : ScOk ns sc fv) (hn : NsOk ns env) (F : FR G env α ρ s.heap) (l : LR G α H s.heap) (hIα : I ∉ α) (hI0 : G.h0.get? I = none) (hIc : I ∉ env.cells.map (·.2)) (it : ItAt G α s.heap I 0 d) (hi : iters d H₀ = some (vs, st)) (hlen : vs.length ≤ 100000)
    (hass : ∀ (α' : List Addr) (H' : Hp) (s' : Shared) (v : Value) (dv : V) (es : Rho) (j : Nat) (Ca : Addr) (R : Unit → Shared → Prop) (E : Value → Shared → Prop), FR G (compEnvC sc (clo env sc.names []) Ca env) α' (keepV fv ρ) s'.heap → LR G α' H' s'.heap → ItAt G α' s'.heap I j d → VR G α' s'.heap v dv → shape dv = some es →
      (∀ h' tk, FR G (compEnvC sc (clo env sc.names []) Ca env) α' (es ++ keepV fv ρ) h' → LR G α' H' h' → Ext G [Ca] α' s'.heap α' h' → R () { s' with heap := h', toks := tk }) →
      wpAny (Mo G) A (letOwnedTupleGo target (.ref I) v) (fun _ s₁ => wpAny (Mo G) A (assign target (compEnvC sc (clo env sc.names []) Ca env) v) R E s₁) E s')
    (hsub : ∀ dv es, shape dv = some es → ∀ x d, look x (keepV fv ρ) = some d → look x (es ++ keepV fv ρ) = some d)
    (htest : ∀ (α' : List Addr) (H' : Hp) (s' : Shared) (dv : V) (es : Rho) (Ca : Addr) (Kb : Bool → Hp → Prop), FR G (compEnvC sc (clo env sc.names []) Ca env) α' (es ++ keepV fv ρ) s'.heap → LR G α' H' s'.heap → shape dv = some es → tst dv H' Kb → Tr G RB A α' (testsT ifs (compEnvC sc (clo env sc.names []) Ca env)) Kb s')
    (helt : ∀ (α' : List Addr) (H' : Hp) (s' : Shared) (dv : V) (es : Rho) (Ca : Addr) (Q : PV), FR G (compEnvC sc (clo env sc.names []) Ca env) α' (es ++ keepV fv ρ) s'.heap → LR G α' H' s'.heap → shape dv = some es → f dv H' Q → Tr G (VR G) A α' (eval elt (compEnvC sc (clo env sc.names []) Ca env)) Q s')
    (hshape : ∀ dv r H acc, W (dv :: r) H acc → ∃ es, shape dv = some es)
    (hw : W vs H [])
    (hRR : ∀ D Ca α' H' h' tk m' acc, K acc H' → Ext G α α hb (α' ++ [D]) h' → LR G (α' ++ [D]) (H' ++ [.list acc]) h' → h'.Ns Ca m' → Ca ∉ α' ++ [D] → hb.get? Ca = none → G.h0.get? Ca = none → VR G (α' ++ [D]) h' (.ref D) (.ref H'.length) →
      RR (.ref D) Ca (.ok .next) { s with heap := h', toks := tk }) :
    wpAny (Mo G) A (newList []) (fun acc s₃ => wpAny (Mo G) A (newFunctionEnv sc env.globals (clo env sc.names []) [] env.qual none .none (some env)) (fun cenv s₄ =>
      codeAny (Mo G) A (.compStart (.ListComp elt [⟨target, iter, ifs, 0⟩] sc pos) 0 (.ref I) acc { cenv with scope := relabel sc env }) (RR acc cenv.locals) s₄) E s₃) E s := by
  refine wpAny_newObj_type (wpAny_newFunctionEnv hs.noCell (by intro y hy; simp at hy) (fun h₁ hns₁ hsb₁ => ?_) hs.kind)
  dsimp only at hns₁ hsb₁ ⊢
  generalize hH2 : s.heap.push { cls := .type "list", dict := none, data := .seq ([] : List Value).toArray } = H2 at hns₁ hsb₁ ⊢
  have hC : H2.objs.size = s.heap.objs.size + 1 := by rw [← hH2, Heap.size_push]
  have hDC : s.heap.objs.size ≠ H2.objs.size := by rw [hC]; exact Nat.ne_of_lt (Nat.lt_succ_self _)
  have old : ∀ b o, s.heap.get? b = some o → h₁.get? b = some o := fun b o e => hsb₁.extBut b o (Nat.ne_of_lt (by rw [hC]; exact Nat.lt_succ_of_lt (Heap.lt_size e))) (Heap.get?_push_of_some _ (hH2 ▸ Heap.get?_push_of_some _ e))
  have hacc : h₁.PlainList s.heap.objs.size #[] := ⟨_, hsb₁.extBut _ _ hDC (Heap.get?_push_of_some _ (hH2 ▸ Heap.get?_push_size _ rfl))⟩
  have fresh : ∀ a, s.heap.objs.size ≤ a → s.heap.get? a = none := fun a ha => by
    cases e : s.heap.get? a with
    | none => rfl
    | some o' => exact absurd (Heap.lt_size e) (Nat.not_lt.mpr ha)
  have fD := fresh _ (Nat.le_refl _)
  have fC := fresh H2.objs.size (by rw [hC]; exact Nat.le_succ _)
  have bD := xb.back fD
  have bC := xb.back fC
  have offα : ∀ a, s.heap.get? a = none → a ∉ α := fun a e m => by obtain ⟨o, e', _⟩ := l.occ m; rw [e] at e'; cases e'
  have offC : ∀ a, s.heap.get? a = none → a ∉ env.cells.map (·.2) := fun a e m => by obtain ⟨_, _, v, o, e', _⟩ := F.C0 a m; rw [e] at e'; cases e'
  obtain ⟨oI, eI, nI⟩ := it.notImm
  have hIs : ∀ a, s.heap.get? a = none → I ≠ a := fun a e q => by subst q; rw [eI] at e; cases e
  have x₀ : Ext G α α s.heap α h₁ := .of_keeps old
  have hcl := clo_spec sc.names [] (freeCells hs hn F.ok) (fun _ h => nomatch h)
  have cellsIn : ∀ c ∈ (clo env sc.names []).map (·.2), c ∈ env.cells.map (·.2) := fun c hc => by
    obtain ⟨p, hp, rfl⟩ := List.mem_map.mp hc
    exact mem_cells (hcl.1 p hp)
  generalize hcenv : compEnvC sc (clo env sc.names []) H2.objs.size env = cenv at *
  have cl1 : cenv.locals = H2.objs.size := by rw [← hcenv]; rfl
  have cl2 : cenv.cells = clo env sc.names [] := by rw [← hcenv]; rfl
  have F₁ : FR G cenv α (keepV fv ρ) h₁ := by
    rw [← hcenv]
    exact (F.ext x₀).comp hs hn hns₁ (offα _ fC) (l.above (by rw [hC]; exact Nat.le_succ _)).1
  have loop : ∀ s₃ : Shared, s₃ = { s with heap := h₁, toks := s.toks + ([] : List (Str × Value)).length } →
      codeAny (Mo G) A (.compLoop (.ListComp elt [⟨target, iter, ifs, 0⟩] sc pos) 0 (.ref I) (.ref s.heap.objs.size) cenv) (RR (.ref s.heap.objs.size) H2.objs.size) s₃ := by
    rintro s₃ rfl
    refine loop_gen (fun n s' => ∃ α' H' h' tk j acc ws, s' = { s with heap := h', toks := tk } ∧ n = vs.length + 1 - j ∧
      CI G cenv (keepV fv ρ) α hb I s.heap.objs.size d (fun j H acc => W (vs.drop j) H acc) vs.length α' H' h' j acc ws) ?_ (vs.length + 1)
      ⟨α, H, h₁, _, 0, [], [], rfl, rfl, ⟨Nat.zero_le _, xb.then x₀, l.all old, F₁, it.ext x₀ hIα, hIα, hacc, .nil, offα _ fD, Nat.le_refl _, by simpa using hw⟩⟩
    rintro n s' ⟨α', H', h', tk, j, acc, ws, rfl, rfl, c⟩
    have grow : ∀ a ∈ α', a ∈ α ∨ hb.get? a = none := fun a ha => by
      obtain ⟨β, rfl, hβ⟩ := c.ext.pre
      rcases List.mem_append.mp ha with q | q
      · exact .inl q
      · exact .inr (hβ a q)
    have fI : ∀ ae ∈ [I], ae ≠ cenv.locals ∧ ae ∉ cenv.cells.map (·.2) := fun a ha => by
      simp at ha; subst ha
      rw [cl1, cl2]
      exact ⟨hIs _ fC, fun m => hIc (cellsIn _ m)⟩
    have r := c.rest
    by_cases hj : j < vs.length
    · rw [List.drop_eq_getElem_cons hj] at r
      obtain ⟨es, hes⟩ := hshape _ _ _ _ r
      obtain ⟨hst, r⟩ := hW1 _ _ _ _ r
      refine it_next (s := { s with heap := h', toks := tk }) c.led hi hst c.it c.Iα (List.getElem?_eq_getElem hj) fun v h₂ tk₂ x₂ it₂ rv => ?_
      have l₂ : LR G α' H' h₂ := c.led.off x₂ fun a ha => by simp at ha; subst ha; exact ⟨c.Iα, hI0⟩
      have F₂ : FR G cenv α' (keepV fv ρ) h₂ := c.fr.off x₂ fI
      have D₂ : h₂.PlainList s.heap.objs.size ws.toArray := c.pl.at fun o e => x₂.keep _ o e (.inl (by simp; exact fun q => hIs _ fD q.symm))
      have xa : Ext G α α hb α' h₂ := c.ext.trans x₂ fun a ha => by simp at ha; subst ha; exact .inr hIb
      rw [← hcenv] at F₂ ⊢
      refine hass α' H' _ v _ es (j + 1) _ _ _ F₂ l₂ it₂ rv hes fun h₃ tk₃ F₃ l₃ x₃ => ?_
      have it₃ := it₂.ext x₃ (by simp; exact hIs _ fC)
      have D₃ := D₂.at fun o e => x₃.keep _ o e (.inl (by simp; exact hDC))
      have xb' : Ext G α α hb α' h₃ := xa.trans x₃ fun a ha => by simp at ha; subst ha; exact .inr bC
      have w₃ := (c.vals.ext x₂).ext x₃
      refine htest α' H' _ _ es _ _ F₃ l₃ hes r _ _ fun b b' α₄ H₄ h₄ tk₄ hq₄ x₄ l₄ r₄ => ?_
      cases r₄
      have I₄ : I ∉ α₄ := by
        obtain ⟨o, e, _⟩ := it₃.notImm
        exact x₄.notIn c.Iα e
      have Dα₄ : s.heap.objs.size ∉ α₄ := by
        obtain ⟨_, e⟩ := D₃
        exact x₄.notIn c.Dα e
      have it₄ := it₃.ext x₄ c.Iα
      have D₄ := D₃.at fun o e => x₄.keep _ o e (.inl c.Dα)
      have w₄ := w₃.ext x₄
      have xc : Ext G α α hb α₄ h₄ := xb'.trans x₄ grow
      have F₄ := F₃.ext x₄
      have grow₄ : ∀ a ∈ α₄, a ∈ α ∨ hb.get? a = none := fun a ha => by
        obtain ⟨β, rfl, hβ⟩ := xc.pre
        rcases List.mem_append.mp ha with q | q
        · exact .inl q
        · exact .inr (hβ a q)
      cases b with
      | false =>
        rw [if_neg (by decide)]
        refine ⟨vs.length + 1 - (j + 1), by omega, α₄, H₄, h₄, tk₄, j + 1, acc, ws, rfl, rfl, ⟨hj, xc, l₄, ?_, it₄, I₄, D₄, w₄, Dα₄, Nat.le_succ_of_le c.few, hq₄.2 rfl⟩⟩
        exact F₄.sub (hsub _ _ hes)
      | true =>
        rw [if_pos rfl]
        refine helt α₄ H₄ _ _ es _ _ F₄ l₄ hes (hq₄.1 rfl) _ _ fun y dy α₅ H₅ h₅ tk₅ hq₅ x₅ l₅ r₅ => ?_
        have I₅ : I ∉ α₅ := by
          obtain ⟨o, e, _⟩ := it₄.notImm
          exact x₅.notIn I₄ e
        have Dα₅ : s.heap.objs.size ∉ α₅ := by
          obtain ⟨_, e⟩ := D₄
          exact x₅.notIn Dα₄ e
        have it₅ := it₄.ext x₅ I₄
        have D₅ := D₄.at fun o e => x₅.keep _ o e (.inl Dα₄)
        have w₅ := w₄.ext x₅
        have xd : Ext G α α hb α₅ h₅ := xc.trans x₅ grow₄
        have F₅ := F₄.ext x₅
        have hwl := w₅.length
        have hsz : ws.toArray.size ≤ sizeLine := by have := c.few; rw [sizeLine_eq, List.size_toArray, hwl]; omega
        refine wpAny_list_append_plain (hsz := hsz) D₅ fun h₆ D₆ s₆ => ?_
        have nD : ∀ o, h₅.get? s.heap.objs.size = some o → ¬ Imm G o := fun o e i => by
          obtain ⟨_, e'⟩ := D₅
          rw [e'] at e; cases e; exact i.notList rfl
        have x₆ : Ext G [s.heap.objs.size] α₅ h₅ α₅ h₆ := Ext.at s₆ nD (let ⟨_, e⟩ := D₆; ⟨_, e⟩)
        have l₆ : LR G α₅ H₅ h₆ := l₅.off x₆ fun a ha => by simp at ha; subst ha; exact ⟨Dα₅, (l.above (Nat.le_refl _)).1⟩
        refine ⟨vs.length + 1 - (j + 1), by omega, α₅, H₅, h₆, tk₅, j + 1, acc ++ [dy], ws ++ [y], rfl, rfl, ⟨hj, xd.trans x₆ (fun a ha => by simp at ha; subst ha; exact .inr bD), l₆, ?_, it₅.ext x₆ (by simp; exact hIs _ fD), I₅, by simpa using D₆, (w₅.ext x₆).append (.cons (r₅.ext x₆) .nil), Dα₅, by simp; exact c.few, hq₅⟩⟩
        have F₆ := F₅.sub (hsub _ _ hes)
        refine F₆.off x₆ fun a ha => ?_
        simp at ha; subst ha
        exact ⟨hDC, fun m => offC _ fD (cellsIn _ m)⟩
    · have hj' : j = vs.length := by have := c.jn; omega
      subst hj'
      rw [List.drop_length] at r
      obtain ⟨hst, hK⟩ := hW0 _ _ r
      refine it_end (s := { s with heap := h', toks := tk }) hA.handled c.led hi hst c.it (Nat.le_refl _) fun h₂ x₂ => ?_
      obtain ⟨oI', eI', nI'⟩ := c.it.notImm
      have ni : ∀ o, h'.get? I = some o → ¬ Imm G o := fun o e => by rw [eI'] at e; cases e; exact nI'
      have l₂ : LR G α' H' h₂ := c.led.but x₂ c.Iα hI0 ni
      have D₂ : h₂.PlainList s.heap.objs.size ws.toArray := c.pl.at fun o e => x₂ _ o (fun q => hIs _ fD q.symm) e
      have w₂ : VRs G α' h₂ ws acc := c.vals.mono (fun _ _ e => e) fun b o e ib => x₂ b o (fun q => by subst q; exact ni _ e ib) e
      obtain ⟨nD, eD⟩ := D₂
      have l₃ : LR G (α' ++ [s.heap.objs.size]) (H' ++ [.list acc]) h₂ := l₂.join c.Dα (l.above (Nat.le_refl _)) ⟨ws, nD, eD, w₂.mono (fun i b q => by rw [List.getElem?_append_left (List.getElem?_eq_some_iff.mp q).1]; exact q) fun b o e _ => e⟩
      have x₃ : Ext G α α hb α' h₂ := c.ext.thenBut x₂ hIb
      have hn₂ : ∃ m, h₂.Ns H2.objs.size m := by
        obtain ⟨m, hm, _⟩ := c.fr.ns
        rw [cl1] at hm
        exact ⟨m, ns_get hm fun o e => x₂ _ o (fun q => hIs _ fC q.symm) e⟩
      obtain ⟨m', hm'⟩ := hn₂
      refine hRR _ _ α' H' h₂ tk m' acc hK (x₃.join bD) l₃ hm' ?_ bC (l.above (by rw [hC]; exact Nat.le_succ _)).1 (.here l₂)
      intro m
      rcases List.mem_append.mp m with q | q
      · have := c.fr.Lα; rw [cl1] at this; exact this q
      · simp at q; exact hDC q.symm
  rw [← hcenv] at loop
  exact codeAny_compStart_list (loop _ rfl) (it_self (s := { s with heap := h₁, toks := s.toks + ([] : List (Str × Value)).length }) (it.ext x₀ hIα) (loop _ rfl))
end
end Mine

namespace Mine
open PySem PySem.W PyProof.Rows PySem.SeqAt

section
variable {G : Gl} {C : CallT} {k : Nat} {FT : Nat → Option Fn} {A : Around} {α : List Addr} {s : Shared} {H : Hp} {env : Env} {ρ : Rho}

theorem comp_run {elt target iter : Expr} {ifs : List Expr} {sc : Scope} {pos pos' : Pos} {fv : List Nat} {ns : Ns} {E : Value → Shared → Prop} {K : List V → Hp → Prop} {use : Option (Value → Sem Unit)} {Q : Value → Shared → Prop} {P : PV} {ie : Mine.E}
    (tst : V → Hp → (Bool → Hp → Prop) → Prop) (f : V → Hp → PV → Prop) (shape : V → Option Rho) (W : (Hp → Prop) → List V → Hp → List V → Prop) (hW0 : ∀ st H acc, W st [] H acc → st H ∧ K acc H)
    (hW1 : ∀ st v vs H acc, W st (v :: vs) H acc → st H ∧ tst v H fun b H₁ => (b = true → f v H₁ fun y H' => W st vs H' (acc ++ [y])) ∧ (b = false → W st vs H₁ acc))
    (he : EOk G C k ie) (hc : ie.chk ns iter = true) (hset : notSet iter = true)
    (hA : AOk k A) (hs : ScOk ns sc fv) (hn : NsOk ns env) (F : FR G env α ρ s.heap) (l : LR G α H s.heap) (h : ie.wp C ρ H P)
    (hP : ∀ d H₁, P d H₁ → ∃ vs st, iters d H₁ = some (vs, st) ∧ vs.length ≤ 100000 ∧ W st vs H₁ [] ∧
      ∀ (I : Addr) (α' : List Addr) (H' : Hp) (s' : Shared) (v : Value) (dv : V) (es : Rho) (j : Nat) (Ca : Addr) (R : Unit → Shared → Prop) (E : Value → Shared → Prop), FR G (compEnvC sc (clo env sc.names []) Ca env) α' (keepV fv ρ) s'.heap → LR G α' H' s'.heap → ItAt G α' s'.heap I j d → VR G α' s'.heap v dv → shape dv = some es →
        (∀ h' tk, FR G (compEnvC sc (clo env sc.names []) Ca env) α' (es ++ keepV fv ρ) h' → LR G α' H' h' → Ext G [Ca] α' s'.heap α' h' → R () { s' with heap := h', toks := tk }) →
        wpAny (Mo G) A (letOwnedTupleGo target (.ref I) v) (fun _ s₁ => wpAny (Mo G) A (assign target (compEnvC sc (clo env sc.names []) Ca env) v) R E s₁) E s')
    (hsub : ∀ dv es, shape dv = some es → ∀ x d, look x (keepV fv ρ) = some d → look x (es ++ keepV fv ρ) = some d)
    (htest : ∀ (α' : List Addr) (H' : Hp) (s' : Shared) (dv : V) (es : Rho) (Ca : Addr) (Kb : Bool → Hp → Prop), FR G (compEnvC sc (clo env sc.names []) Ca env) α' (es ++ keepV fv ρ) s'.heap → LR G α' H' s'.heap → shape dv = some es → tst dv H' Kb → Tr G RB A α' (testsT ifs (compEnvC sc (clo env sc.names []) Ca env)) Kb s')
    (helt : ∀ (α' : List Addr) (H' : Hp) (s' : Shared) (dv : V) (es : Rho) (Ca : Addr) (Q : PV), FR G (compEnvC sc (clo env sc.names []) Ca env) α' (es ++ keepV fv ρ) s'.heap → LR G α' H' s'.heap → shape dv = some es → f dv H' Q → Tr G (VR G) A α' (eval elt (compEnvC sc (clo env sc.names []) Ca env)) Q s')
    (hshape : ∀ st dv r H acc, W st (dv :: r) H acc → ∃ es, shape dv = some es)
    (hfin : ∀ D Ca α' H' h' tk m' acc, K acc H' → Ext G α α s.heap (α' ++ [D]) h' → LR G (α' ++ [D]) (H' ++ [.list acc]) h' → h'.Ns Ca m' → Ca ∉ α' ++ [D] → s.heap.get? Ca = none → G.h0.get? Ca = none → VR G (α' ++ [D]) h' (.ref D) (.ref H'.length) →
      compPost (Mo G) A E use Q (.ref D) Ca (.ok .next) { s with heap := h', toks := tk }) :
    wpAny (Mo G) A (comprehension (.ListComp elt [⟨target, iter, ifs, 0⟩] sc pos) sc env pos' (newList []) false (eval iter env) use) Q E s := by
  refine wpAny_comprehension_free rfl (fold_set hset) (closure_eq (freeCells hs hn F.ok)) hs.kind hs.loc (he hc hn hA F l h _ E fun xv d α₁ H₁ h₁ tk₁ hq₁ x₁ l₁ r₁ => ?_)
  obtain ⟨vs, st, hi, hlen, hw, hass⟩ := hP d H₁ hq₁
  refine it_new (s := { s with heap := h₁, toks := tk₁ }) l₁ r₁ hi fun o it => ?_
  have hk : ∀ b q, h₁.get? b = some q → (h₁.push o).get? b = some q := fun b q e => pushed b q e
  have fI : h₁.get? h₁.objs.size = none := fresh_at _
  have xb : Ext G α₁ α₁ h₁ α₁ (h₁.push o) := .of_keeps hk
  have F₁ := F.ext x₁
  refine comp_core (s := { s with heap := h₁.push o, toks := tk₁ }) (fv := fv) (ns := ns) (ρ := ρ) tst f shape (W st) (hW0 st) (hW1 st) xb fI hA hs hn (F₁.ext xb) (l₁.all hk) ?_ (l₁.above (Nat.le_refl _)).1 ?_ it hi hlen
    (hass _) hsub htest helt (hshape st) hw fun D Ca α' H' h' tk m' acc hK x l' hns hCa fCa hC0 rv => ?_
  · intro m; obtain ⟨q, e, _⟩ := l₁.occ m; rw [fI] at e; cases e
  · intro m; obtain ⟨_, _, v, q, e, _⟩ := F₁.C0 _ m; rw [fI] at e; cases e
  · exact hfin D Ca α' H' h' tk m' acc hK (x₁.then x) l' hns hCa (x₁.back fCa) hC0 rv

theorem keep_ne {ns : Ns} {sc : Scope} {fv : List Nat} {x y : Nat} {d : V} (hs : ScOk ns sc fv) (hx : isLoc sc.names (nm x) = true) (h : look y (keepV fv ρ) = some d) : x ≠ y := fun q => by
  subst q
  have := hs.fv _ (look_keep h).1
  have h2 : sc.names.lookup (nm x) = some .local := of_decide_eq_true hx
  rw [this] at h2; cases h2

/-- a name as target -/
theorem hass_name {ns : Ns} {sc : Scope} {fv : List Nat} {x : Nat} {p : Pos} (hs : ScOk ns sc fv) (hx : isLoc sc.names (nm x) = true) (I : Addr) (α' : List Addr) (H' : Hp) (s' : Shared) (v : Value) (dv : V) (es : Rho) (Ca : Addr) (R : Unit → Shared → Prop) (E : Value → Shared → Prop)
    (F : FR G (compEnvC sc (clo env sc.names []) Ca env) α' (keepV fv ρ) s'.heap) (l : LR G α' H' s'.heap) (r : VR G α' s'.heap v dv) (he : some [(x, dv)] = some es)
    (h : ∀ h' tk, FR G (compEnvC sc (clo env sc.names []) Ca env) α' (es ++ keepV fv ρ) h' → LR G α' H' h' → Ext G [Ca] α' s'.heap α' h' → R () { s' with heap := h', toks := tk }) :
    wpAny (Mo G) A (letOwnedTupleGo (.Name (nm x) p) (.ref I) v) (fun _ s₁ => wpAny (Mo G) A (assign (.Name (nm x) p) (compEnvC sc (clo env sc.names []) Ca env) v) R E s₁) E s' := by
  cases he
  have : letOwnedTupleGo (.Name (nm x) p) (.ref I) v = pure () := rfl
  rw [this]
  refine wpAny_pure (wpAny_assign_Name (F.storeL l (loc_kind (NsOk.comp (ns := ns) (fv := fv)) hx) r fun h' tk F' l' x' => h h' tk F' l' x'))
noncomputable def two (x y : Nat) : V → Option Rho
  | .tup [a, b] => some [(y, b), (x, a)]
  | _ => none
/-- two names -/
theorem hass_two {ns : Ns} {sc : Scope} {fv : List Nat} {x y kk : Nat} {p p₁ p₂ : Pos} (hA : A.handled = none) (hs : ScOk ns sc fv) (hx : isLoc sc.names (nm x) = true) (hy : isLoc sc.names (nm y) = true) (I : Addr) (α' : List Addr) (H' : Hp) (s' : Shared) (v : Value) (dv : V) (es : Rho) (j i : Nat) (Ca : Addr) (R : Unit → Shared → Prop) (E : Value → Shared → Prop)
    (F : FR G (compEnvC sc (clo env sc.names []) Ca env) α' (keepV fv ρ) s'.heap) (l : LR G α' H' s'.heap) (it : ItAt G α' s'.heap I j (.ref i)) (r : VR G α' s'.heap v dv) (he : two x y dv = some es)
    (h : ∀ h' tk, FR G (compEnvC sc (clo env sc.names []) Ca env) α' (es ++ keepV fv ρ) h' → LR G α' H' h' → Ext G [Ca] α' s'.heap α' h' → R () { s' with heap := h', toks := tk }) :
    wpAny (Mo G) A (letOwnedTupleGo (.Tuple [.Name (nm x) p₁, .Name (nm y) p₂] kk p) (.ref I) v) (fun _ s₁ => wpAny (Mo G) A (assign (.Tuple [.Name (nm x) p₁, .Name (nm y) p₂] kk p) (compEnvC sc (clo env sc.names []) Ca env) v) R E s₁) E s' := by
  obtain ⟨a, b, rfl, rfl⟩ : ∃ a b, dv = .tup [a, b] ∧ es = [(y, b), (x, a)] := by
    unfold two at he
    split at he
    · cases he; exact ⟨_, _, rfl, rfl⟩
    · cases he
  cases r with | tup e r =>
  cases r with | cons r1 r =>
  cases r with | cons r2 r =>
  cases r
  obtain ⟨_, _, it⟩ := it
  refine wpAny_letOwnedTupleGo_listiter it ?_
  refine wpAny_assign_Tuple hA ⟨_, e, rfl, _, rfl⟩ rfl rfl fun h₁ hx₁ => ?_
  have hk : ∀ b o, s'.heap.get? b = some o → h₁.get? b = some o := fun b o e => hx₁ b o (Nat.ne_of_lt (Heap.lt_size e)) e
  have x₁ : Ext G α' α' s'.heap α' h₁ := .of_keeps hk
  refine wpAny_bind (wpAny_holding (wpAny_assign_Name ((F.ext x₁).storeL (s := { s' with heap := h₁ }) (l.all hk) (loc_kind (NsOk.comp (ns := ns) (fv := fv)) hx) (r1.ext x₁) fun h₂ tk₂ F₂ l₂ x₂ => ?_)))
  refine wpAny_bind (wpAny_holding (wpAny_assign_Name (F₂.storeL (s := { s' with heap := h₂, toks := tk₂ }) l₂ (loc_kind (NsOk.comp (ns := ns) (fv := fv)) hy) ((r2.ext x₁).ext x₂) fun h₃ tk₃ F₃ l₃ x₃ => ?_)))
  exact wpAny_pure (h h₃ tk₃ F₃ l₃ (((Ext.of_keeps hk : Ext G [Ca] α' s'.heap α' h₁).trans x₂ fun _ h => .inl h).trans x₃ fun _ h => .inl h))

theorem tests_none {α' : List Addr} {H' : Hp} {s' : Shared} {Kb : Bool → Hp → Prop} {e : Env} (l : LR G α' H' s'.heap) (h : Kb true H') : Tr G RB A α' (testsT [] e) Kb s' :=
  fun R E hR => wpAny_tests_nil (hR _ _ _ _ _ s'.toks h .refl l rfl)

/-- what a comprehension hands on, where its value is wanted -/
theorem fin_eval {E : Value → Shared → Prop} {R : Value → Shared → Prop} {Q : PV} (hR : ∀ v d α' H' h' tk, Q d H' → Ext G α α s.heap α' h' → LR G α' H' h' → VR G α' h' v d → R v { s with heap := h', toks := tk }) :
    ∀ D Ca α' H' h' tk m' acc, Q (.ref H'.length) (H' ++ [.list acc]) → Ext G α α s.heap (α' ++ [D]) h' → LR G (α' ++ [D]) (H' ++ [.list acc]) h' → h'.Ns Ca m' → Ca ∉ α' ++ [D] → s.heap.get? Ca = none → G.h0.get? Ca = none → VR G (α' ++ [D]) h' (.ref D) (.ref H'.length) →
      compPost (Mo G) A E none R (.ref D) Ca (.ok .next) { s with heap := h', toks := tk } := by
  intro D Ca α' H' h' tk m' acc hK x l' hns hCa fCa hC0 rv
  refine ⟨m', hns, fun h'' hs'' => ?_⟩
  have ni : ∀ o, h'.get? Ca = some o → ¬ Imm G o := fun o e i => by
    obtain ⟨o', es, ep, e', hd, _⟩ := hns
    rw [e'] at e; cases e; exact i.notDict hd
  exact hR _ _ _ _ _ tk hK (x.thenBut hs''.extBut fCa) (l'.but hs''.extBut hCa hC0 ni) (rv.but hs''.extBut ni)

/-- a comprehension, whatever becomes of its list -/
noncomputable def CompOk (G : Gl) (C : CallT) (k : Nat) (e : E) : Prop :=
  ∀ {ns : Ns} {x : Expr} {env : Env} {ρ : Rho} {H : Hp} {α : List Addr} {s : Shared} {A : Around} {Q : PV} {use : Option (Value → Sem Unit)} {Er : Value → Shared → Prop} {R : Value → Shared → Prop},
    e.chk ns x = true → NsOk ns env → AOk k A → FR G env α ρ s.heap → LR G α H s.heap → e.wp C ρ H Q →
    (∀ D Ca α' H' h' tk m' acc, Q (.ref H'.length) (H' ++ [.list acc]) → Ext G α α s.heap (α' ++ [D]) h' → LR G (α' ++ [D]) (H' ++ [.list acc]) h' → h'.Ns Ca m' → Ca ∉ α' ++ [D] → s.heap.get? Ca = none → G.h0.get? Ca = none → VR G (α' ++ [D]) h' (.ref D) (.ref H'.length) →
      compPost (Mo G) A Er use R (.ref D) Ca (.ok .next) { s with heap := h', toks := tk }) →
    ∃ elt gens sc pos, x = .ListComp elt gens sc pos ∧ firstAsync gens = false ∧ wpAny (Mo G) A (comprehension x sc env (firstIterPos gens pos) (newList []) false (firstIter gens env) use) R Er s

theorem cok_comp {e it : E} {x : Nat} {fv : List Nat} (he : EOk G C k e) (hit : EOk G C k it) : CompOk G C k (.comp e x it fv) := by
  intro ns xe env ρ H α s A Q use Er R hc hn hA F l h hfin
  obtain ⟨_, _, _, _, rfl, q1⟩ := pComp_of hc
  obtain ⟨_, rfl, q2⟩ := l1_of q1
  obtain ⟨_, _, _, rfl, q3⟩ := gIs_of q2
  obtain ⟨_, _, rfl, q4⟩ := pName_of q3
  obtain ⟨rfl, q5⟩ := l0_of q4
  · obtain ⟨hc, h6⟩ := and2 q5
    obtain ⟨hc, h5⟩ := and2 hc
    obtain ⟨hc, h4⟩ := and2 hc
    obtain ⟨hc, h3⟩ := and2 hc
    obtain ⟨h1, h2⟩ := and2 hc
    cases of_decide_eq_true h1
    have hs := scopeOk_of h3
    dsimp only [wE_comp] at h
    refine ⟨_, _, _, _, rfl, rfl, ?_⟩
    refine comp_run (fv := fv) (ns := ns) (ρ := ρ) (K := fun out H₂ => Q (.ref H₂.length) (H₂ ++ [O.list out])) (fun _ H k => k true H) (fun v H K => e.wp C ((x, v) :: keepV fv ρ) H K) (fun dv => some [(x, dv)])
      (fun st vs H acc => compW (fun v H K => e.wp C ((x, v) :: keepV fv ρ) H K) st vs H acc fun out H₂ => Q (.ref H₂.length) (H₂ ++ [O.list out])) (fun _ _ _ h => by exact h) (fun st v vs H acc h => ⟨h.1, fun _ => h.2, fun e => nomatch e⟩)
      hit h5 h4 hA hs hn F l h (fun d H₁ hP => ?_) (fun dv es hes y d hy => ?_) (fun α' H' s' dv es Ca Kb F' l' hes ht => tests_none l' ht) (fun α' H' s' dv es Ca Q' F' l' hes hf => ?_) (fun st dv r H acc _ => ⟨_, rfl⟩) hfin
    · split at hP
      · rename_i vs st hi
        exact ⟨vs, st, hi, hP.1, hP.2, fun I α' H' s' v dv es j Ca R E F' l' _ r' hes hh => hass_name hs h2 I α' H' s' v dv es Ca R E F' l' r' hes hh⟩
      · exact hP.elim
    · cases hes
      show look y ((x, dv) :: keepV fv ρ) = some d
      rw [look_cons, if_neg (keep_ne hs h2 hy)]; exact hy
    · cases hes
      exact he h6 (NsOk.comp (ns := ns) (fv := fv)) hA F' l' hf
theorem cok_compIf {e it c : E} {x : Nat} {fv : List Nat} (he : EOk G C k e) (hit : EOk G C k it) (hcd : EOkT G C k c) : CompOk G C k (.compIf e x it c fv) := by
  intro ns xe env ρ H α s A Q use Er R hc hn hA F l h hfin
  obtain ⟨_, _, _, _, rfl, q1⟩ := pComp_of hc
  obtain ⟨_, rfl, q2⟩ := l1_of q1
  obtain ⟨_, _, _, rfl, q3⟩ := gIs_of q2
  obtain ⟨_, _, rfl, q4⟩ := pName_of q3
  obtain ⟨_, rfl, q5⟩ := l1_of q4
  · obtain ⟨hc, h7⟩ := and2 q5
    obtain ⟨hc, h6⟩ := and2 hc
    obtain ⟨hc, h5⟩ := and2 hc
    obtain ⟨hc, h4⟩ := and2 hc
    obtain ⟨hc, h3⟩ := and2 hc
    obtain ⟨h1, h2⟩ := and2 hc
    cases of_decide_eq_true h1
    have hs := scopeOk_of h3
    dsimp only [wE_compIf] at h
    refine ⟨_, _, _, _, rfl, rfl, ?_⟩
    refine comp_run (fv := fv) (ns := ns) (ρ := ρ) (K := fun out H₂ => Q (.ref H₂.length) (H₂ ++ [O.list out])) (fun v H K => c.wt C ((x, v) :: keepV fv ρ) H K) (fun v H K => e.wp C ((x, v) :: keepV fv ρ) H K) (fun dv => some [(x, dv)])
      (fun st vs H acc => compIfW (fun v H K => c.wt C ((x, v) :: keepV fv ρ) H K) (fun v H K => e.wp C ((x, v) :: keepV fv ρ) H K) st vs H acc fun out H₂ => Q (.ref H₂.length) (H₂ ++ [O.list out])) (fun _ _ _ h => by exact h) (fun st v vs H acc h => h)
      hit h5 h4 hA hs hn F l h (fun d H₁ hP => ?_) (fun dv es hes y d hy => ?_) (fun α' H' s' dv es Ca Kb F' l' hes ht => ?_) (fun α' H' s' dv es Ca Q' F' l' hes hf => ?_) (fun st dv r H acc _ => ⟨_, rfl⟩) hfin
    · split at hP
      · rename_i vs st hi
        exact ⟨vs, st, hi, hP.1, hP.2, fun I α' H' s' v dv es j Ca R E F' l' _ r' hes hh => hass_name hs h2 I α' H' s' v dv es Ca R E F' l' r' hes hh⟩
      · exact hP.elim
    · cases hes
      show look y ((x, dv) :: keepV fv ρ) = some d
      rw [look_cons, if_neg (keep_ne hs h2 hy)]; exact hy
    · cases hes
      exact fun R E hR => wpAny_tests_one (hcd h7 (NsOk.comp (ns := ns) (fv := fv)) hA F' l' ht R E hR)
    · cases hes
      exact he h6 (NsOk.comp (ns := ns) (fv := fv)) hA F' l' hf
theorem cok_comp2 {e it : E} {x y : Nat} {fv : List Nat} (he : EOk G C k e) (hit : EOk G C k it) : CompOk G C k (.comp2 e x y it fv) := by
  intro ns xe env ρ H α s A Q use Er R hc hn hA F l h hfin
  obtain ⟨_, _, _, _, rfl, q1⟩ := pComp_of hc
  obtain ⟨_, rfl, q2⟩ := l1_of q1
  obtain ⟨_, _, _, rfl, q3⟩ := gIs_of q2
  obtain ⟨_, _, _, rfl, q4⟩ := pTup_of q3
  obtain ⟨_, _, rfl, q5⟩ := l2_of q4
  obtain ⟨_, _, rfl, q6⟩ := pName_of q5
  obtain ⟨_, _, rfl, q7⟩ := pName_of q6
  obtain ⟨rfl, q8⟩ := l0_of q7
  · obtain ⟨hc, h9⟩ := and2 q8
    obtain ⟨hc, h8⟩ := and2 hc
    obtain ⟨hc, h7⟩ := and2 hc
    obtain ⟨hc, h6⟩ := and2 hc
    obtain ⟨hc, h5⟩ := and2 hc
    obtain ⟨hc, h4⟩ := and2 hc
    obtain ⟨hc, h3⟩ := and2 hc
    obtain ⟨h1, h2⟩ := and2 hc
    cases of_decide_eq_true h1
    cases of_decide_eq_true h2
    have hs := scopeOk_of h6
    dsimp only [wE_comp2] at h
    refine ⟨_, _, _, _, rfl, rfl, ?_⟩
    refine comp_run (fv := fv) (ns := ns) (ρ := ρ) (K := fun out H₂ => Q (.ref H₂.length) (H₂ ++ [O.list out])) (fun _ H k => k true H) (fun v H K => (match v with
          | .tup [p, q] => e.wp C ((y, q) :: (x, p) :: keepV fv ρ) H K
          | _ => False)) (two x y)
      (fun st vs H acc => compW (fun v H K => (match v with
          | .tup [p, q] => e.wp C ((y, q) :: (x, p) :: keepV fv ρ) H K
          | _ => False)) st vs H acc fun out H₂ => Q (.ref H₂.length) (H₂ ++ [O.list out])) (fun _ _ _ h => by exact h) (fun st v vs H acc h => ⟨h.1, fun _ => h.2, fun e => nomatch e⟩)
      hit h8 h7 hA hs hn F l h (fun d H₁ hP => ?_) (fun dv es hes z d hy => ?_) (fun α' H' s' dv es Ca Kb F' l' hes ht => tests_none l' ht) (fun α' H' s' dv es Ca Q' F' l' hes hf => ?_) (fun st dv r H acc hw => ?_) hfin
    · obtain ⟨⟨i, rfl⟩, hP⟩ := hP
      split at hP
      · rename_i vs st hi
        exact ⟨vs, st, hi, hP.1, hP.2, fun I α' H' s' v dv es j Ca R E F' l' it' r' hes hh => hass_two hA.handled hs h4 h5 I α' H' s' v dv es j i Ca R E F' l' it' r' hes hh⟩
      · exact hP.elim
    · unfold two at hes
      split at hes
      · cases hes
        show look z ((y, _) :: (x, _) :: keepV fv ρ) = some d
        rw [look_cons, if_neg (keep_ne hs h5 hy), look_cons, if_neg (keep_ne hs h4 hy)]; exact hy
      · cases hes
    · unfold two at hes
      split at hes
      · cases hes
        exact he h9 (NsOk.comp (ns := ns) (fv := fv)) hA F' l' hf
      · cases hes
    · have hw := hw.2
      dsimp only at hw
      split at hw
      · exact ⟨_, rfl⟩
      · exact hw.elim
theorem ok_ofComp {e : E} (h : CompOk G C k e) : EOk G C k e := by
  intro ns x env ρ H α s A Q hc hn hA F l hw R E hR
  obtain ⟨elt, gens, sc, pos, rfl, hf, hh⟩ := h (use := none) (R := R) (Er := E) hc hn hA F l hw (fin_eval hR)
  rw [eval_ListComp, hf]
  exact hh
end
end Mine

namespace Mine
open PySem PySem.W PyProof.Rows PySem.SeqAt

section
variable {G : Gl} {C : CallT} {k : Nat} {FT : Nat → Option Fn}

theorem ok_false {e : E} (h : ∀ {ρ H Q}, e.wp C ρ H Q → False) : EOk G C k e := by
  intro ns x env ρ H α s A Q hc hn hA F l hw
  exact (h hw).elim
theorem okT_false {e : E} (h : ∀ {ρ H Q}, e.wt C ρ H Q → False) : EOkT G C k e := by
  intro ns x env ρ H α s A Q hc hn hA F l hw
  exact (h hw).elim

mutual
theorem e_ok (P : Prg G FT) (hC : SemC G FT C k) : ∀ e : E, EOk G C k e
  | .cint _ => ok_cint
  | .cneg _ => ok_cneg
  | .cstr _ => ok_cstr
  | .cbool _ => ok_cbool
  | .cnone => ok_cnone
  | .var _ => ok_var
  | .bin _ l r => ok_bin (e_ok P hC l) (e_ok P hC r)
  | .cmp _ l r => ok_cmp (e_ok P hC l) (e_ok P hC r)
  | .or2 l r => ok_or2 (e_ok P hC l) (e_ok P hC r)
  | .tand _ => ok_false (by exact fun h => h)
  | .tor _ => ok_false (by exact fun h => h)
  | .not _ => ok_false (by exact fun h => h)
  | .ite t b o => ok_ite (e_okT P hC t) (e_ok P hC b) (e_ok P hC o)
  | .tup l => ok_tup (es_ok P hC l)
  | .lst l => ok_lst (es_ok P hC l)
  | .dctI _ l => ok_dctI (es_okD P hC l)
  | .dctS _ l => ok_dctS (es_okD P hC l)
  | .sub l r => ok_sub (e_ok P hC l) (e_ok P hC r)
  | .slTo l _ => ok_slTo (e_ok P hC l)
  | .slFrom l _ => ok_slFrom (e_ok P hC l)
  | .attr l _ => ok_attr P.cls (e_ok P hC l)
  | .call _ l => ok_call P hC (es_ok P hC l)
  | .new l => ok_new P hC (es_ok P hC l)
  | .meth o _ l => ok_meth P hC (e_ok P hC o) (es_ok P hC l)
  | .bcall _ l => ok_bcall P (es_ok P hC l)
  | .bmeth o _ l => ok_bmeth (e_ok P hC o) (es_ok P hC l)
  | .comp e _ it _ => ok_ofComp (cok_comp (e_ok P hC e) (e_ok P hC it))
  | .compIf e _ it c _ => ok_ofComp (cok_compIf (e_ok P hC e) (e_ok P hC it) (e_okT P hC c))
  | .comp2 e _ _ it _ => ok_ofComp (cok_comp2 (e_ok P hC e) (e_ok P hC it))
theorem es_ok (P : Prg G FT) (hC : SemC G FT C k) : ∀ l : Es, EsOk G C k l
  | .nil => oks_nil
  | .cons e r => oks_cons (e_ok P hC e) (es_ok P hC r)
theorem e_okT (P : Prg G FT) (hC : SemC G FT C k) : ∀ e : E, EOkT G C k e
  | .not e => okT_not (e_okT P hC e)
  | .tand l => okT_tand (es_okA P hC l)
  | .tor l => okT_tor (es_okO P hC l)
  | .cmp _ l r => okT_cmp (e_ok P hC l) (e_ok P hC r)
  | .var _ => okT_var
  | .bin _ l r => okT_bin (e_ok P hC l) (e_ok P hC r)
  | .sub l r => okT_sub (e_ok P hC l) (e_ok P hC r)
  | .call _ l => okT_call P hC (es_ok P hC l)
  | .cint _ => okT_false (by exact fun h => h)
  | .cneg _ => okT_false (by exact fun h => h)
  | .cstr _ => okT_false (by exact fun h => h)
  | .cbool _ => okT_false (by exact fun h => h)
  | .cnone => okT_false (by exact fun h => h)
  | .or2 _ _ => okT_false (by exact fun h => h)
  | .ite _ _ _ => okT_false (by exact fun h => h)
  | .tup _ => okT_false (by exact fun h => h)
  | .lst _ => okT_false (by exact fun h => h)
  | .dctI _ _ => okT_false (by exact fun h => h)
  | .dctS _ _ => okT_false (by exact fun h => h)
  | .slTo _ _ => okT_false (by exact fun h => h)
  | .slFrom _ _ => okT_false (by exact fun h => h)
  | .attr _ _ => okT_false (by exact fun h => h)
  | .new _ => okT_false (by exact fun h => h)
  | .meth _ _ _ => okT_false (by exact fun h => h)
  | .bcall _ _ => okT_false (by exact fun h => h)
  | .bmeth _ _ _ => okT_false (by exact fun h => h)
  | .comp _ _ _ _ => okT_false (by exact fun h => h)
  | .compIf _ _ _ _ _ => okT_false (by exact fun h => h)
  | .comp2 _ _ _ _ _ => okT_false (by exact fun h => h)
theorem es_okA (P : Prg G FT) (hC : SemC G FT C k) : ∀ l : Es, EsOkA G C k l
  | .nil => okA_nil
  | .cons e r => okA_cons (e_okT P hC e) (es_okA P hC r)
theorem es_okO (P : Prg G FT) (hC : SemC G FT C k) : ∀ l : Es, EsOkO G C k l
  | .nil => okO_nil
  | .cons e r => okO_cons (e_okT P hC e) (es_okO P hC r)
theorem es_okD (P : Prg G FT) (hC : SemC G FT C k) : ∀ l : Es, EsOkD G C k l
  | .nil => okD_nil
  | .cons e r => okD_cons (e_ok P hC e) (es_okD P hC r)
end
theorem c_ok (P : Prg G FT) (hC : SemC G FT C k) {e : E} (h : isCompE e = true) : CompOk G C k e := by
  cases e <;> first | exact cok_comp (e_ok P hC _) (e_ok P hC _) | exact cok_compIf (e_ok P hC _) (e_ok P hC _) (e_okT P hC _) | exact cok_comp2 (e_ok P hC _) (e_ok P hC _) | cases h
end
end Mine

namespace Mine
open PySem PySem.W PyProof.Rows PySem.SeqAt

inductive FlR (G : Gl) (α : List Addr) (h : Heap) : Flow → Fl → Prop
  | next : FlR G α h .next .next
  | brk : FlR G α h .brk .brk
  | ret {v : Value} {d : V} : VR G α h v d → FlR G α h (.ret v) (.ret d)
/-- a statement -/
noncomputable def TrS (G : Gl) (env : Env) (A : Around) (α : List Addr) (t : Sem Flow) (K : PS) (s : Shared) : Prop :=
  ∀ (R : Flow → Shared → Prop) (E : Value → Shared → Prop),
    (∀ f fl ρ' α' H' h' tk, K fl ρ' H' → FlR G α' h' f fl → FR G env α' ρ' h' → LR G α' H' h' → Ext G (Wf env α) α s.heap α' h' → R f { s with heap := h', toks := tk }) → wpAny (Mo G) A t R E s
noncomputable def SOk (G : Gl) (C : CallT) (k : Nat) (st : S) : Prop :=
  ∀ {ns : Ns} {x : Stmt} {env : Env} {ρ : Rho} {H : Hp} {α : List Addr} {s : Shared} {A : Around} {K : PS},
    st.chk ns x = true → NsOk ns env → AOk k A → FR G env α ρ s.heap → LR G α H s.heap → st.wp C ρ H K → TrS G env A α (exec x env) K s
noncomputable def SsOk (G : Gl) (C : CallT) (k : Nat) (st : Ss) : Prop :=
  ∀ {ns : Ns} {xs : List Stmt} {env : Env} {ρ : Rho} {H : Hp} {α : List Addr} {s : Shared} {A : Around} {K : PS},
    st.chk ns xs = true → NsOk ns env → AOk k A → FR G env α ρ s.heap → LR G α H s.heap → st.wp C ρ H K → TrS G env A α (execs xs env) K s

section
variable {G : Gl} {C : CallT} {k : Nat} {FT : Nat → Option Fn}

theorem Ext.wf {env : Env} {α α' : List Addr} {h h' : Heap} (x : Ext G α α h α' h') : Ext G (Wf env α) α h α' h' := x.weaken fun a ha => List.mem_cons_of_mem _ (List.mem_append_right _ ha)
theorem Ext.thenW {env : Env} {α α₁ α₂ : List Addr} {h h₁ h₂ : Heap} (x : Ext G (Wf env α) α h α₁ h₁) (y : Ext G (Wf env α₁) α₁ h₁ α₂ h₂) : Ext G (Wf env α) α h α₂ h₂ :=
  x.trans y fun a ha => by
    rcases List.mem_cons.mp ha with q | q
    · exact .inl (q ▸ List.mem_cons_self)
    · rcases List.mem_append.mp q with q | q
      · exact .inl (List.mem_cons_of_mem _ (List.mem_append_left _ q))
      · obtain ⟨β, rfl, hβ⟩ := x.pre
        rcases List.mem_append.mp q with q | q
        · exact .inl (List.mem_cons_of_mem _ (List.mem_append_right _ q))
        · exact .inr (hβ a q)

theorem s_asg {x : Nat} {e : E} (he : EOk G C k e) : SOk G C k (.asg x e) := by
  intro ns xs env ρ H α s A K hc hn hA F l h
  obtain ⟨_, _, _, rfl, q1⟩ := sAsg_of hc
  obtain ⟨_, rfl, q2⟩ := l1_of q1
  obtain ⟨_, _, rfl, q3⟩ := pName_of q2
  · obtain ⟨hc, h4⟩ := and2 q3
    obtain ⟨hc, h3⟩ := and2 hc
    obtain ⟨h1, h2⟩ := and2 hc
    cases of_decide_eq_true h1
    dsimp only [wS_asg] at h
    intro R E hR
    refine wpAny_Assign_Name (he h4 hn hA F l h _ E fun v d α₁ H₁ h₁ tk₁ hq₁ x₁ l₁ r₁ => ?_) (swap_no h3)
    exact (F.ext x₁).store (s := { s with heap := h₁, toks := tk₁ }) l₁ (var_kind hn h2) r₁ fun h₂ tk₂ F₂ l₂ x₂ => hR _ _ _ _ _ _ tk₂ hq₁ .next F₂ l₂ (x₁.wf.thenW x₂)
theorem s_asgT {xs : List Nat} {e : E} (he : EOk G C k e) : SOk G C k (.asgT xs e) := by
  intro ns x env ρ H α s A K hc hn hA F l h
  obtain ⟨_, _, _, rfl, q1⟩ := sAsg_of hc
  obtain ⟨_, rfl, q2⟩ := l1_of q1
  obtain ⟨_, _, _, rfl, q3⟩ := pTup_of q2
  · obtain ⟨hc, h4⟩ := and2 q3
    obtain ⟨hc, h3⟩ := and2 hc
    obtain ⟨h1, h2⟩ := and2 hc
    dsimp only [wS_asgT] at h
    intro R E hR
    refine Assign_Tuple (he h4 hn hA F l h _ E fun v d α₁ H₁ h₁ tk₁ hq₁ x₁ l₁ r₁ => ?_) (by unfold swapsWithSole; exact swap_no h2) (swapped_no h3)
    split at hq₁
    · split at hq₁
      · rename_i ρ₁ hb
        exact assign_tuple (s := { s with heap := h₁, toks := tk₁ }) hn hA.handled h1 (F.ext x₁) l₁ r₁ hb fun h₂ tk₂ F₂ l₂ x₂ => hR _ _ _ _ _ _ tk₂ hq₁ .next F₂ l₂ (x₁.wf.thenW x₂)
      · exact hq₁.elim
    · exact hq₁.elim
theorem s_asgC {x : Nat} {e : E} (he : isCompE e = true → CompOk G C k e) : SOk G C k (.asgC x e) := by
  intro ns xs env ρ H α s A K hc hn hA F l h
  obtain ⟨_, a, pos, rfl, q1⟩ := sAsg_of hc
  obtain ⟨_, rfl, q2⟩ := l1_of q1
  obtain ⟨t, p, rfl, q3⟩ := pNameP_of q2
  · obtain ⟨hc, h5⟩ := and2 q3
    obtain ⟨hc, h4⟩ := and2 hc
    obtain ⟨hc, h3⟩ := and2 hc
    obtain ⟨h1, h2⟩ := and2 hc
    cases of_decide_eq_true h1
    dsimp only [wS_asgC] at h
    intro R E hR
    have hk := loc_kind hn h2
    obtain ⟨elt, gens, sc, cpos, rfl, hf, hh⟩ := he h3 (use := some (assign (.Name (nm x) p) env)) (R := fun _ s' => R .next s') (Er := E) h5 hn hA F l h (by
      intro D Ca α' H' h' tk m' acc hK x₁ l₁ hns hCa fCa hC0 rv
      have F₁ := F.ext x₁
      have hLC : env.locals ≠ Ca := fun q => by
        obtain ⟨m, ⟨o, _, _, e, _⟩, _⟩ := F.ns
        rw [q, fCa] at e; cases e
      have hcC : ∀ c ∈ env.cells.map (·.2), c ≠ Ca := fun c hc q => by
        obtain ⟨_, _, v, o, e, _⟩ := F.C0 c hc
        rw [q, fCa] at e; cases e
      show wpAny (Mo G) A (assign (.Name (nm x) p) env (.ref D)) (fun _ s'' => ∃ m, s''.heap.Ns Ca m ∧ ∀ h', Heap.SameBut Ca s''.heap h' → R .next { s'' with heap := h' }) E { s with heap := h', toks := tk }
      refine wpAny_assign_Name (F₁.storeL (s := { s with heap := h', toks := tk }) l₁ hk rv fun h₂ tk₂ F₂ l₂ x₂ => ?_)
      have hns₂ : h₂.Ns Ca m' := ns_get hns fun o e => x₂.keep _ o e (.inl (by simp; exact hLC.symm))
      refine ⟨m', hns₂, fun h₃ hs₃ => ?_⟩
      have ni : ∀ o, h₂.get? Ca = some o → ¬ Imm G o := fun o e i => by
        obtain ⟨o', es, ep, e', hd, _⟩ := hns₂
        rw [e'] at e; cases e; exact i.notDict hd
      refine hR _ _ _ _ _ h₃ tk₂ hK .next (F₂.but hs₃.extBut hLC hcC ni) (l₂.but hs₃.extBut hCa hC0 ni) ?_
      exact (x₁.wf.trans x₂ fun a ha => by simp at ha; subst ha; exact .inl List.mem_cons_self).thenBut hs₃.extBut fCa)
    have hsw : swapsWith (.ListComp elt gens sc cpos) (some (.Name (nm x) p)) pos.line env = pure true := by
      unfold compLine at h4
      obtain ⟨e1, e2⟩ := and2 h4
      show (pure (env.blockKind == .function && env.kindOf (nm x) == some .local && p.line == cpos.line && !(sc.names.any fun (n, k) => n == nm x && (k == .local || k == .cell))) : Sem Bool) = pure true
      have hb : env.blockKind = .function := by
        unfold Env.blockKind
        rw [F.ok.kind]; rfl
      rw [hb, hk, e1]
      simp only [e2, beq_self_eq_true, Bool.true_and]
    rw [exec_Assign_Name_used _ _ _ _ hsw]
    refine wpAny_bind (wpAny_standAt (wpAny_bind ?_))
    show wpAny (Mo G) A (do let _ ← comprehension (.ListComp elt gens sc cpos) sc env (firstIterPos gens cpos) (newList []) (firstAsync gens) (firstIter gens env) (some (assign (.Name (nm x) p) env))) _ _ s
    rw [hf]
    exact wpAny_bind (wpAny_mono hh (fun _ s' hq => wpAny_pure (wpAny_pure hq)) fun _ _ e => e)
end
end Mine

namespace Mine
open PySem PySem.W PyProof.Rows PySem.SeqAt

section
variable {G : Gl} {C : CallT} {k : Nat} {FT : Nat → Option Fn}

theorem s_if {t : E} {b o : Ss} (ht : EOkT G C k t) (hb : SsOk G C k b) (ho : SsOk G C k o) : SOk G C k (.if_ t b o) := by
  intro ns xs env ρ H α s A K hc hn hA F l h
  obtain ⟨_, _, _, _, rfl, hc⟩ := sIf_of hc
  · obtain ⟨hc, h3⟩ := and2 hc
    obtain ⟨h1, h2⟩ := and2 hc
    dsimp only [wS_if] at h
    intro R E hR
    refine wpAny_If (ht h1 hn hA F l h _ E fun v d α₁ H₁ h₁ tk₁ hq₁ x₁ l₁ r₁ => ?_)
    cases r₁
    cases v with
    | true => exact hb h2 hn hA (F.ext x₁) l₁ (hq₁.1 rfl) _ E fun f fl ρ' α' H' h' tk hq hf F' l' x' => hR f fl ρ' α' H' h' tk hq hf F' l' (x₁.wf.thenW x')
    | false => exact ho h3 hn hA (F.ext x₁) l₁ (hq₁.2 rfl) _ E fun f fl ρ' α' H' h' tk hq hf F' l' x' => hR f fl ρ' α' H' h' tk hq hf F' l' (x₁.wf.thenW x')
theorem s_ret {e : E} (he : EOk G C k e) : SOk G C k (.ret e) := by
  intro ns xs env ρ H α s A K hc hn hA F l h
  obtain ⟨_, _, rfl, q1⟩ := sRet_of hc
  obtain ⟨_, rfl, q2⟩ := o1_of q1
  · dsimp only [wS_ret] at h
    intro R E hR
    exact wpAny_Return_some (he q2 hn hA F l h _ E fun v d α₁ H₁ h₁ tk₁ hq₁ x₁ l₁ r₁ => hR _ _ _ _ _ _ tk₁ hq₁ (.ret r₁) (F.ext x₁) l₁ x₁.wf)
theorem s_expr {e : E} (he : EOk G C k e) : SOk G C k (.expr e) := by
  intro ns xs env ρ H α s A K hc hn hA F l h
  obtain ⟨_, _, rfl, hc⟩ := sExpr_of hc
  · obtain ⟨h1, h2⟩ := and2 hc
    dsimp only [wS_expr] at h
    intro R E hR
    refine wpAny_Expr (he h2 hn hA F l h _ E fun v d α₁ H₁ h₁ tk₁ hq₁ x₁ l₁ r₁ => ?_) (by unfold interactive; rw [F.ok.kind]; rfl) (swap_no h1)
    obtain ⟨rfl, hq₁⟩ := hq₁
    cases r₁
    exact hR _ _ _ _ _ _ tk₁ hq₁ .next (F.ext x₁) l₁ x₁.wf
theorem s_brk : SOk G C k .brk := by
  intro ns xs env ρ H α s A K hc hn hA F l h
  obtain ⟨_, rfl, hc⟩ := sBrk_of hc
  · dsimp only [wS_brk] at h
    intro R E hR
    exact wpAny_Break (hR _ _ _ _ _ _ s.toks h .brk F l .refl)
theorem s_aug {x : Nat} {op : Operator} {e : E} (he : EOk G C k e) : SOk G C k (.aug x op e) := by
  intro ns xs env ρ H α s A K hc hn hA F l h
  obtain ⟨_, _, _, _, rfl, q1⟩ := sAug_of hc
  obtain ⟨_, _, rfl, q2⟩ := pName_of q1
  · obtain ⟨hc, h4⟩ := and2 q2
    obtain ⟨hc, h3⟩ := and2 hc
    obtain ⟨h1, h2⟩ := and2 hc
    cases of_decide_eq_true h1
    cases of_decide_eq_true h3
    dsimp only [wS_aug] at h
    intro R E hR
    obtain ⟨d, hd, h⟩ := onSome_of h
    · refine wpAny_AugAssign_Name (F.loadN hd (nm_cd _) fun v rv => ?_)
      refine he h4 hn hA F l h _ E fun w dw α₁ H₁ h₁ tk₁ hq₁ x₁ l₁ r₁ => ?_
      refine aug_ok (s := { s with heap := h₁, toks := tk₁ }) l₁ (rv.ext x₁) r₁ hq₁ _ E fun u du α₂ H₂ h₂ tk₂ hq₂ x₂ l₂ r₂ => ?_
      exact (F.ext (x₁.then x₂)).store (s := { s with heap := h₂, toks := tk₂ }) l₂ (var_kind hn h2) r₂ fun h₃ tk₃ F₃ l₃ x₃ => hR _ _ _ _ _ _ tk₃ hq₂ .next F₃ l₃ ((x₁.then x₂).wf.thenW x₃)
theorem s_asgA {o : E} {a : Nat} {e : E} (P : ClsOk G) (ho : EOk G C k o) (he : EOk G C k e) : SOk G C k (.asgA o a e) := by
  intro ns xs env ρ H α s A K hc hn hA F l h
  obtain ⟨_, _, _, rfl, q1⟩ := sAsg_of hc
  obtain ⟨_, rfl, q2⟩ := l1_of q1
  obtain ⟨_, _, _, rfl, q3⟩ := pAttr_of q2
  · obtain ⟨hc, h5⟩ := and2 q3
    obtain ⟨hc, h4⟩ := and2 hc
    obtain ⟨hc, h3⟩ := and2 hc
    obtain ⟨h1, h2⟩ := and2 hc
    cases of_decide_eq_true h1
    dsimp only [wS_asgA] at h
    intro R E hR
    refine plainObj_wpAny_Assign_Attribute (he h5 hn hA F l h _ E fun v d α₁ H₁ h₁ tk₁ hq₁ x₁ l₁ r₁ => ?_) (swap_no h3)
    refine ho h4 hn hA (F.ext x₁) l₁ hq₁ _ E fun ov od α₂ H₂ h₂ tk₂ hq₂ x₂ l₂ r₂ => ?_
    obtain ⟨i, rfl, hq₂⟩ := onInst_is hq₂
    obtain ⟨ob, hob, hq₂⟩ := onNs_is hq₂
    · · exact set_ok (s := { s with heap := h₂, toks := tk₂ }) P l₂ r₂ (r₁.ext x₂) hob h2 hq₂.1 fun h₃ tk₃ l₃ x₃ => hR _ _ _ _ _ _ tk₃ hq₂.2 .next (F.ext ((x₁.then x₂).then x₃)) l₃ ((x₁.then x₂).then x₃).wf
theorem s_augA {o : E} {a : Nat} {op : Operator} {e : E} (P : ClsOk G) (ho : EOk G C k o) (he : EOk G C k e) : SOk G C k (.augA o a op e) := by
  intro ns xs env ρ H α s A K hc hn hA F l h
  obtain ⟨_, _, _, _, rfl, q1⟩ := sAug_of hc
  obtain ⟨_, _, _, rfl, q2⟩ := pAttr_of q1
  · obtain ⟨hc, h5⟩ := and2 q2
    obtain ⟨hc, h4⟩ := and2 hc
    obtain ⟨hc, h3⟩ := and2 hc
    obtain ⟨h1, h2⟩ := and2 hc
    cases of_decide_eq_true h1
    cases of_decide_eq_true h3
    dsimp only [wS_augA] at h
    intro R E hR
    refine wpAny_AugAssign_AttributeAny (ho h4 hn hA F l h _ E fun ov od α₁ H₁ h₁ tk₁ hq₁ x₁ l₁ r₁ => ?_)
    obtain ⟨i, rfl, hq₁⟩ := onInst_is hq₁
    obtain ⟨ob, hob, hq₁⟩ := onNs_is hq₁
    obtain ⟨d, hd, hq₁⟩ := onSome_of hq₁
    · · · refine get_ok (s := { s with heap := h₁, toks := tk₁ }) (Q := fun d' H' => d' = d ∧ H' = H₁) P l₁ r₁ hob h2 hd ⟨rfl, rfl⟩ _ E fun v dv α₂ H₂ h₂ tk₂ hq₂ x₂ l₂ r₂ => ?_
          obtain ⟨rfl, rfl⟩ := hq₂
          refine he h5 hn hA (s := { s with heap := h₂, toks := tk₂ }) (F.ext (x₁.then x₂)) l₂ hq₁ _ E fun w dw α₃ H₃ h₃ tk₃ hq₃ x₃ l₃ r₃ => ?_
          refine aug_ok (s := { s with heap := h₃, toks := tk₃ }) l₃ (r₂.ext x₃) r₃ hq₃ _ E fun u du α₄ H₄ h₄ tk₄ hq₄ x₄ l₄ r₄ => ?_
          obtain ⟨o4, ho4, hq₄⟩ := onNs_is hq₄
          · exact set_ok (s := { s with heap := h₄, toks := tk₄ }) P l₄ (((r₁.ext x₂).ext x₃).ext x₄) r₄ ho4 h2 hq₄.1 fun h₅ tk₅ l₅ x₅ => hR _ _ _ _ _ _ tk₅ hq₄.2 .next (F.ext ((((x₁.then x₂).then x₃).then x₄).then x₅)) l₅ ((((x₁.then x₂).then x₃).then x₄).then x₅).wf
theorem s_asgI {o i e : E} (ho : EOk G C k o) (hi : EOk G C k i) (he : EOk G C k e) : SOk G C k (.asgI o i e) := by
  intro ns xs env ρ H α s A K hc hn hA F l h
  obtain ⟨_, _, _, rfl, q1⟩ := sAsg_of hc
  obtain ⟨_, rfl, q2⟩ := l1_of q1
  obtain ⟨_, _, _, rfl, q3⟩ := pSub_of q2
  · obtain ⟨hc, h5⟩ := and2 q3
    obtain ⟨hc, h4⟩ := and2 hc
    obtain ⟨hc, h3⟩ := and2 hc
    obtain ⟨h1, h2⟩ := and2 hc
    dsimp only [wS_asgI] at h
    intro R E hR
    refine wpAny_Assign_Subscript (he h5 hn hA F l h _ E fun v d α₁ H₁ h₁ tk₁ hq₁ x₁ l₁ r₁ => ?_) (swap_no h1)
    refine ho h3 hn hA (F.ext x₁) l₁ hq₁ _ E fun ov od α₂ H₂ h₂ tk₂ hq₂ x₂ l₂ r₂ => ?_
    refine hi h4 hn hA ((F.ext x₁).ext x₂) l₂ hq₂ _ E fun iv id α₃ H₃ h₃ tk₃ hq₃ x₃ l₃ r₃ => ?_
    obtain ⟨j, p, rfl, rfl, ea, hq₃⟩ := onRef_of (r₂.ext x₃) hq₃
    obtain ⟨kk, t, rfl, rfl, hq₃⟩ := onInt_of r₃ hq₃
    obtain ⟨ds, hds, hz, hq₃⟩ := onDict_is hq₃
    · have r₁' := (r₁.ext x₂).ext x₃
      · obtain ⟨kvs, hm, hkz, hf⟩ := l₃.obj _ _ _ ea hds
        refine wpAny_setItem_pairs (knd := intKind G.prog G.w) (k := kk) (by simp [intKind, Value.isInt]) hm (fun h' hd' hs' => ?_) (by rw [sizeLine_eq]; omega)
        have hex : ∃ ob, h'.get? _ = some ob := let ⟨o, _, _, e, _⟩ := hd'; ⟨o, e⟩
        obtain ⟨ob, eo⟩ := hex
        have x₄ := l₃.ext_set ea hs' eo
        have l₄ := l₃.set (o' := .dict ((kk, d) :: ds)) ea hs' ⟨_, hd', by have := stored_length_le kvs kk v; simp; omega, fun y => by
          rw [show lookI y ((kk, d) :: ds) = if kk = y then some d else lookI y ds from rfl, valueAt_stored]
          by_cases q : kk = y
          · simp only [if_pos q]; exact ⟨v, rfl, r₁'.ext x₄⟩
          · simp only [if_neg q]
            have := hf y
            split
            · rename_i d' hd; rw [hd] at this; obtain ⟨w, e1, e2⟩ := this; exact ⟨w, e1, e2.ext x₄⟩
            · rename_i hd; rw [hd] at this; exact this⟩
        exact hR _ _ _ _ _ _ _ hq₃ .next (F.ext (((x₁.then x₂).then x₃).then x₄)) l₄ (((x₁.then x₂).then x₃).then x₄).wf

theorem ss_nil : SsOk G C k .nil := by
  intro ns xs env ρ H α s A K hc hn hA F l h
  cases ss_nil_of hc
  · dsimp only [wZ_nil] at h
    exact fun R E hR => wpAny_execs_nil (hR _ _ _ _ _ _ s.toks h .next F l .refl)
theorem ss_cons {a : S} {r : Ss} (ha : SOk G C k a) (hr : SsOk G C k r) : SsOk G C k (.cons a r) := by
  intro ns xs env ρ H α s A K hc hn hA F l h
  obtain ⟨_, _, rfl, hc⟩ := ss_cons_of hc
  · obtain ⟨h1, h2⟩ := and2 hc
    dsimp only [wZ_cons] at h
    intro R E hR
    refine wpAny_execs_cons (ha h1 hn hA F l h _ E fun f fl ρ₁ α₁ H₁ h₁ tk₁ hq hf F₁ l₁ x₁ => ?_)
    cases hf with
    | next => exact hr h2 hn hA F₁ l₁ hq _ E fun f fl ρ' α' H' h' tk hq hf F' l' x' => hR f fl ρ' α' H' h' tk hq hf F' l' (x₁.thenW x')
    | brk => exact hR _ _ _ _ _ _ tk₁ hq .brk F₁ l₁ x₁
    | ret r => exact hR _ _ _ _ _ _ tk₁ hq (.ret r) F₁ l₁ x₁

theorem s_while {t : E} {b : Ss} (ht : EOkT G C k t) (hb : SsOk G C k b) : SOk G C k (.while_ t b) := by
  intro ns xs env ρ H α s A K hc hn hA F l h
  obtain ⟨_, _, _, _, rfl, q1⟩ := sWhile_of hc
  obtain ⟨rfl, q2⟩ := l0_of q1
  · obtain ⟨h1, h2⟩ := and2 q2
    dsimp only [wS_while] at h
    obtain ⟨n, h⟩ := h
    intro R E hR
    refine wpAny_While (codeAny_whileLoop (fun n s' => ∃ ρ' α' H' h' tk, s' = { s with heap := h', toks := tk } ∧ FR G env α' ρ' h' ∧ LR G α' H' h' ∧ Ext G (Wf env α) α s.heap α' h' ∧ whileN (t.wt C) (b.wp C) n ρ' H' K)
      ?_ n ⟨ρ, α, H, s.heap, s.toks, rfl, F, l, .refl, h⟩)
    rintro n s' ⟨ρ', α', H', h', tk, rfl, F', l', x', hw⟩
    cases n with
    | zero => exact hw.elim
    | succ n =>
      refine ht h1 hn hA (s := { s with heap := h', toks := tk }) F' l' hw _ _ fun v d α₁ H₁ h₁ tk₁ hq₁ x₁ l₁ r₁ => ?_
      cases r₁
      cases v with
      | true =>
        rw [if_pos rfl]
        refine hb h2 hn hA (s := { s with heap := h₁, toks := tk₁ }) (F'.ext x₁) l₁ (hq₁.1 rfl) _ _ fun f fl ρ₂ α₂ H₂ h₂ tk₂ hq₂ hf F₂ l₂ x₂ => ?_
        cases hf with
        | next => exact ⟨n, Nat.lt_succ_self n, _, _, _, _, _, rfl, F₂, l₂, x'.thenW (x₁.wf.thenW x₂), hq₂⟩
        | brk => exact hR _ _ _ _ _ _ _ hq₂ .next F₂ l₂ (x'.thenW (x₁.wf.thenW x₂))
        | ret r => exact hR _ _ _ _ _ _ _ hq₂ (.ret r) F₂ l₂ (x'.thenW (x₁.wf.thenW x₂))
      | false =>
        rw [if_neg (by decide)]
        exact wpAny_execs_nil (hR _ _ _ _ _ _ _ (hq₁.2 rfl) .next (F'.ext x₁) l₁ (x'.thenW x₁.wf))
end
end Mine

namespace Mine
open PySem PySem.W PyProof.Rows PySem.SeqAt

section
variable {G : Gl} {C : CallT} {k : Nat} {FT : Nat → Option Fn}

theorem for_run {bd : V → Rho → Option Rho} {target iter : Expr} {bodyX : List Stmt} {pos : Pos} {it : E} {b : Ss} {ns : Ns} {env : Env} {ρ : Rho} {H : Hp} {α : List Addr} {s : Shared} {A : Around} {K : PS} {P : PV}
    (hit : EOk G C k it) (hb : SsOk G C k b) (hset : notSet iter = true) (hc1 : it.chk ns iter = true) (hc2 : b.chk ns bodyX = true) (hn : NsOk ns env) (hA : AOk k A) (F : FR G env α ρ s.heap) (l : LR G α H s.heap) (h : it.wp C ρ H P)
    (hP : ∀ d H₁, P d H₁ → ∃ vs st, iters d H₁ = some (vs, st) ∧ forW bd (b.wp C) st vs ρ H₁ K ∧
      ∀ (I : Addr) (α' : List Addr) (H' : Hp) (s' : Shared) (v : Value) (dv : V) (ρ' ρ₁ : Rho) (j : Nat) (R : Unit → Shared → Prop) (E : Value → Shared → Prop), FR G env α' ρ' s'.heap → LR G α' H' s'.heap → ItAt G α' s'.heap I j d → VR G α' s'.heap v dv → bd dv ρ' = some ρ₁ →
        (∀ h' tk, FR G env α' ρ₁ h' → LR G α' H' h' → Ext G (Wf env α') α' s'.heap α' h' → R () { s' with heap := h', toks := tk }) →
        wpAny (Mo G) A (letOwnedTupleGo target (.ref I) v) (fun _ s₁ => wpAny (Mo G) A (assign target env v) R E s₁) E s') : TrS G env A α (exec (.For target iter bodyX [] pos) env) K s := by
  intro R E hR
  refine wpAny_For (hit hc1 hn hA F l h _ E fun xv d α₁ H₁ h₁ tk₁ hq₁ x₁ l₁ r₁ => ?_) (fold_set hset)
  obtain ⟨vs, st, hi, hw, hass⟩ := hP d H₁ hq₁
  refine it_new (s := { s with heap := h₁, toks := tk₁ }) l₁ r₁ hi fun o it₀ => ?_
  have hk : ∀ b q, h₁.get? b = some q → (h₁.push o).get? b = some q := fun b q e => pushed b q e
  have fI : h₁.get? h₁.objs.size = none := fresh_at _
  have xb : Ext G α₁ α₁ h₁ α₁ (h₁.push o) := .of_keeps hk
  have F₁ := F.ext x₁
  have IL : h₁.objs.size ≠ env.locals := fun q => by
    obtain ⟨m, ⟨o, _, _, e, _⟩, _⟩ := F₁.ns
    rw [← q, fI] at e; cases e
  have IC : h₁.objs.size ∉ env.cells.map (·.2) := fun m => by
    obtain ⟨_, _, v, o, e, _⟩ := F₁.C0 _ m
    rw [fI] at e; cases e
  have Iα₁ : h₁.objs.size ∉ α₁ := fun m => by obtain ⟨q, e, _⟩ := l₁.occ m; rw [fI] at e; cases e
  have hI0 := (l₁.above (Nat.le_refl h₁.objs.size)).1
  refine codeAny_forLoop_any (fun n s' => ∃ ρ' α' H' h' tk j, s' = { s with heap := h', toks := tk } ∧ n = vs.length + 1 - j ∧ j ≤ vs.length ∧ FR G env α' ρ' h' ∧ LR G α' H' h' ∧ Ext G (Wf env α₁) α₁ h₁ α' h' ∧
      ItAt G α' h' h₁.objs.size j d ∧ h₁.objs.size ∉ α' ∧ forW bd (b.wp C) st (vs.drop j) ρ' H' K) ?_ (vs.length + 1)
    ⟨ρ, α₁, H₁, h₁.push o, tk₁, 0, rfl, rfl, Nat.zero_le _, F₁.ext xb, l₁.all hk, xb.wf, it₀, Iα₁, by simpa using hw⟩
  rintro n s' ⟨ρ', α', H', h', tk, j, rfl, rfl, hj, F', l', x', it', Iα', hw'⟩
  by_cases hlt : j < vs.length
  · rw [List.drop_eq_getElem_cons hlt] at hw'
    obtain ⟨hst, hw'⟩ := hw'
    split at hw'
    · rename_i ρ₁ hbd
      refine it_next (s := { s with heap := h', toks := tk }) l' hi hst it' Iα' (List.getElem?_eq_getElem hlt) fun v h₂ tk₂ x₂ it₂ rv => ?_
      have l₂ : LR G α' H' h₂ := l'.off x₂ fun a ha => by simp at ha; subst ha; exact ⟨Iα', hI0⟩
      have F₂ : FR G env α' ρ' h₂ := F'.off x₂ fun a ha => by simp at ha; subst ha; exact ⟨IL, IC⟩
      have xa : Ext G (Wf env α₁) α₁ h₁ α' h₂ := x'.trans x₂ fun a ha => by simp at ha; subst ha; exact .inr fI
      refine hass _ α' H' _ v _ ρ' ρ₁ (j + 1) _ _ F₂ l₂ it₂ rv hbd fun h₃ tk₃ F₃ l₃ x₃ => ?_
      have IW : h₁.objs.size ∉ Wf env α' := fun m => by
        rcases List.mem_cons.mp m with q | q
        · exact IL q
        · rcases List.mem_append.mp q with q | q
          · exact IC q
          · exact Iα' q
      refine hb hc2 hn hA (s := { s with heap := h₃, toks := tk₃ }) F₃ l₃ hw' _ _ fun f fl ρ₄ α₄ H₄ h₄ tk₄ hq₄ hf F₄ l₄ x₄ => ?_
      have xc := (xa.thenW x₃).thenW x₄
      have it₃ := it₂.ext x₃ IW
      obtain ⟨oI, eI, _⟩ := it₃.notImm
      cases hf with
      | next => exact ⟨vs.length + 1 - (j + 1), by omega, ρ₄, α₄, H₄, h₄, tk₄, j + 1, rfl, rfl, hlt, F₄, l₄, xc, it₃.ext x₄ IW, x₄.notIn Iα' eI, hq₄⟩
      | brk => exact hR _ _ _ _ _ _ _ hq₄ .next F₄ l₄ (x₁.wf.thenW xc)
      | ret r => exact hR _ _ _ _ _ _ _ hq₄ (.ret r) F₄ l₄ (x₁.wf.thenW xc)
    · exact hw'.elim
  · have hj' : j = vs.length := by omega
    subst hj'
    rw [List.drop_length] at hw'
    obtain ⟨hst, hK⟩ := hw'
    refine it_end (s := { s with heap := h', toks := tk }) hA.handled l' hi hst it' (Nat.le_refl _) fun h₂ x₂ => ?_
    obtain ⟨oI', eI', nI'⟩ := it'.notImm
    have ni : ∀ o, h'.get? h₁.objs.size = some o → ¬ Imm G o := fun o e => by rw [eI'] at e; cases e; exact nI'
    exact wpAny_execs_nil (hR _ _ _ _ _ h₂ tk hK .next (F'.but x₂ IL.symm (fun c hc q => IC (q ▸ hc)) ni) (l'.but x₂ Iα' hI0 ni) (x₁.wf.thenW (x'.thenBut x₂ fI)))

theorem s_for {x : Nat} {it : E} {b : Ss} (hit : EOk G C k it) (hb : SsOk G C k b) : SOk G C k (.for_ x it b) := by
  intro ns xs env ρ H α s A K hc hn hA F l h
  obtain ⟨_, _, _, _, _, rfl, q1⟩ := sFor_of hc
  obtain ⟨rfl, q2⟩ := l0_of q1
  obtain ⟨_, _, rfl, q3⟩ := pName_of q2
  · obtain ⟨hc, h5⟩ := and2 q3
    obtain ⟨hc, h4⟩ := and2 hc
    obtain ⟨hc, h3⟩ := and2 hc
    obtain ⟨h1, h2⟩ := and2 hc
    cases of_decide_eq_true h1
    dsimp only [wS_for] at h
    refine for_run (bd := fun v ρ => some ((x, v) :: ρ)) hit hb h3 h4 h5 hn hA F l h fun d H₁ hP => ?_
    split at hP
    · rename_i vs st hi
      refine ⟨vs, st, hi, hP, fun I α' H' s' v dv ρ' ρ₁ j R E F' l' _ r' hbd hh => ?_⟩
      cases hbd
      exact wpAny_of_eq (a := ()) rfl (wpAny_assign_Name (F'.store l' (var_kind hn h2) r' fun h' tk F₂ l₂ x₂ => hh h' tk F₂ l₂ x₂))
    · exact hP.elim
theorem s_forT {xs : List Nat} {it : E} {b : Ss} (hit : EOk G C k it) (hb : SsOk G C k b) : SOk G C k (.forT xs it b) := by
  intro ns x env ρ H α s A K hc hn hA F l h
  obtain ⟨_, _, _, _, _, rfl, q1⟩ := sFor_of hc
  obtain ⟨rfl, q2⟩ := l0_of q1
  obtain ⟨_, _, _, rfl, q3⟩ := pTup_of q2
  · obtain ⟨hc, h4⟩ := and2 q3
    obtain ⟨hc, h3⟩ := and2 hc
    obtain ⟨h1, h2⟩ := and2 hc
    dsimp only [wS_forT] at h
    refine for_run (bd := fun v ρ => match v with | .tup ds => bindT xs ds ρ | _ => none) hit hb h2 h3 h4 hn hA F l h fun d H₁ hP => ?_
    obtain ⟨⟨i, rfl⟩, hP⟩ := hP
    split at hP
    · rename_i vs st hi
      refine ⟨vs, st, hi, hP, fun I α' H' s' v dv ρ' ρ₁ j R E F' l' it' r' hbd hh => ?_⟩
      obtain ⟨ds, rfl, hbd⟩ : ∃ ds, dv = .tup ds ∧ bindT xs ds ρ' = some ρ₁ := by
        cases dv <;> first | exact ⟨_, rfl, hbd⟩ | cases hbd
      obtain ⟨_, _, hit'⟩ := it'
      have r'' := r'
      cases r'' with | tup e r =>
      refine wpAny_letOwnedTupleGo_listiter hit' ?_
      exact assign_tuple hn hA.handled h1 F' l' r' hbd fun h' tk F₂ l₂ x₂ => hh h' tk F₂ l₂ x₂
    · exact hP.elim

mutual
theorem s_ok (P : Prg G FT) (hC : SemC G FT C k) : ∀ a : S, SOk G C k a
  | .asg _ e => s_asg (e_ok P hC e)
  | .asgC _ e => s_asgC (fun h => c_ok P hC h)
  | .asgT _ e => s_asgT (e_ok P hC e)
  | .asgA o _ e => s_asgA P.cls (e_ok P hC o) (e_ok P hC e)
  | .asgI o i e => s_asgI (e_ok P hC o) (e_ok P hC i) (e_ok P hC e)
  | .aug _ _ e => s_aug (e_ok P hC e)
  | .augA o _ _ e => s_augA P.cls (e_ok P hC o) (e_ok P hC e)
  | .for_ _ it b => s_for (e_ok P hC it) (ss_ok P hC b)
  | .forT _ it b => s_forT (e_ok P hC it) (ss_ok P hC b)
  | .while_ t b => s_while (e_okT P hC t) (ss_ok P hC b)
  | .if_ t b o => s_if (e_okT P hC t) (ss_ok P hC b) (ss_ok P hC o)
  | .ret e => s_ret (e_ok P hC e)
  | .expr e => s_expr (e_ok P hC e)
  | .brk => s_brk
theorem ss_ok (P : Prg G FT) (hC : SemC G FT C k) : ∀ a : Ss, SsOk G C k a
  | .nil => ss_nil
  | .cons a r => ss_cons (s_ok P hC a) (ss_ok P hC r)
end
end
end Mine

namespace Mine
open PySem PySem.W PyProof.Rows PySem.SeqAt

section
variable {G : Gl} {FT : Nat → Option Fn}

theorem cellsFrom_has : ∀ (names : List (Str × NameKind)) (n : Nat) (acc : List (Str × Addr)) (x : Str), (names.lookup x = some .cell ∨ (acc.lookup x).isSome = true) → ((cellsFrom n names acc).lookup x).isSome = true
  | [], n, acc, x, h => by
    rcases h with h | h
    · simp at h
    · exact h
  | (m, kd) :: r, n, acc, x, h => by
    unfold cellsFrom
    by_cases q : x = m
    · subst q
      rcases h with h | h
      · simp only [List.lookup_cons, beq_self_eq_true] at h
        cases h
        exact cellsFrom_has r _ _ x (.inr (by simp))
      · split
        · exact cellsFrom_has r _ _ x (.inr (by simp))
        · exact cellsFrom_has r _ _ x (.inr h)
    · have q' : (x == m) = false := beq_eq_false_iff_ne.mpr q
      simp only [List.lookup_cons, q'] at h
      split
      · exact cellsFrom_has r _ _ x (h.imp id fun h => by simp only [List.lookup_cons, q']; exact h)
      · exact cellsFrom_has r _ _ x h
theorem cellsFrom_keys : ∀ (names : List (Str × NameKind)) (n : Nat) (acc : List (Str × Addr)), ((acc.map (·.1)) ++ (names.map (·.1))).Nodup → ((cellsFrom n names acc).map (·.1)).Nodup
  | [], n, acc, h => by unfold cellsFrom; simpa using h
  | (m, kd) :: r, n, acc, h => by
    unfold cellsFrom
    split
    · refine cellsFrom_keys r _ _ ?_
      rw [List.map_cons]
      have := (List.perm_middle (a := m) (l₁ := acc.map (·.1)) (l₂ := r.map (·.1))).nodup_iff.mp h
      exact this
    · refine cellsFrom_keys r _ _ ?_
      rw [List.map_cons] at h
      have := (List.perm_middle (a := m) (l₁ := acc.map (·.1)) (l₂ := r.map (·.1))).nodup_iff.mp h
      exact (List.nodup_cons.mp this).2
theorem cellsFrom_names : ∀ (names : List (Str × NameKind)) (n : Nat) (acc : List (Str × Addr)) (p : Str × Addr), p ∈ cellsFrom n names acc → p ∈ acc ∨ (p.1, NameKind.cell) ∈ names
  | [], n, acc, p, h => .inl h
  | (m, kd) :: r, n, acc, p, h => by
    unfold cellsFrom at h
    split at h
    · rename_i q
      have q : kd = .cell := by simpa using q
      rcases cellsFrom_names r _ _ p h with h | h
      · rcases List.mem_cons.mp h with rfl | h
        · exact .inr (by rw [q]; exact List.mem_cons_self)
        · exact .inl h
      · exact .inr (List.mem_cons_of_mem _ h)
    · exact (cellsFrom_names r _ _ p h).imp id (List.mem_cons_of_mem _)
theorem lookup_of_mem {cs : List (Str × Addr)} : (cs.map (·.1)).Nodup → ∀ {n : Str} {c : Addr}, (n, c) ∈ cs → cs.lookup n = some c := by
  induction cs with
  | nil => intro _ n c h; cases h
  | cons x r ih =>
    intro hn n c h
    obtain ⟨m, d⟩ := x
    rw [List.map_cons, List.nodup_cons] at hn
    rw [List.lookup_cons]
    rcases List.mem_cons.mp h with e | h'
    · cases e; simp
    · have : (n == m) = false := beq_eq_false_iff_ne.mpr fun q => hn.1 (by subst q; exact List.mem_map.mpr ⟨_, h', rfl⟩)
      simp only [this]
      exact ih hn.2 h'

theorem bindL_not (kd : Str → Option NameKind) : ∀ (binds : List (Str × Value)) (m : Str → Option Value) (x : Str), x ∉ binds.map (·.1) → bindL kd binds m x = m x
  | [], _, _, _ => rfl
  | (n, v) :: r, m, x, h => by
    rw [List.map_cons, List.mem_cons, not_or] at h
    unfold bindL
    rw [bindL_not kd r _ x h.2]
    split
    · exact if_neg h.1
    · rfl
theorem bindC_not (kd : Str → Option NameKind) : ∀ (binds : List (Str × Value)) (m : Str → Option Value) (x : Str), x ∉ binds.map (·.1) → bindC kd binds m x = m x
  | [], _, _, _ => rfl
  | (n, v) :: r, m, x, h => by
    rw [List.map_cons, List.mem_cons, not_or] at h
    unfold bindC
    rw [bindC_not kd r _ x h.2]
    split
    · rfl
    · exact if_neg h.1
theorem zip_keys : ∀ (ps : List Nat) (vs : List Value) (x : Nat), x ∉ ps → nm x ∉ (((ps.map nm).zip vs).map (·.1))
  | [], _, _, _ => by simp
  | p :: ps, [], _, _ => by simp
  | p :: ps, v :: vs, x, h => by
    rw [List.mem_cons, not_or] at h
    simp only [List.map_cons, List.zip_cons_cons, List.mem_cons, not_or]
    exact ⟨fun e => h.1 (nm_inj e), zip_keys ps vs x h.2⟩
theorem bind_spec {α : List Addr} {h : Heap} (kd : Str → Option NameKind) : ∀ (ps : List Nat) (vs : List Value) (ds : List V) (m cm : Str → Option Value), ps.Nodup → VRs G α h vs ds → ∀ x d, look x (ps.zip ds) = some d →
    x ∈ ps ∧ ∃ v, VR G α h v d ∧ (kd (nm x) = some .local → bindL kd ((ps.map nm).zip vs) m (nm x) = some v) ∧ (¬ kd (nm x) = some .local → bindC kd ((ps.map nm).zip vs) cm (nm x) = some v)
  | [], _, _, _, _, _, _, x, d, e => by simp [look_nil] at e
  | p :: ps, _, _, _, _, _, .nil, x, d, e => by simp [look_nil] at e
  | p :: ps, _, _, m, cm, hn, .cons (v := v) (d := dv) r rs, x, d, e => by
    rw [List.nodup_cons] at hn
    rw [List.zip_cons_cons, look_cons] at e
    by_cases q : p = x
    · subst q
      simp at e; subst e
      refine ⟨List.mem_cons_self, v, r, fun hk => ?_, fun hk => ?_⟩
      · rw [List.map_cons, List.zip_cons_cons]
        unfold bindL
        rw [bindL_not _ _ _ _ (zip_keys ps _ p hn.1), if_pos hk]; simp
      · rw [List.map_cons, List.zip_cons_cons]
        unfold bindC
        rw [bindC_not _ _ _ _ (zip_keys ps _ p hn.1), if_neg hk]; simp
    · rw [if_neg q] at e
      obtain ⟨h0, w, h1, h2, h3⟩ := bind_spec kd ps _ _ (if kd (nm p) = some .local then fun y => if y = nm p then some v else m y else m) (if kd (nm p) = some .local then cm else fun y => if y = nm p then some v else cm y) hn.2 rs x d e
      exact ⟨List.mem_cons_of_mem _ h0, w, h1, h2, h3⟩

theorem call_cells {prog : Program} {w : World} {A : Around} {s : Shared} {R : Result → Shared → Prop} {a : Addr} {o : Obj} {fd : FuncData} {body : List Stmt} {vals : List Value} {binds : List (Str × Value)}
    (hroom : A.depth < recursionLimit) (ho : s.heap.get? a = some o) (hdata : o.data = .func fd) (hlim : s.heap.NoLimit) (hcd : s.heap.CodeRec fd.code fd.qualname)
    (hbody : fd.body = .stmts body) (hbind : BindsTo s fd ⟨vals, []⟩ binds) (hclo : fd.closure = [])
    (hkind : ∀ x ∈ binds, fd.scope.names.lookup x.1 = some .local ∨ (fd.scope.names.lookup x.1 = some .cell ∧ ((cellsFrom (s.heap.objs.size + 1) fd.scope.names []).lookup x.1).isSome = true))
    (h : ∀ s₁, InCallC s (callEnvC fd s.heap.objs.size a).locals (bindL (callEnvC fd s.heap.objs.size a).kindOf binds fun _ => none) (callEnvC fd s.heap.objs.size a).cells
        (bindC (callEnvC fd s.heap.objs.size a).kindOf binds fun _ => none) s₁ →
      wpAny (model prog w) (A.deeper (callEnvC fd s.heap.objs.size a)) (execs body (callEnvC fd s.heap.objs.size a)) (fun f s' => R (.ok (.ret (match f with | .ret v => v | _ => .none))) s')
        (fun e s' => wpAny (model prog w) (A.deeper (callEnvC fd s.heap.objs.size a)) (leaving (callEnvC fd s.heap.objs.size a) e) (fun _ s'' => R (.error e) s'') (fun e' s'' => R (.error e') s'') s') s₁)
    (hco : fd.scope.isCoroutine = false) (hgen : fd.scope.isGenerator = false) (hk : fd.scope.kind = .function) :
    codeAny (model prog w) A (.call (.ref a) ⟨vals, []⟩) R s := by
  refine codeAny_call_function hroom ho hdata hco hgen hbody hcd ?_
  rw [hclo]
  refine hbind _ _ _ _ (wpAny_newFunctionEnv_cells hk hkind fun env he s' x => ?_)
  subst he
  exact ⟨hlim.keeps x.toInCall.keep, codeAny_func (h s' x)⟩
theorem call_env {n : Nat} {F : Fn} {A : Around} {α : List Addr} {H : Hp} {s : Shared} {vs : List Value} {ds : List V} {R : Result → Shared → Prop} {C : CallT} {a : Addr} {o : Obj} {fd : FuncData} {body : List Stmt} {K : PS}
    (P : Prg G FT) (hC : SemC G FT C n) (hA : AOkW (n + 1) A) (l : LR G α H s.heap) (r : VRs G α s.heap vs ds) (hlen : ds.length = F.params.length)
    (ho : G.h0.get? a = some o) (hd : o.data = .func fd) (hb : fd.body = .stmts body) (hck : F.body.chk fd.scope.names body = true) (hclo : fd.closure = []) (hcode : G.h0.CodeRec fd.code fd.qualname)
    (hgl : fd.globals = mainGlobals) (hbl : fd.builtins = builtinsNs) (hco : fd.scope.isCoroutine = false) (hge : fd.scope.isGenerator = false) (hk : fd.scope.kind = .function) (hv : ∀ x ∈ F.params, isVar fd.scope.names (nm x) = true) (hnd : F.params.Nodup)
    (hfree : ∀ p ∈ fd.scope.names, p.2 ≠ .free) (hnames : (fd.scope.names.map (·.1)).Nodup) {vals : List Value} (hbind : ∀ S, peek G.K S (bindArgs fd ⟨vals, []⟩) = some ((F.params.map nm).zip vs))
    (hw : F.body.wp C (F.params.zip ds) H K)
    (hR : ∀ f fl ρ' α' H' h' tk, K fl ρ' H' → FlR G α' h' f fl → LR G α' H' h' → Ext G α α s.heap α' h' → R (.ok (.ret (match f with | .ret v => v | _ => .none))) { s with heap := h', toks := tk }) :
    codeAny (Mo G) A (.call (.ref a) ⟨vals, []⟩) R s := by
  have hvl := r.length
  have hkd : ∀ x ∈ (F.params.map nm).zip vs, fd.scope.names.lookup x.1 = some .local ∨ (fd.scope.names.lookup x.1 = some .cell ∧ ((cellsFrom (s.heap.objs.size + 1) fd.scope.names []).lookup x.1).isSome = true) := fun x hx => by
    have h1 := (List.of_mem_zip (a := x.1) (b := x.2) hx).1
    obtain ⟨p, hp, e⟩ := List.mem_map.mp h1
    rw [← e]
    rcases Bool.or_eq_true_iff.mp (hv p hp) with q | q
    · exact .inl (of_decide_eq_true q)
    · exact .inr ⟨of_decide_eq_true q, cellsFrom_has _ _ _ _ (.inl (of_decide_eq_true q))⟩
  refine call_cells (by have := hA.depth; omega) (l.base _ _ ho) hd (G.lim.keeps l.base) (hcode.keeps l.base) hb (fun M _ _ _ q => (Looks.of_peek (M := M) l.kin (hbind _)).here q) hclo hkd (fun s₁ I => ?_) hco hge hk
  obtain ⟨h₁, tk₁, rfl⟩ := I.toInCall.same
  have keep := I.toInCall.keep
  generalize henv : callEnvC fd s.heap.objs.size a = env at I ⊢
  have el : env.locals = s.heap.objs.size := by rw [← henv]; rfl
  have ec : env.cells = cellsFrom (s.heap.objs.size + 1) fd.scope.names [] := by rw [← henv]; rfl
  have es : env.scope = fd.scope := by rw [← henv]; rfl
  have eg : env.globals = mainGlobals := by rw [← henv]; exact hgl
  have eb : env.builtins = builtinsNs := by rw [← henv]; exact hbl
  have ek : ∀ x, env.kindOf x = fd.scope.names.lookup x := fun x => by show env.scope.names.lookup x = _; rw [es]
  have x₁ : Ext G α α s.heap α h₁ := .of_keeps keep
  have l₁ : LR G α H h₁ := l.all keep
  have ckeys : (env.cells.map (·.1)).Nodup := by rw [ec]; exact cellsFrom_keys _ _ _ (by simpa using hnames)
  have cellOf : ∀ x, env.kindOf x = some .cell → ∃ c, env.cells.lookup x = some c := fun x h => by
    rw [ek] at h
    have := cellsFrom_has fd.scope.names (s.heap.objs.size + 1) [] x (.inl h)
    rw [← ec] at this
    exact Option.isSome_iff_exists.mp this
  have noFree : ∀ x, env.kindOf x ≠ some .free := fun x h => by
    rw [ek] at h
    exact hfree _ (lookup_mem h) rfl
  have spec := bind_spec (G := G) (α := α) (h := s.heap) env.kindOf F.params vs ds (fun _ => none) (fun _ => none) hnd r
  have offα : ∀ c, s.heap.objs.size ≤ c → c ∉ α := fun c hc m => by
    obtain ⟨q, e, _⟩ := l.occ m
    exact absurd (Heap.lt_size e) (Nat.not_lt.mpr hc)
  have cabove : ∀ c ∈ env.cells.map (·.2), s.heap.objs.size ≤ c := fun c hc => by
    obtain ⟨p, hp, rfl⟩ := List.mem_map.mp hc
    have := I.above p.1 p.2 hp
    rw [el] at this
    exact Nat.le_of_lt this
  have Fr : FR G env α (F.params.zip ds) h₁ := by
    refine ⟨⟨by rw [es]; exact hk, eg, eb, fun x h => ?_, fun x y c h h' => name_of_addr I.apart (mem_of_lookup h) (mem_of_lookup h')⟩, ?_, ?_, fun c hc => ?_, ⟨_, I.toInCall.ns, fun x d e hl => ?_⟩, fun x d e => ?_⟩
    · rcases h with h | h
      · exact cellOf x h
      · exact absurd h (noFree x)
    · rw [el]; exact (l.above (Nat.le_refl _)).1
    · rw [el]; exact offα _ (Nat.le_refl _)
    · refine ⟨(l.above (cabove c hc)).1, offα c (cabove c hc), ?_⟩
      obtain ⟨p, hp, rfl⟩ := List.mem_map.mp hc
      exact ⟨_, I.cell p.1 p.2 (lookup_of_mem ckeys hp)⟩
    · obtain ⟨_, v, h1, h2, _⟩ := spec x d e
      exact ⟨v, h2 hl, h1.ext x₁⟩
    · obtain ⟨hx, v, h1, h2, h3⟩ := spec x d e
      rcases Bool.or_eq_true_iff.mp (hv x hx) with q | q
      · exact .inl (by rw [ek]; exact of_decide_eq_true q)
      · have kc : env.kindOf (nm x) = some .cell := by rw [ek]; exact of_decide_eq_true q
        obtain ⟨c, hc⟩ := cellOf _ kc
        refine .inr ⟨.inl kc, c, v, hc, ?_, h1.ext x₁⟩
        have := I.cell _ c hc
        rw [h3 (by rw [kc]; decide)] at this
        exact this
  have hns : NsOk fd.scope.names env := ⟨fun x kd h _ => by rw [ek]; exact h, fun x h => .inl (by rw [ek]; exact h)⟩
  refine ss_ok P hC F.body hck hns (hA.deeper) (s := { s with heap := h₁, toks := tk₁ }) Fr l₁ hw _ _ fun f fl ρ' α' H' h' tk hq hf F' l' x' => ?_
  refine hR f fl ρ' α' H' h' tk hq hf l' (x₁.trans x' fun b hb => ?_)
  rcases List.mem_cons.mp hb with q | q
  · subst q; rw [el]; exact .inr (fresh_at _)
  · rcases List.mem_append.mp q with q | q
    · refine .inr ?_
      cases e : s.heap.get? b with
      | none => rfl
      | some o => exact absurd (Heap.lt_size e) (Nat.not_lt.mpr (cabove b q))
    · exact .inl q

theorem semC (P : Prg G FT) : ∀ n, SemC G FT (CN FT n) n
  | 0 => fun f ds H Q h => h.elim
  | n + 1 => by
    intro f ds H Q h a F hf hF A α s vs R hA l r hR
    have IH := semC P n
    obtain ⟨o, fd, body, ho, hd, hb, hck, hclo, hcode, hgl, hbl, hco, hge, hk, hv, hnd, hfree, hnames, hb1, hb2⟩ := hF.at_
    simp only [CN, hf] at h
    have fin : ∀ f fl (ρ' : Rho) α' H' h' tk, (match fl with | Fl.ret d => Q d H' | Fl.next => Q V.none H' | Fl.brk => False) → FlR G α' h' f fl → LR G α' H' h' → Ext G α α s.heap α' h' →
        R (.ok (.ret (match f with | .ret v => v | _ => .none))) { s with heap := h', toks := tk } := by
      intro f fl ρ' α' H' h' tk hq hf l' x'
      cases hf with
      | next => exact hR _ _ _ _ _ tk hq x' l' .none
      | brk => exact hq.elim
      | ret rv => exact hR _ _ _ _ _ tk hq x' l' rv
    unfold bindP at h
    by_cases q : ds.length = F.params.length
    · rw [if_pos q] at h
      exact call_env P IH hA l r q ho hd hb hck hclo hcode hgl hbl hco hge hk hv hnd hfree hnames (hb1 vs (by rw [r.length]; exact q)) h fin
    · rw [if_neg q] at h
      by_cases q2 : F.dflt = true ∧ ds.length + 1 = F.params.length
      · rw [if_pos q2] at h
        exact call_env P IH hA l (r.append (.cons .none .nil)) (by simp; exact q2.2) ho hd hb hck hclo hcode hgl hbl hco hge hk hv hnd hfree hnames (hb2 q2.1 vs (by rw [r.length]; exact q2.2)) h fin
      · rw [if_neg q2] at h
        exact h.elim
end
end Mine

namespace Mine
open PySem PySem.W PyProof.Rows

noncomputable def fn_m_init : Fn := ⟨[63, 64], false,
  (.cons (.asgA (.var 63) 64 (.var 64))
    (.cons (.asgA (.var 63) 33 (.cint 2))
    (.cons (.asgA (.var 63) 34 (.lst .nil))
    (.cons (.asgA (.var 63) 35 (.lst .nil))
    (.cons (.asgA (.var 63) 32 (.lst .nil))
    .nil)))))⟩
noncomputable def fn_m_new_net : Fn := ⟨[63], false,
  (.cons (.asg 30 (.attr (.var 63) 33))
    (.cons (.augA (.var 63) 33 .Add (.cint 1))
    (.cons (.ret (.var 30))
    .nil)))⟩
noncomputable def fn_m_new_nets : Fn := ⟨[63, 65], false,
  (.cons (.ret (.comp (.meth (.var 63) 106 .nil) 21 (.bcall .range (.cons (.var 65) .nil)) [63]))
    .nil)⟩
noncomputable def fn_m_add_input : Fn := ⟨[63, 64, 65], false,
  (.cons (.asg 45 (.meth (.var 63) 107 (.cons (.var 65) .nil)))
    (.cons (.expr (.bmeth (.attr (.var 63) 34) .append (.cons (.tup (.cons (.var 64) (.cons (.bcall .list (.cons (.var 45) .nil)) .nil))) .nil)))
    (.cons (.ret (.var 45))
    .nil)))⟩
noncomputable def fn_m_add_output : Fn := ⟨[63, 64, 45], false,
  (.cons (.expr (.bmeth (.attr (.var 63) 35) .append (.cons (.tup (.cons (.var 64) (.cons (.bcall .list (.cons (.var 45) .nil)) .nil))) .nil)))
    .nil)⟩
noncomputable def fn_m_add_cell : Fn := ⟨[63, 40, 43, 47], true,
  (.cons (.asg 66 (.meth (.var 63) 106 .nil))
    (.cons (.expr (.meth (.var 63) 111 (.cons (.var 66) (.cons (.var 40) (.cons (.var 43) (.cons (.var 47) .nil))))))
    (.cons (.ret (.var 66))
    .nil)))⟩
noncomputable def fn_m_drive : Fn := ⟨[63, 66, 40, 43, 47], true,
  (.cons (.expr (.bmeth (.attr (.var 63) 32) .append (.cons (.tup (.cons (.var 40) (.cons (.var 66) (.cons (.bcall .tuple (.cons (.var 43) .nil)) (.cons (.var 47) .nil))))) .nil)))
    .nil)⟩
noncomputable def fn_row_number : Fn := ⟨[16], false,
  (.cons (.asg 17 (.cint 0))
    (.cons (.for_ 18 (.bcall .range (.cons (.bcall .len (.cons (.var 16) .nil)) .nil)) (.cons (.if_ (.sub (.var 16) (.var 18)) (.cons (.aug 17 .Add (.bin .LShift (.cint 1) (.var 18)))
    .nil) .nil)
    .nil))
    (.cons (.ret (.var 17))
    .nil)))⟩
noncomputable def fn_full_table : Fn := ⟨[15], false,
  (.cons (.ret (.bin .Sub (.bin .LShift (.cint 1) (.bin .LShift (.cint 1) (.var 15))) (.cint 1)))
    .nil)⟩
noncomputable def fn_var_table : Fn := ⟨[13, 15], false,
  (.cons (.asg 19 (.call 76 (.cons (.var 15) .nil)))
    (.cons (.ret (.bin .BitXor (.var 19) (.bin .FloorDiv (.var 19) (.bin .Add (.bin .LShift (.cint 1) (.bin .LShift (.cint 1) (.var 13))) (.cint 1)))))
    .nil))⟩
noncomputable def fn_cofactor : Fn := ⟨[20, 13, 21, 15], false,
  (.cons (.asg 22 (.bin .BitAnd (.var 20) (.call 77 (.cons (.var 13) (.cons (.var 15) .nil)))))
    (.cons (.if_ (.cmp .Eq (.var 21) (.cint 1)) (.cons (.ret (.bin .BitOr (.var 22) (.bin .RShift (.var 22) (.bin .LShift (.cint 1) (.var 13)))))
    .nil) .nil)
    (.cons (.asg 23 (.bin .BitXor (.var 20) (.var 22)))
    (.cons (.ret (.bin .BitOr (.var 23) (.bin .LShift (.var 23) (.bin .LShift (.cint 1) (.var 13)))))
    .nil))))⟩
noncomputable def fn_depends : Fn := ⟨[20, 13, 15], false,
  (.cons (.ret (.cmp .NotEq (.call 78 (.cons (.var 20) (.cons (.var 13) (.cons (.cint 0) (.cons (.var 15) .nil))))) (.call 78 (.cons (.var 20) (.cons (.var 13) (.cons (.cint 1) (.cons (.var 15) .nil)))))))
    .nil)⟩
noncomputable def fn_support : Fn := ⟨[20, 15], false,
  (.cons (.asg 24 (.lst .nil))
    (.cons (.for_ 13 (.bcall .range (.cons (.var 15) .nil)) (.cons (.if_ (.call 79 (.cons (.var 20) (.cons (.var 13) (.cons (.var 15) .nil)))) (.cons (.expr (.bmeth (.var 24) .append (.cons (.var 13) .nil)))
    .nil) .nil)
    .nil))
    (.cons (.ret (.var 24))
    .nil)))⟩
noncomputable def fn_spread : Fn := ⟨[12, 25], false,
  (.cons (.asg 17 (.cint 0))
    (.cons (.for_ 26 (.bcall .range (.cons (.bcall .len (.cons (.var 25) .nil)) .nil)) (.cons (.aug 17 .BitOr (.bin .LShift (.bin .BitAnd (.bin .RShift (.var 12) (.var 26)) (.cint 1)) (.sub (.var 25) (.var 26))))
    .nil))
    (.cons (.ret (.var 17))
    .nil)))⟩
noncomputable def fn_shrink : Fn := ⟨[20, 15], false,
  (.cons (.asg 27 (.call 80 (.cons (.var 20) (.cons (.var 15) .nil))))
    (.cons (.asg 28 (.cint 0))
    (.cons (.for_ 12 (.bcall .range (.cons (.bin .LShift (.cint 1) (.bcall .len (.cons (.var 27) .nil))) .nil)) (.cons (.aug 28 .BitOr (.bin .LShift (.bin .BitAnd (.bin .RShift (.var 20) (.call 81 (.cons (.var 12) (.cons (.var 27) .nil)))) (.cint 1)) (.var 12)))
    .nil))
    (.cons (.ret (.tup (.cons (.var 28) (.cons (.var 27) .nil))))
    .nil))))⟩
noncomputable def fn_final_net : Fn := ⟨[29, 30], false,
  (.cons (.while_ (.cmp .In (.var 30) (.var 29)) (.cons (.asg 30 (.sub (.var 29) (.var 30)))
    .nil))
    (.cons (.ret (.var 30))
    .nil))⟩
noncomputable def fn_rebuilt_cells : Fn := ⟨[31, 32, 29], false,
  (.cons (.asg 28 (.new (.cons (.attr (.var 31) 64) .nil)))
    (.cons (.asgA (.var 28) 33 (.attr (.var 31) 33))
    (.cons (.forT [64, 45] (.attr (.var 31) 34) (.cons (.expr (.bmeth (.attr (.var 28) 34) .append (.cons (.tup (.cons (.var 64) (.cons (.bcall .list (.cons (.var 45) .nil)) .nil))) .nil)))
    .nil))
    (.cons (.forT [40, 66, 43, 47] (.var 32) (.cons (.if_ (.cmp .NotIn (.var 66) (.var 29)) (.cons (.expr (.meth (.var 28) 111 (.cons (.var 66) (.cons (.var 40) (.cons (.comp (.call 83 (.cons (.var 29) (.cons (.var 30) .nil))) 30 (.var 43) [29]) (.cons (.var 47) .nil))))))
    .nil) .nil)
    .nil))
    (.cons (.forT [64, 45] (.attr (.var 31) 35) (.cons (.expr (.meth (.var 28) 109 (.cons (.var 64) (.cons (.comp (.call 83 (.cons (.var 29) (.cons (.var 30) .nil))) 30 (.var 45) [29]) .nil))))
    .nil))
    (.cons (.ret (.var 28))
    .nil))))))⟩
noncomputable def fn_rebuilt : Fn := ⟨[31, 29], false,
  (.cons (.ret (.call 84 (.cons (.var 31) (.cons (.attr (.var 31) 32) (.cons (.var 29) .nil)))))
    .nil)⟩
noncomputable def fn_and_form : Fn := ⟨[36, 37, 38], false,
  (.cons (.if_ (.tor (.cons (.cmp .Eq (.var 36) (.cint 0)) (.cons (.cmp .Eq (.var 37) (.cint 0)) (.cons (.var 38) .nil)))) (.cons (.ret (.tup (.cons (.cstr 10) (.cons (.tup (.cons (.cint 0) .nil)) .nil))))
    .nil) .nil)
    (.cons (.if_ (.tor (.cons (.cmp .Eq (.var 36) (.cint 1)) (.cons (.cmp .Eq (.var 36) (.var 37)) .nil))) (.cons (.ret (.tup (.cons (.cstr 10) (.cons (.tup (.cons (.var 37) .nil)) .nil))))
    .nil) .nil)
    (.cons (.if_ (.cmp .Eq (.var 37) (.cint 1)) (.cons (.ret (.tup (.cons (.cstr 10) (.cons (.tup (.cons (.var 36) .nil)) .nil))))
    .nil) .nil)
    (.cons (.ret (.tup (.cons (.cstr 0) (.cons (.tup (.cons (.var 36) (.cons (.var 37) .nil))) .nil))))
    .nil))))⟩
noncomputable def fn_or_form : Fn := ⟨[36, 37, 38], false,
  (.cons (.if_ (.tor (.cons (.cmp .Eq (.var 36) (.cint 1)) (.cons (.cmp .Eq (.var 37) (.cint 1)) (.cons (.var 38) .nil)))) (.cons (.ret (.tup (.cons (.cstr 10) (.cons (.tup (.cons (.cint 1) .nil)) .nil))))
    .nil) .nil)
    (.cons (.if_ (.tor (.cons (.cmp .Eq (.var 36) (.cint 0)) (.cons (.cmp .Eq (.var 36) (.var 37)) .nil))) (.cons (.ret (.tup (.cons (.cstr 10) (.cons (.tup (.cons (.var 37) .nil)) .nil))))
    .nil) .nil)
    (.cons (.if_ (.cmp .Eq (.var 37) (.cint 0)) (.cons (.ret (.tup (.cons (.cstr 10) (.cons (.tup (.cons (.var 36) .nil)) .nil))))
    .nil) .nil)
    (.cons (.ret (.tup (.cons (.cstr 1) (.cons (.tup (.cons (.var 36) (.cons (.var 37) .nil))) .nil))))
    .nil))))⟩
noncomputable def fn_xor_form : Fn := ⟨[36, 37, 38], false,
  (.cons (.if_ (.cmp .Eq (.var 36) (.var 37)) (.cons (.ret (.tup (.cons (.cstr 10) (.cons (.tup (.cons (.cint 0) .nil)) .nil))))
    .nil) .nil)
    (.cons (.if_ (.var 38) (.cons (.ret (.tup (.cons (.cstr 10) (.cons (.tup (.cons (.cint 1) .nil)) .nil))))
    .nil) .nil)
    (.cons (.if_ (.cmp .Eq (.var 36) (.cint 0)) (.cons (.ret (.tup (.cons (.cstr 10) (.cons (.tup (.cons (.var 37) .nil)) .nil))))
    .nil) .nil)
    (.cons (.if_ (.cmp .Eq (.var 37) (.cint 0)) (.cons (.ret (.tup (.cons (.cstr 10) (.cons (.tup (.cons (.var 36) .nil)) .nil))))
    .nil) .nil)
    (.cons (.if_ (.cmp .Eq (.var 36) (.cint 1)) (.cons (.ret (.tup (.cons (.cstr 9) (.cons (.tup (.cons (.var 37) .nil)) .nil))))
    .nil) .nil)
    (.cons (.if_ (.cmp .Eq (.var 37) (.cint 1)) (.cons (.ret (.tup (.cons (.cstr 9) (.cons (.tup (.cons (.var 36) .nil)) .nil))))
    .nil) .nil)
    (.cons (.ret (.tup (.cons (.cstr 2) (.cons (.tup (.cons (.var 36) (.cons (.var 37) .nil))) .nil))))
    .nil)))))))⟩
noncomputable def fn_turned_form : Fn := ⟨[39], false,
  (.cons (.asgT [40, 43] (.var 39))
    (.cons (.if_ (.cmp .Eq (.var 40) (.cstr 10)) (.cons (.if_ (.tor (.cons (.cmp .Eq (.sub (.var 43) (.cint 0)) (.cint 0)) (.cons (.cmp .Eq (.sub (.var 43) (.cint 0)) (.cint 1)) .nil))) (.cons (.ret (.tup (.cons (.cstr 10) (.cons (.tup (.cons (.bin .Sub (.cint 1) (.sub (.var 43) (.cint 0))) .nil)) .nil))))
    .nil) .nil)
    (.cons (.ret (.tup (.cons (.cstr 9) (.cons (.var 43) .nil))))
    .nil)) .nil)
    (.cons (.if_ (.cmp .Eq (.var 40) (.cstr 9)) (.cons (.ret (.tup (.cons (.cstr 10) (.cons (.var 43) .nil))))
    .nil) .nil)
    (.cons (.if_ (.cmp .Eq (.var 40) (.cstr 0)) (.cons (.ret (.tup (.cons (.cstr 3) (.cons (.var 43) .nil))))
    .nil) .nil)
    (.cons (.if_ (.cmp .Eq (.var 40) (.cstr 1)) (.cons (.ret (.tup (.cons (.cstr 4) (.cons (.var 43) .nil))))
    .nil) .nil)
    (.cons (.ret (.tup (.cons (.cstr 5) (.cons (.var 43) .nil))))
    .nil))))))⟩
noncomputable def fn_gate_form : Fn := ⟨[40, 36, 37, 38], false,
  (.cons (.if_ (.cmp .Eq (.var 40) (.cstr 0)) (.cons (.ret (.call 86 (.cons (.var 36) (.cons (.var 37) (.cons (.var 38) .nil)))))
    .nil) .nil)
    (.cons (.if_ (.cmp .Eq (.var 40) (.cstr 3)) (.cons (.ret (.call 89 (.cons (.call 86 (.cons (.var 36) (.cons (.var 37) (.cons (.var 38) .nil)))) .nil)))
    .nil) .nil)
    (.cons (.if_ (.cmp .Eq (.var 40) (.cstr 1)) (.cons (.ret (.call 87 (.cons (.var 36) (.cons (.var 37) (.cons (.var 38) .nil)))))
    .nil) .nil)
    (.cons (.if_ (.cmp .Eq (.var 40) (.cstr 4)) (.cons (.ret (.call 89 (.cons (.call 87 (.cons (.var 36) (.cons (.var 37) (.cons (.var 38) .nil)))) .nil)))
    .nil) .nil)
    (.cons (.if_ (.cmp .Eq (.var 40) (.cstr 2)) (.cons (.ret (.call 88 (.cons (.var 36) (.cons (.var 37) (.cons (.var 38) .nil)))))
    .nil) .nil)
    (.cons (.ret (.call 89 (.cons (.call 88 (.cons (.var 36) (.cons (.var 37) (.cons (.var 38) .nil)))) .nil)))
    .nil))))))⟩
noncomputable def fn_select_form : Fn := ⟨[41, 36, 37], false,
  (.cons (.if_ (.tor (.cons (.cmp .Eq (.var 41) (.cint 0)) (.cons (.cmp .Eq (.var 36) (.var 37)) .nil))) (.cons (.ret (.tup (.cons (.cstr 10) (.cons (.tup (.cons (.var 36) .nil)) .nil))))
    .nil) .nil)
    (.cons (.if_ (.cmp .Eq (.var 41) (.cint 1)) (.cons (.ret (.tup (.cons (.cstr 10) (.cons (.tup (.cons (.var 37) .nil)) .nil))))
    .nil) .nil)
    (.cons (.if_ (.tand (.cons (.cmp .Eq (.var 36) (.cint 0)) (.cons (.cmp .Eq (.var 37) (.cint 1)) .nil))) (.cons (.ret (.tup (.cons (.cstr 10) (.cons (.tup (.cons (.var 41) .nil)) .nil))))
    .nil) .nil)
    (.cons (.if_ (.tand (.cons (.cmp .Eq (.var 36) (.cint 1)) (.cons (.cmp .Eq (.var 37) (.cint 0)) .nil))) (.cons (.ret (.tup (.cons (.cstr 9) (.cons (.tup (.cons (.var 41) .nil)) .nil))))
    .nil) .nil)
    (.cons (.ret (.tup (.cons (.cstr 6) (.cons (.tup (.cons (.var 41) (.cons (.var 36) (.cons (.var 37) .nil)))) .nil))))
    .nil)))))⟩
noncomputable def fn_table_bit : Fn := ⟨[30, 27, 17], false,
  (.cons (.if_ (.tor (.cons (.cmp .Eq (.var 30) (.cint 0)) (.cons (.cmp .Eq (.var 30) (.cint 1)) .nil))) (.cons (.ret (.var 30))
    .nil) .nil)
    (.cons (.ret (.bin .BitAnd (.bin .RShift (.var 17) (.bmeth (.var 27) .index (.cons (.var 30) .nil))) (.cint 1)))
    .nil))⟩
noncomputable def fn_table_over : Fn := ⟨[42, 43, 27], false,
  (.cons (.asg 44 (.cint 0))
    (.cons (.for_ 17 (.bcall .range (.cons (.bin .LShift (.cint 1) (.bcall .len (.cons (.var 27) .nil))) .nil)) (.cons (.asgC 16 (.comp (.call 92 (.cons (.var 30) (.cons (.var 27) (.cons (.var 17) .nil)))) 30 (.var 43) [17, 27]))
    (.cons (.if_ (.bin .BitAnd (.bin .RShift (.var 42) (.call 75 (.cons (.var 16) .nil))) (.cint 1)) (.cons (.aug 44 .Add (.bin .LShift (.cint 1) (.var 17)))
    .nil) .nil)
    .nil)))
    (.cons (.ret (.var 44))
    .nil)))⟩
noncomputable def fn_table_form : Fn := ⟨[42, 43], false,
  (.cons (.asg 27 (.lst .nil))
    (.cons (.for_ 30 (.var 43) (.cons (.if_ (.tand (.cons (.cmp .Gt (.var 30) (.cint 1)) (.cons (.cmp .NotIn (.var 30) (.var 27)) .nil))) (.cons (.expr (.bmeth (.var 27) .append (.cons (.var 30) .nil)))
    .nil) .nil)
    .nil))
    (.cons (.asgT [44, 25] (.call 82 (.cons (.call 93 (.cons (.var 42) (.cons (.var 43) (.cons (.var 27) .nil)))) (.cons (.bcall .len (.cons (.var 27) .nil)) .nil))))
    (.cons (.asg 45 (.bcall .tuple (.cons (.comp (.sub (.var 27) (.var 18)) 18 (.var 25) [27]) .nil)))
    (.cons (.if_ (.cmp .Eq (.bcall .len (.cons (.var 45) .nil)) (.cint 0)) (.cons (.ret (.tup (.cons (.cstr 10) (.cons (.tup (.cons (.bin .BitAnd (.var 44) (.cint 1)) .nil)) (.cons .cnone .nil)))))
    .nil) .nil)
    (.cons (.if_ (.cmp .Eq (.bcall .len (.cons (.var 45) .nil)) (.cint 1)) (.cons (.ret (.tup (.cons (.ite (.cmp .Eq (.var 44) (.cint 2)) (.cstr 10) (.cstr 9)) (.cons (.var 45) (.cons .cnone .nil)))))
    .nil) .nil)
    (.cons (.ret (.tup (.cons (.cstr 7) (.cons (.var 45) (.cons (.var 44) .nil)))))
    .nil)))))))⟩
noncomputable def fn_are_opposite : Fn := ⟨[46, 36, 37], false,
  (.cons (.ret (.or2 (.cmp .Eq (.bmeth (.var 46) .get (.cons (.var 36) (.cons (.cneg 1) .nil))) (.var 37)) (.cmp .Eq (.bmeth (.var 46) .get (.cons (.var 37) (.cons (.cneg 1) .nil))) (.var 36))))
    .nil)⟩
noncomputable def fn_library_form : Fn := ⟨[43, 47], false,
  (.cons (.asgT [40, 45, 42] (.call 94 (.cons (.sub (.var 47) (.cint 1)) (.cons (.var 43) .nil))))
    (.cons (.if_ (.cmp .Eq (.var 40) (.cstr 7)) (.cons (.ret (.tup (.cons (.cstr 8) (.cons (.var 43) (.cons (.var 47) .nil)))))
    .nil) .nil)
    (.cons (.ret (.tup (.cons (.var 40) (.cons (.var 45) (.cons .cnone .nil)))))
    .nil)))⟩
noncomputable def fn_simple_form : Fn := ⟨[8, 43, 46], false,
  (.cons (.asg 40 (.sub (.var 8) (.cint 0)))
    (.cons (.asg 47 .cnone)
    (.cons (.if_ (.cmp .Eq (.var 40) (.cstr 7)) (.cons (.asgT [40, 43, 47] (.call 94 (.cons (.sub (.var 8) (.cint 3)) (.cons (.var 43) .nil))))
    .nil) (.cons (.if_ (.cmp .Eq (.var 40) (.cstr 8)) (.cons (.asgT [40, 43, 47] (.call 96 (.cons (.var 43) (.cons (.sub (.var 8) (.cint 3)) .nil))))
    .nil) (.cons (.if_ (.cmp .Eq (.var 40) (.cstr 6)) (.cons (.asgT [40, 43] (.call 91 (.cons (.sub (.var 43) (.cint 0)) (.cons (.sub (.var 43) (.cint 1)) (.cons (.sub (.var 43) (.cint 2)) .nil)))))
    .nil) (.cons (.if_ (.cmp .Eq (.bcall .len (.cons (.var 43) .nil)) (.cint 2)) (.cons (.asgT [40, 43] (.call 90 (.cons (.var 40) (.cons (.sub (.var 43) (.cint 0)) (.cons (.sub (.var 43) (.cint 1)) (.cons (.call 95 (.cons (.var 46) (.cons (.sub (.var 43) (.cint 0)) (.cons (.sub (.var 43) (.cint 1)) .nil)))) .nil))))))
    .nil) .nil)
    .nil))
    .nil))
    .nil))
    (.cons (.if_ (.cmp .Eq (.var 40) (.cstr 9)) (.cons (.if_ (.tor (.cons (.cmp .Eq (.sub (.var 43) (.cint 0)) (.cint 0)) (.cons (.cmp .Eq (.sub (.var 43) (.cint 0)) (.cint 1)) .nil))) (.cons (.ret (.tup (.cons (.cstr 10) (.cons (.tup (.cons (.bin .Sub (.cint 1) (.sub (.var 43) (.cint 0))) .nil)) (.cons .cnone .nil)))))
    .nil) .nil)
    (.cons (.if_ (.cmp .In (.sub (.var 43) (.cint 0)) (.var 46)) (.cons (.ret (.tup (.cons (.cstr 10) (.cons (.tup (.cons (.sub (.var 46) (.sub (.var 43) (.cint 0))) .nil)) (.cons .cnone .nil)))))
    .nil) .nil)
    .nil)) .nil)
    (.cons (.ret (.tup (.cons (.var 40) (.cons (.var 43) (.cons (.var 47) .nil)))))
    .nil)))))⟩
noncomputable def fn_law_box : Fn := ⟨[48], false,
  (.cons (.asg 49 (.lst .nil))
    (.cons (.for_ 8 (.slTo (.var 48) 40) (.cons (.asg 67 (.ite (.cmp .GtE (.var 8) (.cint 0)) (.bin .Mult (.cint 3) (.var 8)) (.bin .Sub (.cint 1) (.bin .Mult (.cint 3) (.var 8)))))
    (.cons (.while_ (.cmp .Lt (.bcall .len (.cons (.var 49) .nil)) (.cint 70)) (.cons (.expr (.bmeth (.var 49) .append (.cons (.bin .Mod (.var 67) (.cint 127)) .nil)))
    (.cons (.asg 67 (.bin .FloorDiv (.var 67) (.cint 127)))
    (.cons (.if_ (.cmp .Eq (.var 67) (.cint 0)) (.cons .brk
    .nil) .nil)
    .nil))))
    .nil)))
    (.cons (.expr (.bmeth (.var 49) .reverse .nil))
    (.cons (.ret (.var 49))
    .nil))))⟩
noncomputable def fn_law_of : Fn := ⟨[50, 51], false,
  (.cons (.if_ (.cmp .Eq (.var 50) (.lst .nil)) (.cons (.ret (.cint 0))
    .nil) .nil)
    (.cons (.ret (.bin .Mod (.bmeth (.var 50) .pop .nil) (.var 51)))
    .nil))⟩
noncomputable def fn_law_value : Fn := ⟨[40, 47, 43], false,
  (.cons (.if_ (.tor (.cons (.cmp .Eq (.var 40) (.cstr 7)) (.cons (.cmp .Eq (.var 40) (.cstr 8)) .nil))) (.cons (.asg 42 (.ite (.cmp .Eq (.var 40) (.cstr 7)) (.var 47) (.sub (.var 47) (.cint 1))))
    (.cons (.asg 57 (.bcall .sum (.cons (.comp (.bin .Mult (.sub (.var 43) (.var 69)) (.bin .Pow (.cint 2) (.var 69))) 69 (.bcall .range (.cons (.bcall .len (.cons (.var 43) .nil)) .nil)) [43]) .nil)))
    (.cons (.ret (.bin .Mod (.bin .FloorDiv (.var 42) (.bin .Pow (.cint 2) (.var 57))) (.cint 2)))
    .nil))) .nil)
    (.cons (.if_ (.cmp .Eq (.var 40) (.cstr 10)) (.cons (.ret (.sub (.var 43) (.cint 0)))
    .nil) .nil)
    (.cons (.if_ (.cmp .Eq (.var 40) (.cstr 9)) (.cons (.ret (.bin .Sub (.cint 1) (.sub (.var 43) (.cint 0))))
    .nil) .nil)
    (.cons (.if_ (.cmp .Eq (.var 40) (.cstr 6)) (.cons (.ret (.sub (.var 43) (.bin .Add (.cint 1) (.sub (.var 43) (.cint 0)))))
    .nil) .nil)
    (.cons (.asg 52 (.bcall .sum (.cons (.var 43) .nil)))
    (.cons (.asg 53 (.dctS [0, 1, 2, 3, 4, 5] (.cons (.cmp .Eq (.var 52) (.cint 2)) (.cons (.cmp .Gt (.var 52) (.cint 0)) (.cons (.cmp .Eq (.var 52) (.cint 1)) (.cons (.cmp .Lt (.var 52) (.cint 2)) (.cons (.cmp .Eq (.var 52) (.cint 0)) (.cons (.cmp .NotEq (.var 52) (.cint 1)) .nil))))))))
    (.cons (.ret (.ite (.sub (.var 53) (.var 40)) (.cint 1) (.cint 0)))
    .nil)))))))⟩
noncomputable def fn_law_cell : Fn := ⟨[50, 45], false,
  (.cons (.asg 40 (.sub (.lst (.cons (.cstr 0) (.cons (.cstr 1) (.cons (.cstr 2) (.cons (.cstr 3) (.cons (.cstr 4) (.cons (.cstr 5) (.cons (.cstr 6) (.cons (.cstr 7) (.cons (.cstr 8) (.cons (.cstr 9) (.cons (.cstr 10) .nil)))))))))))) (.call 99 (.cons (.var 50) (.cons (.cint 11) .nil)))))
    (.cons (.asg 54 (.cint 2))
    (.cons (.if_ (.cmp .Eq (.var 40) (.cstr 6)) (.cons (.asg 54 (.cint 3))
    .nil) .nil)
    (.cons (.if_ (.tor (.cons (.cmp .Eq (.var 40) (.cstr 9)) (.cons (.cmp .Eq (.var 40) (.cstr 10)) .nil))) (.cons (.asg 54 (.cint 1))
    .nil) .nil)
    (.cons (.if_ (.tor (.cons (.cmp .Eq (.var 40) (.cstr 7)) (.cons (.cmp .Eq (.var 40) (.cstr 8)) .nil))) (.cons (.asg 54 (.call 99 (.cons (.var 50) (.cons (.cint 4) .nil))))
    .nil) .nil)
    (.cons (.asg 43 (.bcall .tuple (.cons (.comp (.sub (.var 45) (.call 99 (.cons (.var 50) (.cons (.bcall .len (.cons (.var 45) .nil)) .nil)))) 69 (.bcall .range (.cons (.var 54) .nil)) [45, 50]) .nil)))
    (.cons (.asg 42 (.bcall .sum (.cons (.comp (.bin .Mult (.call 99 (.cons (.var 50) (.cons (.cint 2) .nil))) (.bin .Pow (.cint 2) (.var 57))) 57 (.bcall .range (.cons (.bin .Pow (.cint 2) (.var 54)) .nil)) [50]) .nil)))
    (.cons (.asg 47 .cnone)
    (.cons (.if_ (.cmp .Eq (.var 40) (.cstr 7)) (.cons (.asg 47 (.var 42))
    .nil) .nil)
    (.cons (.if_ (.cmp .Eq (.var 40) (.cstr 8)) (.cons (.asg 47 (.tup (.cons (.cstr 11) (.cons (.var 42) .nil))))
    .nil) .nil)
    (.cons (.ret (.tup (.cons (.var 40) (.cons (.cint 90) (.cons (.var 43) (.cons (.var 47) .nil))))))
    .nil)))))))))))⟩
noncomputable def fn_law_same : Fn := ⟨[8, 39, 55], false,
  (.cons (.asgC 56 (.compIf (.var 30) 30 (.bcall .range (.cons (.cint 2) (.cons (.cint 7) .nil))) (.cmp .NotIn (.var 30) (.comp2 (.var 73) 72 73 (.var 55) [])) [55]))
    (.cons (.for_ 57 (.bcall .range (.cons (.bin .Pow (.cint 2) (.bcall .len (.cons (.var 56) .nil))) .nil)) (.cons (.asg 68 (.dctI [0, 1] (.cons (.cint 0) (.cons (.cint 1) .nil))))
    (.cons (.for_ 69 (.bcall .range (.cons (.bcall .len (.cons (.var 56) .nil)) .nil)) (.cons (.asgI (.var 68) (.sub (.var 56) (.var 69)) (.bin .Mod (.bin .FloorDiv (.var 57) (.bin .Pow (.cint 2) (.var 69))) (.cint 2)))
    .nil))
    (.cons (.forT [72, 73] (.var 55) (.cons (.asgI (.var 68) (.var 73) (.bin .Sub (.cint 1) (.sub (.var 68) (.var 72))))
    .nil))
    (.cons (.asg 70 (.call 100 (.cons (.sub (.var 8) (.cint 0)) (.cons (.sub (.var 8) (.cint 3)) (.cons (.comp (.sub (.var 68) (.var 30)) 30 (.sub (.var 8) (.cint 2)) [68]) .nil)))))
    (.cons (.asg 71 (.call 100 (.cons (.sub (.var 39) (.cint 0)) (.cons (.sub (.var 39) (.cint 2)) (.cons (.comp (.sub (.var 68) (.var 30)) 30 (.sub (.var 39) (.cint 1)) [68]) .nil)))))
    (.cons (.if_ (.cmp .NotEq (.var 70) (.var 71)) (.cons (.ret (.cbool false))
    .nil) .nil)
    .nil)))))))
    (.cons (.ret (.cbool true))
    .nil)))⟩
noncomputable def fn_law_rebuilt : Fn := ⟨[50], false,
  (.cons (.asg 31 (.new (.cons (.cstr 12) .nil)))
    (.cons (.asg 45 (.bin .Add (.lst (.cons (.cint 0) (.cons (.cint 1) .nil))) (.meth (.var 31) 108 (.cons (.cstr 13) (.cons (.cint 2) .nil)))))
    (.cons (.for_ 58 (.bcall .range (.cons (.bin .Add (.cint 1) (.call 99 (.cons (.var 50) (.cons (.cint 5) .nil)))) .nil)) (.cons (.expr (.bmeth (.var 45) .append (.cons (.meth (.var 31) 110 (.cons (.cstr 0) (.cons (.tup (.cons (.sub (.var 45) (.call 99 (.cons (.var 50) (.cons (.bcall .len (.cons (.var 45) .nil)) .nil)))) (.cons (.sub (.var 45) (.cneg 1)) .nil))) .nil))) .nil)))
    .nil))
    (.cons (.expr (.meth (.var 31) 109 (.cons (.cstr 14) (.cons (.lst (.cons (.sub (.var 45) (.call 99 (.cons (.var 50) (.cons (.bcall .len (.cons (.var 45) .nil)) .nil)))) (.cons (.sub (.var 45) (.cneg 1)) .nil))) .nil))))
    (.cons (.asg 29 (.dctI [] .nil))
    (.cons (.for_ 30 (.slFrom (.var 45) 4) (.cons (.if_ (.cmp .Eq (.call 99 (.cons (.var 50) (.cons (.cint 3) .nil))) (.cint 1)) (.cons (.asgI (.var 29) (.var 30) (.sub (.var 45) (.call 99 (.cons (.var 50) (.cons (.bmeth (.var 45) .index (.cons (.var 30) .nil)) .nil)))))
    .nil) .nil)
    .nil))
    (.cons (.asg 59 (.tup (.cons (.bcall .list (.cons (.attr (.var 31) 32) .nil)) (.cons (.comp (.bcall .list (.cons (.sub (.var 74) (.cint 1)) .nil)) 74 (.attr (.var 31) 35) []) .nil))))
    (.cons (.asg 60 (.call 85 (.cons (.var 31) (.cons (.var 29) .nil))))
    (.cons (.asg 61 (.dctI [] .nil))
    (.cons (.for_ 30 (.var 45) (.cons (.asgI (.var 61) (.var 30) (.ite (.cmp .In (.var 30) (.var 29)) (.sub (.var 61) (.sub (.var 29) (.var 30))) (.var 30)))
    .nil))
    (.cons (.asgC 62 (.compIf (.tup (.cons (.sub (.var 8) (.cint 0)) (.cons (.sub (.var 8) (.cint 1)) (.cons (.bcall .tuple (.cons (.comp (.sub (.var 61) (.var 30)) 30 (.sub (.var 8) (.cint 2)) [61]) .nil)) (.cons (.sub (.var 8) (.cint 3)) .nil))))) 8 (.attr (.var 31) 32) (.cmp .NotIn (.sub (.var 8) (.cint 1)) (.var 29)) [29, 61]))
    (.cons (.if_ (.tor (.cons (.cmp .NotEq (.attr (.var 60) 32) (.var 62)) (.cons (.cmp .NotEq (.attr (.var 60) 33) (.attr (.var 31) 33)) (.cons (.cmp .NotEq (.attr (.var 60) 34) (.attr (.var 31) 34)) (.cons (.cmp .NotEq (.attr (.var 60) 64) (.cstr 12)) .nil))))) (.cons (.ret (.cbool false))
    .nil) .nil)
    (.cons (.if_ (.cmp .NotEq (.attr (.var 60) 35) (.lst (.cons (.tup (.cons (.cstr 14) (.cons (.comp (.sub (.var 61) (.var 30)) 30 (.sub (.sub (.var 59) (.cint 1)) (.cint 0)) [61]) .nil))) .nil))) (.cons (.ret (.cbool false))
    .nil) .nil)
    (.cons (.ret (.cmp .Eq (.tup (.cons (.attr (.var 31) 32) (.cons (.comp (.sub (.var 74) (.cint 1)) 74 (.attr (.var 31) 35) []) .nil))) (.var 59)))
    .nil))))))))))))))⟩
noncomputable def fn_law : Fn := ⟨[48], false,
  (.cons (.asg 50 (.call 98 (.cons (.var 48) .nil)))
    (.cons (.asg 55 (.lst .nil))
    (.cons (.asg 46 (.dctI [] .nil))
    (.cons (.forT [72, 73] (.lst (.cons (.tup (.cons (.cint 2) (.cons (.cint 5) .nil))) (.cons (.tup (.cons (.cint 3) (.cons (.cint 6) .nil))) .nil))) (.cons (.if_ (.cmp .Eq (.call 99 (.cons (.var 50) (.cons (.cint 2) .nil))) (.cint 1)) (.cons (.expr (.bmeth (.var 55) .append (.cons (.tup (.cons (.var 72) (.cons (.var 73) .nil))) .nil)))
    (.cons (.asgI (.var 46) (.var 72) (.var 73))
    (.cons (.asgI (.var 46) (.var 73) (.var 72))
    .nil))) .nil)
    .nil))
    (.cons (.for_ 58 (.bcall .range (.cons (.cint 3) .nil)) (.cons (.asg 8 (.call 101 (.cons (.var 50) (.cons (.lst (.cons (.cint 0) (.cons (.cint 1) (.cons (.cint 2) (.cons (.cint 3) (.cons (.cint 4) (.cons (.cint 5) (.cons (.cint 6) (.cons (.cint 2) (.cons (.cint 5) .nil)))))))))) .nil))))
    (.cons (.asg 39 (.call 97 (.cons (.var 8) (.cons (.sub (.var 8) (.cint 2)) (.cons (.bcall .dict (.cons (.var 46) .nil)) .nil)))))
    (.cons (.if_ (.tor (.cons (.cmp .NotEq (.bcall .len (.cons (.var 39) .nil)) (.cint 3)) (.cons (.cmp .Gt (.bcall .len (.cons (.sub (.var 39) (.cint 1)) .nil)) (.bcall .max (.cons (.cint 1) (.cons (.bcall .len (.cons (.sub (.var 8) (.cint 2)) .nil)) .nil)))) (.cons (.not (.call 102 (.cons (.var 8) (.cons (.var 39) (.cons (.var 55) .nil))))) .nil)))) (.cons (.ret (.cbool false))
    .nil) .nil)
    (.cons (.if_ (.tand (.cons (.cmp .Eq (.sub (.var 39) (.cint 0)) (.cstr 9)) (.cons (.cmp .In (.sub (.sub (.var 39) (.cint 1)) (.cint 0)) (.tup (.cons (.cint 0) (.cons (.cint 1) .nil)))) .nil))) (.cons (.ret (.cbool false))
    .nil) .nil)
    .nil)))))
    (.cons (.ret (.call 103 (.cons (.var 50) .nil)))
    .nil))))))⟩
noncomputable def FT (n : Nat) : Option Fn := match n with
  | 105 => some fn_m_init
  | 106 => some fn_m_new_net
  | 107 => some fn_m_new_nets
  | 108 => some fn_m_add_input
  | 109 => some fn_m_add_output
  | 110 => some fn_m_add_cell
  | 111 => some fn_m_drive
  | 75 => some fn_row_number
  | 76 => some fn_full_table
  | 77 => some fn_var_table
  | 78 => some fn_cofactor
  | 79 => some fn_depends
  | 80 => some fn_support
  | 81 => some fn_spread
  | 82 => some fn_shrink
  | 83 => some fn_final_net
  | 84 => some fn_rebuilt_cells
  | 85 => some fn_rebuilt
  | 86 => some fn_and_form
  | 87 => some fn_or_form
  | 88 => some fn_xor_form
  | 89 => some fn_turned_form
  | 90 => some fn_gate_form
  | 91 => some fn_select_form
  | 92 => some fn_table_bit
  | 93 => some fn_table_over
  | 94 => some fn_table_form
  | 95 => some fn_are_opposite
  | 96 => some fn_library_form
  | 97 => some fn_simple_form
  | 98 => some fn_law_box
  | 99 => some fn_law_of
  | 100 => some fn_law_value
  | 101 => some fn_law_cell
  | 102 => some fn_law_same
  | 103 => some fn_law_rebuilt
  | 104 => some fn_law
  | _ => none
end Mine

namespace Mine
open PySem PySem.W PyProof.Rows

noncomputable def fdOf (K : Frag) (a : Addr) : Option FuncData := match K.lookup a with
  | some ⟨_, _, .func fd, _⟩ => some fd
  | _ => none
noncomputable def fnChk (K : Frag) (a : Addr) (F : Fn) : Bool := match fdOf K a with
  | some fd => (match fd.body with
    | .stmts body => F.body.chk fd.scope.names body && fd.closure.isEmpty && codeIn K fd.code fd.qualname && decide (fd.globals = mainGlobals) && decide (fd.builtins = builtinsNs) && !fd.scope.isCoroutine && !fd.scope.isGenerator && decide (fd.scope.kind = .function) &&
        F.params.all (fun x => isVar fd.scope.names (nm x)) && decide F.params.Nodup && fd.scope.names.all (fun p => decide (p.2 ≠ .free)) && decide (fd.scope.names.map (·.1)).Nodup
    | _ => false)
  | none => false
theorem fnAt_of {G : Gl} {a : Addr} {F : Fn} (hc : fnChk G.K a F = true)
    (h1 : ∀ vs, vs.length = F.params.length → ∀ S, (fdOf G.K a).bind (fun fd => peek G.K S (bindArgs fd ⟨vs, []⟩)) = some ((F.params.map nm).zip vs))
    (h2 : F.dflt = true → ∀ vs, vs.length + 1 = F.params.length → ∀ S, (fdOf G.K a).bind (fun fd => peek G.K S (bindArgs fd ⟨vs, []⟩)) = some ((F.params.map nm).zip (vs ++ [.none]))) : FnAt G a F := by
  unfold fnChk at hc
  split at hc
  · rename_i fd hfd
    split at hc
    · rename_i body hb
      obtain ⟨hc, c12⟩ := and2 hc
      obtain ⟨hc, c11⟩ := and2 hc
      obtain ⟨hc, c10⟩ := and2 hc
      obtain ⟨hc, c9⟩ := and2 hc
      obtain ⟨hc, c8⟩ := and2 hc
      obtain ⟨hc, c7⟩ := and2 hc
      obtain ⟨hc, c6⟩ := and2 hc
      obtain ⟨hc, c5⟩ := and2 hc
      obtain ⟨hc, c4⟩ := and2 hc
      obtain ⟨hc, c3⟩ := and2 hc
      obtain ⟨c1, c2⟩ := and2 hc
      rw [hfd] at h1 h2
      unfold fdOf at hfd
      split at hfd
      · rename_i c d fd' sl hl
        cases hfd
        exact ⟨_, fd, body, G.kin _ _ hl, rfl, hb, c1, by simpa using c2, codeRec_of G.kin c3, of_decide_eq_true c4, of_decide_eq_true c5, by simpa using c6, by simpa using c7, of_decide_eq_true c8,
          fun x hx => List.all_eq_true.mp c9 x hx, of_decide_eq_true c10, fun p hp => of_decide_eq_true (List.all_eq_true.mp c11 p hp), of_decide_eq_true c12, h1, h2⟩
      · cases hfd
    · cases hc
  · cases hc

/-! what is asked of the written part, for each def -/
noncomputable def BindAt (K : Frag) (a : Addr) (ps : List Nat) (vs zs : List Value) : Prop := ∀ S, (fdOf K a).bind (fun fd => peek K S (bindArgs fd ⟨vs, []⟩)) = some ((ps.map nm).zip zs)
/-- .. for any values of that number -/
noncomputable def BindR (K : Frag) (a : Addr) (ps : List Nat) (tl : List Value) : Nat → List Value → Prop
  | 0, vs => BindAt K a ps vs (vs ++ tl)
  | n + 1, vs => ∀ x, BindR K a ps tl n (vs ++ [x])
noncomputable def BindN (K : Frag) (a : Addr) (ps : List Nat) (n : Nat) : Prop := BindR K a ps [] n []
noncomputable def BindD (K : Frag) (a : Addr) (ps : List Nat) (n : Nat) : Prop := BindR K a ps [.none] n.pred []
theorem bindR_of {K : Frag} {a : Addr} {ps : List Nat} {tl : List Value} : ∀ (vs us : List Value), BindR K a ps tl vs.length us → BindAt K a ps (us ++ vs) (us ++ vs ++ tl)
  | [], us, h => by rw [List.append_nil]; exact h
  | x :: vs, us, h => by
    have := bindR_of vs (us ++ [x]) (h x)
    rw [List.append_assoc] at this
    exact this
theorem bindN_of {K : Frag} {a : Addr} {ps : List Nat} {n : Nat} (h : BindN K a ps n) (vs : List Value) (e : vs.length = n) : BindAt K a ps vs vs := by
  subst e
  have := bindR_of vs [] h
  rw [List.append_nil] at this
  exact this
theorem bindD_of {K : Frag} {a : Addr} {ps : List Nat} {n : Nat} (h : BindD K a ps n) (vs : List Value) (e : vs.length + 1 = n) : BindAt K a ps vs (vs ++ [.none]) := by
  subst e
  exact bindR_of vs [] h
structure Row (K : Frag) (a : Addr) (F : Fn) : Prop where
  chk : fnChk K a F = true
  bind : BindN K a F.params F.params.length
  dflt : match F.dflt with
    | true => BindD K a F.params F.params.length
    | false => True
theorem Row.at_ {G : Gl} {a : Addr} {F : Fn} (h : Row G.K a F) : FnAt G a F := by
  refine fnAt_of h.chk (fun vs e => bindN_of h.bind vs e) fun e vs q => ?_
  have d := h.dflt
  rw [e] at d
  exact bindD_of d vs q
noncomputable def RowG (K : Frag) (c a : Nat) (F : Fn) : Prop := FT c = some F ∧ nsIn K mainGlobals (nm c) = some (some (.ref a)) ∧ Row K a F
noncomputable def RowM (K : Frag) (C c a : Nat) (F : Fn) : Prop := FT c = some F ∧ findIn K (.ref C) (nm c) = some (some (.ref a)) ∧ typeIn K (.ref a) = some (.type "function") ∧ Row K a F
end Mine

namespace Mine
open PySem PySem.W PyProof.Rows

abbrev netlistAt : Nat := 94
noncomputable def globT : List (Nat × Nat × Fn) := [(75, 105, fn_row_number), (76, 112, fn_full_table), (77, 119, fn_var_table), (78, 126, fn_cofactor), (79, 133, fn_depends), (80, 140, fn_support), (81, 147, fn_spread), (82, 154, fn_shrink), (83, 161, fn_final_net), (84, 166, fn_rebuilt_cells), (85, 173, fn_rebuilt), (86, 180, fn_and_form), (87, 187, fn_or_form), (88, 194, fn_xor_form), (89, 201, fn_turned_form), (90, 208, fn_gate_form), (91, 215, fn_select_form), (92, 222, fn_table_bit), (93, 227, fn_table_over), (94, 232, fn_table_form), (95, 239, fn_are_opposite), (96, 246, fn_library_form), (97, 253, fn_simple_form), (98, 260, fn_law_box), (99, 267, fn_law_of), (100, 272, fn_law_value), (101, 277, fn_law_cell), (102, 282, fn_law_same), (103, 287, fn_law_rebuilt)]
noncomputable def methT : List (Nat × Nat × Fn) := [(106, 42, fn_m_new_net), (107, 47, fn_m_new_nets), (108, 54, fn_m_add_input), (109, 61, fn_m_add_output), (110, 69, fn_m_add_cell), (111, 77, fn_m_drive)]
/-- what the head must show of the written part -/
structure KF (K : Frag) : Prop where
  glob : ∀ p ∈ globT, RowG K p.1 p.2.1 p.2.2
  meth : ∀ p ∈ methT, RowM K netlistAt p.1 p.2.1 p.2.2
  init : RowM K netlistAt 105 35 fn_m_init
  law : RowG K 104 294 fn_law
  made : nsIn K mainGlobals (nm 112) = some (some (.ref netlistAt))
  attrs : ∀ a ∈ attrL, findIn K (.ref netlistAt) (nm a) = some none
  ga : findIn K (.ref netlistAt) "__getattribute__" = some (some (.builtin "object.__getattribute__"))
  gattr : findIn K (.ref netlistAt) "__getattr__" = some none
  sa : findIn K (.ref netlistAt) "__setattr__" = some (some (.builtin "object.__setattr__"))
  plain : plainOver K netlistAt = true
  dict : hasDictIn K netlistAt = true
  makes : makesIn K netlistAt = true
  keep : keepIn K (.ref netlistAt) = true
  blt : ∀ b : Bf, nsIn K mainGlobals b.name = some none
theorem mem_T {f : Nat} : ∀ {T : List (Nat × Nat × Fn)}, (T.map (·.1)).contains f = true → ∃ p ∈ T, p.1 = f := fun {T} h => by
  have := List.contains_iff_mem.mp h
  exact List.mem_map.mp this
theorem blt_val : ∀ b : Bf, bootBuiltins b.name = some b.val
  | .len => by kernel_rfl
  | .range => by kernel_rfl
  | .sum => by kernel_rfl
  | .tuple => by kernel_rfl
  | .list => by kernel_rfl
  | .max => by kernel_rfl
  | .dict => by kernel_rfl
theorem blt_ne : ∀ b : Bf, b.name ≠ "__name__"
  | .len => by decide +kernel
  | .range => by decide +kernel
  | .sum => by decide +kernel
  | .tuple => by decide +kernel
  | .list => by decide +kernel
  | .max => by decide +kernel
  | .dict => by decide +kernel
theorem prg {G : Gl} (k : KF G.K) (hC : G.C = netlistAt) (hb : ∀ x : Str, x ≠ "__name__" → G.mb x = bootBuiltins x) : Prg G FT where
  cls := by
    constructor <;> rw [hC]
    · exact k.ga
    · exact k.gattr
    · exact k.sa
    · exact k.plain
    · exact k.dict
    · exact k.makes
    · exact k.keep
    · exact fun a ha => k.attrs a (List.contains_iff_mem.mp ha)
  glob := fun f hf => by
    obtain ⟨⟨c, a, F⟩, hp, rfl⟩ := mem_T (T := globT) hf
    obtain ⟨h1, h2, h3⟩ := k.glob _ hp
    exact ⟨a, F, h1, mg_of G.kin G.g h2, h3.at_⟩
  meth := fun f hf => by
    obtain ⟨⟨c, a, F⟩, hp, rfl⟩ := mem_T (T := methT) hf
    obtain ⟨h1, h2, h3, h4⟩ := k.meth _ hp
    exact ⟨a, F, h1, by rw [hC]; exact h2, h3, h4.at_⟩
  init := ⟨_, _, k.init.1, by rw [hC]; exact k.init.2.1, k.init.2.2.1, k.init.2.2.2.at_⟩
  made := by rw [hC]; exact mg_of G.kin G.g k.made
  blt := fun b => ⟨mg_none_of G.kin G.g (k.blt b), by rw [hb _ (blt_ne b)]; exact blt_val b⟩
end Mine

namespace Mine
open PySem PySem.W PyProof.Rows

theorem law_run {G : Gl} (k : KF G.K) (hC : G.C = netlistAt) (hb : ∀ x : Str, x ≠ "__name__" → G.mb x = bootBuiltins x)
    (law_ok : ∀ ns : List Int, ns.length ≤ 63 → CN FT 12 104 [.frz ns] [] fun d _ => d = .bool true)
    {s : Shared} (hs : s.heap = G.h0) {fa a : Addr} {vs : List Value} {ns : List Int} (hfa : G.mg (nm 104) = some (.ref fa)) (hl : s.heap.IsList a vs.toArray) (hi : IntsAre vs ns) (hlen : ns.length ≤ 63) {R : Result → Shared → Prop}
    (hR : ∀ h' tk, (∀ b o, s.heap.get? b = some o → h'.get? b = some o) → R (.ok (.ret (.bool true))) { s with heap := h', toks := tk }) :
    codeAny (Mo G) callerA (.call (.ref fa) ⟨[.ref a], []⟩) R s := by
  have P := prg k hC hb
  have e := mg_of G.kin G.g (n := nm 104) k.law.2.1
  rw [hfa] at e
  cases e
  have l : LR G [] [] s.heap := ⟨rfl, List.nodup_nil, (fun _ h => nomatch h), (fun i a o e => by simp at e), fun b o e => by rw [hs]; exact e⟩
  refine semC P 12 104 [.frz ns] [] _ (law_ok ns hlen) _ fn_law rfl k.law.2.2.at_ callerA [] s [.ref a] R ⟨rfl, by decide +kernel, by decide +kernel⟩ l (.cons (.frz (by rw [← hs]; exact hl) hi) .nil) fun v d α' H' h' tk hq x l' r => ?_
  subst hq
  cases r
  exact hR h' tk fun b o e => x.keep b o e (.inl (by simp))

set_option maxHeartbeats 8000000 in
theorem walk (law_ok : ∀ ns : List Int, ns.length ≤ 63 → CN FT 12 104 [.frz ns] [] fun d _ => d = .bool true) (V : Program) (D : DefRec) (kwd : List (Str × PySem.Expr)) (K : Params → Frag) (YP : World → Heap → Prop)
    (h1 : ∀ w h, YP w h → (K w.params).In h) (h2 : D.name = nm 104) (h3 : ∀ P, KF (K P)) : WalkO V [] (XL V []) YP PySem.Challenge.rw_on0112_01.row.toRowW D kwd (fun f vs => PySem.call f vs) := by
  intro w s₀ s₁ mg mb G Y fa o pm cd doc dV kV ho hd' hcd hD hmg hg args vals as hpre hlay hrd hwl hlo
  have KX := h1 _ _ Y
  refine Ground.open G ?_
  intro T B D' TE TW
  rw [h2] at hmg
  wrow_args hpre hlay hrd hwl hlo
  refine enter_call ?_
  refine codeAny_mono ?_ (fun _ _ g => GoodW.toG g)
  refine law_run (G := ⟨_, w, s₁.heap, mg, mb, K w.params, netlistAt, T.g, T.b, T.nolimit, KX⟩) (h3 _) rfl T.builtins law_ok rfl hmg (by assumption) (by assumption) (by omega) fun h' tk hk => ?_
  refine ⟨.inl ⟨.bool true, .bool true, [], rfl, ?_, .bool _, ?_, ?_⟩, hk, rfl, hg⟩
  · exact raisesW_false (by wrow_none_raised)
  · wrow_post
  · exact fun _ => ⟨List.nodup_nil, fun _ h => nomatch h⟩
end Mine

namespace Mine
open PySem PySem.W PyProof.Rows

theorem CN_step {n f : Nat} {F : Fn} {ds : List V} {ρ : Rho} {H : Hp} {Q : PV} (hf : FT f = some F) (hb : bindP F ds = some ρ)
    (h : F.body.wp (CN FT n) ρ H fun fl _ H' => (match fl with
          | .ret d => Q d H'
          | .next => Q .none H'
          | .brk => False)) : CN FT (n + 1) f ds H Q := by
  simp only [CN, hf, hb]
  exact h

theorem forW_ind {bd : V → Rho → Option Rho} {body : Rho → Hp → PS → Prop} {st : Hp → Prop} {K : PS} (I : List V → Rho → Hp → Prop)
    (hnil : ∀ ρ H, I [] ρ H → st H ∧ K .next ρ H)
    (hcons : ∀ v vs ρ H, I (v :: vs) ρ H → st H ∧ ∃ ρ₁, bd v ρ = some ρ₁ ∧ ∀ K' : PS, (∀ ρ₂ H₂, I vs ρ₂ H₂ → K' .next ρ₂ H₂) → (∀ ρ₂ H₂, K .next ρ₂ H₂ → K' .brk ρ₂ H₂) → (∀ d ρ₂ H₂, K (.ret d) ρ₂ H₂ → K' (.ret d) ρ₂ H₂) → body ρ₁ H K') :
    ∀ (vs : List V) (ρ : Rho) (H : Hp), I vs ρ H → forW bd body st vs ρ H K
  | [], ρ, H, h => hnil ρ H h
  | v :: vs, ρ, H, h => by
    obtain ⟨h1, ρ₁, h2, h3⟩ := hcons v vs ρ H h
    refine ⟨h1, ?_⟩
    rw [h2]
    exact h3 _ (fun ρ₂ H₂ i => forW_ind I hnil hcons vs ρ₂ H₂ i) (fun _ _ h => h) fun _ _ _ h => h
theorem compW_ind {f : V → Hp → PV → Prop} {st : Hp → Prop} {K : List V → Hp → Prop} (I : List V → Hp → List V → Prop)
    (hnil : ∀ H acc, I [] H acc → st H ∧ K acc H)
    (hcons : ∀ v vs H acc, I (v :: vs) H acc → st H ∧ ∀ K' : PV, (∀ y H', I vs H' (acc ++ [y]) → K' y H') → f v H K') :
    ∀ (vs : List V) (H : Hp) (acc : List V), I vs H acc → compW f st vs H acc K
  | [], H, acc, h => hnil H acc h
  | v :: vs, H, acc, h => by
    obtain ⟨h1, h2⟩ := hcons v vs H acc h
    exact ⟨h1, h2 _ fun y H' i => compW_ind I hnil hcons vs H' _ i⟩
theorem cases4 {k : Int} (h0 : 0 ≤ k) (h1 : k ≤ 3) : k = 0 ∨ k = 1 ∨ k = 2 ∨ k = 3 := by omega

noncomputable def fullT (k : Int) : Int := 2 ^ (2 ^ k.toNat) - 1
/-- a loop as a fold; the turns are counted -/
theorem forW_fold {σ : Type} {bd : V → Rho → Option Rho} {body : Rho → Hp → PS → Prop} {st : Hp → Prop} {K : PS} (Inv : Nat → σ → Rho → Hp → Prop) (step : σ → V → σ) {vs : List V} {s₀ : σ} {ρ : Rho} {H : Hp}
    (hst : ∀ j s ρ H, Inv j s ρ H → st H)
    (hstep : ∀ j s v ρ H, j < vs.length → vs[j]? = some v → Inv j s ρ H → ∃ ρ₁, bd v ρ = some ρ₁ ∧ ∀ K' : PS, (∀ ρ₂ H₂, Inv (j + 1) (step s v) ρ₂ H₂ → K' .next ρ₂ H₂) → body ρ₁ H K')
    (h0 : Inv 0 s₀ ρ H) (hK : ∀ ρ' H', Inv vs.length (vs.foldl step s₀) ρ' H' → K .next ρ' H') : forW bd body st vs ρ H K :=
  forW_ind (fun us ρ H => ∃ j s, Inv j s ρ H ∧ us.foldl step s = vs.foldl step s₀ ∧ us = vs.drop j ∧ j ≤ vs.length)
    (fun ρ H ⟨j, s, h1, h2, h3, h4⟩ => by
      have hj : j = vs.length := by
        have := congrArg List.length h3
        simp at this; omega
      subst hj
      exact ⟨hst _ s ρ H h1, hK ρ H (by rw [← h2]; exact h1)⟩)
    (fun v us ρ H ⟨j, s, h1, h2, h3, h4⟩ => by
      have hj : j < vs.length := by
        have := congrArg List.length h3
        simp at this; omega
      rw [List.drop_eq_getElem_cons hj] at h3
      obtain ⟨e1, e2⟩ := List.cons.inj h3
      refine ⟨hst _ s ρ H h1, ?_⟩
      obtain ⟨ρ₁, e, h⟩ := hstep j s v ρ H hj (by rw [e1]; exact List.getElem?_eq_getElem hj) h1
      exact ⟨ρ₁, e, fun K' hn _ _ => h K' fun ρ₂ H₂ i => hn ρ₂ H₂ ⟨j + 1, _, i, h2, e2, hj⟩⟩)
    vs ρ H ⟨0, s₀, h0, rfl, rfl, Nat.zero_le _⟩
theorem compW_fold {f : V → Hp → PV → Prop} {st : Hp → Prop} {K : List V → Hp → Prop} (Inv : Nat → Hp → List V → Prop) {vs : List V} {H : Hp}
    (hst : ∀ j H acc, Inv j H acc → st H)
    (hstep : ∀ j v H acc, j < vs.length → vs[j]? = some v → Inv j H acc → ∀ K' : PV, (∀ y H', Inv (j + 1) H' (acc ++ [y]) → K' y H') → f v H K')
    (h0 : Inv 0 H []) (hK : ∀ H' acc, Inv vs.length H' acc → K acc H') : compW f st vs H [] K :=
  compW_ind (fun us H acc => ∃ j, Inv j H acc ∧ us = vs.drop j ∧ j ≤ vs.length)
    (fun H acc ⟨j, h1, h3, h4⟩ => by
      have hj : j = vs.length := by
        have := congrArg List.length h3
        simp at this; omega
      subst hj
      exact ⟨hst _ H acc h1, hK H acc h1⟩)
    (fun v us H acc ⟨j, h1, h3, h4⟩ => by
      have hj : j < vs.length := by
        have := congrArg List.length h3
        simp at this; omega
      rw [List.drop_eq_getElem_cons hj] at h3
      obtain ⟨e1, e2⟩ := List.cons.inj h3
      exact ⟨hst _ H acc h1, fun K' hn => hstep j v H acc hj (by rw [e1]; exact List.getElem?_eq_getElem hj) h1 K' fun y H' i => hn y H' ⟨j + 1, i, e2, hj⟩⟩)
    vs H [] ⟨0, h0, rfl, Nat.zero_le _⟩
/-- the ints below n, as a range gives them -/
noncomputable def rngV (n : Nat) : List V := (List.range n).map fun (k : Nat) => V.int (0 + (k : Int))
theorem rngV_len {n : Nat} : (rngV n).length = n := by simp [rngV]
theorem rngV_at {n j : Nat} {v : V} (h : (rngV n)[j]? = some v) : j < n ∧ v = .int j := by
  have hj : j < n := by have := (List.getElem?_eq_some_iff.mp h).1; rwa [rngV_len] at this
  simp [rngV, hj] at h
  exact ⟨hj, h.symm⟩

/-! what stays in the ledger -/
noncomputable def Keep (W : List Nat) (H H' : Hp) : Prop := H.length ≤ H'.length ∧ ∀ j o, j ∉ W → H[j]? = some o → H'[j]? = some o
theorem Keep.refl {W H} : Keep W H H := ⟨Nat.le_refl _, fun _ _ _ e => e⟩
theorem Keep.trans {W H H₁ H₂} (x : Keep W H H₁) (y : Keep W H₁ H₂) : Keep W H H₂ := ⟨Nat.le_trans x.1 y.1, fun j o h e => y.2 j o h (x.2 j o h e)⟩
theorem Keep.mono {W W' H H'} (x : Keep W H H') (h : ∀ j ∈ W, j ∈ W') : Keep W' H H' := ⟨x.1, fun j o hj e => x.2 j o (fun m => hj (h j m)) e⟩
theorem Keep.nil {W H H'} (x : Keep [] H H') : Keep W H H' := x.mono fun _ h => nomatch h
theorem Keep.push {W H} {o : O} : Keep W H (H ++ [o]) := ⟨by simp, fun j x _ e => by rw [List.getElem?_append_left (List.getElem?_eq_some_iff.mp e).1]; exact e⟩
theorem Keep.set {W H} {i : Nat} {o : O} (h : i ∈ W) : Keep W H (H.set i o) := ⟨by simp, fun j x hj e => by
  have : i ≠ j := fun q => hj (q ▸ h)
  rw [List.getElem?_set_ne this]; exact e⟩
/-- an object that is new beyond H may be written -/
theorem Keep.setNew {W H₀ H} {i : Nat} {o : O} (x : Keep W H₀ H) (h : H₀.length ≤ i) : Keep W H₀ (H.set i o) := ⟨by simpa using x.1, fun j y hj e => by
  have hl := (List.getElem?_eq_some_iff.mp e).1
  have : i ≠ j := by omega
  rw [List.getElem?_set_ne this]
  exact x.2 j y hj e⟩
theorem Keep.at {H H' : Hp} (x : Keep [] H H') {j : Nat} {o : O} (e : H[j]? = some o) : H'[j]? = some o := x.2 j o (by simp) e
theorem lt_of_get {H : Hp} {i : Nat} {o : O} (e : H[i]? = some o) : i < H.length := (List.getElem?_eq_some_iff.mp e).1
theorem get_last {H : Hp} {o : O} : (H ++ [o])[H.length]? = some o := by simp
theorem set_get {H : Hp} {i : Nat} {o o' : O} (e : H[i]? = some o) : (H.set i o')[i]? = some o' := by
  rw [List.getElem?_set_self (lt_of_get e)]

/-! single steps: each costs the proof some nodes alone -/
section
variable {H : Hp} {Q : PV} {K : Bool → Prop} {A B : Prop} {x y k : Int} {i j m n : Nat} {l : List V} {d e f g : V}
theorem w_look {z : Nat} {r : Rho} {v : V} {P : V → Prop} (q : look z r = some v) (h : P v) : onSome (look z r) P := by rw [q]; exact h
theorem w_some {o : Option V} {v : V} {P : V → Prop} (q : o = some v) (h : P v) : onSome o P := by rw [q]; exact h
theorem w_ns {L : List (Nat × V)} {P : List (Nat × V) → Prop} (q : H[i]? = some (.ns L)) (h : P L) : onNs H i P := by unfold onNs; rw [q]; exact h
theorem w_dct {L : List (Int × V)} {P : List (Int × V) → Prop} (q : H[i]? = some (.dict L)) (h : P L) : onDict H i P := by unfold onDict; rw [q]; exact h
theorem w_lst {P : List V → Prop} (q : H[i]? = some (.list l)) (h : P l) : onList H i P := by unfold onList; rw [q]; exact h
theorem w_sd {L : List (Nat × V)} {P : List (Nat × V) → Prop} (q : H[i]? = some (.sdict L)) (h : P L) : onSdict H i P := by unfold onSdict; rw [q]; exact h
theorem w_t (h : A) : (true = true → A) ∧ (true = false → B) := ⟨fun _ => h, fun q => nomatch q⟩
theorem w_f (h : B) : (false = true → A) ∧ (false = false → B) := ⟨(fun q => nomatch q), fun _ => h⟩
theorem w_dec {p : Prop} [Decidable p] (h1 : p → A) (h2 : ¬ p → B) : (decide p = true → A) ∧ (decide p = false → B) := ⟨fun q => h1 (of_decide_eq_true q), fun q => h2 (of_decide_eq_false q)⟩
theorem w_nd {p : Prop} [Decidable p] (h1 : p → B) (h2 : ¬ p → A) : ((!decide p) = true → A) ∧ ((!decide p) = false → B) :=
  ⟨fun q => h2 (of_decide_eq_false (by simpa using q)), fun q => h1 (of_decide_eq_true (by simpa using q))⟩
theorem w_bool {b : Bool} (h1 : b = true → A) (h2 : b = false → B) : (b = true → A) ∧ (b = false → B) := ⟨h1, h2⟩
theorem c_eqi (h : K (decide (x = y))) : cmpW .Eq (.int x) (.int y) H K := .inl h
theorem c_nei (h : K (!decide (x = y))) : cmpW .NotEq (.int x) (.int y) H K := .inl h
theorem c_lt (h : K (decide (x < y))) : cmpW .Lt (.int x) (.int y) H K := h
theorem c_gt (h : K (decide (y < x))) : cmpW .Gt (.int x) (.int y) H K := h
theorem c_ge (h : K (decide (y ≤ x))) : cmpW .GtE (.int x) (.int y) H K := h
theorem c_eqs (h : K (decide (i = j))) : cmpW .Eq (.str i) (.str j) H K := .inr (.inl h)
theorem c_nes (h : K (!decide (i = j))) : cmpW .NotEq (.str i) (.str j) H K := .inr (.inl h)
theorem c_eqs_t (h : K true) : cmpW .Eq (.str i) (.str i) H K := c_eqs (by rw [decide_eq_true rfl]; exact h)
theorem c_eqs_f (q : i ≠ j) (h : K false) : cmpW .Eq (.str i) (.str j) H K := c_eqs (by rw [decide_eq_false q]; exact h)
theorem c_eqi_t (q : x = y) (h : K true) : cmpW .Eq (.int x) (.int y) H K := c_eqi (by rw [decide_eq_true q]; exact h)
theorem c_eqi_f (q : x ≠ y) (h : K false) : cmpW .Eq (.int x) (.int y) H K := c_eqi (by rw [decide_eq_false q]; exact h)
theorem c_inD {L : List (Int × V)} (q : H[i]? = some (.dict L)) (h : K (lookI x L).isSome) : cmpW .In (.int x) (.ref i) H K := .inr (.inr (w_dct q h))
theorem c_niD {L : List (Int × V)} (q : H[i]? = some (.dict L)) (h : K (!(lookI x L).isSome)) : cmpW .NotIn (.int x) (.ref i) H K := .inr (w_dct q h)
theorem c_niL (q : H[i]? = some (.list l)) (q' : allInts l) (h : K (!l.any (isInt x))) : cmpW .NotIn (.int x) (.ref i) H K := .inl (w_lst q ⟨q', h⟩)
theorem t_b {b : Bool} (h : K b) : truthW (.bool b) K := h
theorem t_i (h : K (!decide (x = 0))) : truthW (.int x) K := h
theorem b_add (h : Q (.int (x + y)) H) : binW .Add (.int x) (.int y) H Q := .inl h
theorem b_sub (h : Q (.int (x - y)) H) : binW .Sub (.int x) (.int y) H Q := h
theorem b_mul (q : x.natAbs < 2 ^ 63 ∨ y.natAbs < 2 ^ 63) (h : Q (.int (x * y)) H) : binW .Mult (.int x) (.int y) H Q := ⟨q, h⟩
theorem b_div (q : 0 < y) (q' : y < 2 ^ 62) (h : Q (.int (x / y)) H) : binW .FloorDiv (.int x) (.int y) H Q := ⟨q, q', h⟩
theorem b_mod (q : 0 < y) (h : Q (.int (x % y)) H) : binW .Mod (.int x) (.int y) H Q := ⟨q, h⟩
theorem b_pow (q : 0 ≤ y) (q' : y ≤ 1000) (h : Q (.int (2 ^ y.toNat)) H) : binW .Pow (.int 2) (.int y) H Q := ⟨rfl, q, q', h⟩
theorem b_shl (q : 0 ≤ y) (q' : y ≤ 1000) (q'' : x.natAbs < 2 ^ 64) (h : Q (.int (x * 2 ^ y.toNat)) H) : binW .LShift (.int x) (.int y) H Q := ⟨q, q', q'', h⟩
theorem b_shr (q : 0 ≤ y) (h : Q (.int (x / 2 ^ y.toNat)) H) : binW .RShift (.int x) (.int y) H Q := ⟨q, h⟩
theorem b_and (h : Q (.int (Builtin.bitAnd x y)) H) : binW .BitAnd (.int x) (.int y) H Q := h
theorem b_or (h : Q (.int (Builtin.bitOr x y)) H) : binW .BitOr (.int x) (.int y) H Q := h
theorem b_xor (h : Q (.int (Builtin.bitXor x y)) H) : binW .BitXor (.int x) (.int y) H Q := h
theorem b_cat {m : List V} (e1 : H[i]? = some (.list l)) (e2 : H[j]? = some (.list m)) (q : l.length + m.length ≤ 1000) (h : Q (.ref H.length) (H ++ [.list (l ++ m)])) : binW .Add (.ref i) (.ref j) H Q :=
  .inr (w_lst e1 (w_lst (P := fun m => l.length + m.length ≤ 1000 ∧ Q (.ref H.length) (H ++ [.list (l ++ m)])) e2 ⟨q, h⟩))
theorem a_add (h : Q (.int (x + y)) H) : augW .Add (.int x) (.int y) H Q := h
theorem a_or (h : Q (.int (Builtin.bitOr x y)) H) : augW .BitOr (.int x) (.int y) H Q := h
theorem s_t0 (h : Q d H) : subW (.tup (d :: l)) (.int 0) H Q := .inl ⟨by decide, by decide, h⟩
theorem s_t1 (h : Q e H) : subW (.tup (d :: e :: l)) (.int 1) H Q := .inl ⟨by decide, by decide, h⟩
theorem s_t2 (h : Q f H) : subW (.tup (d :: e :: f :: l)) (.int 2) H Q := .inl ⟨by decide, by decide, h⟩
theorem s_t3 (h : Q g H) : subW (.tup (d :: e :: f :: g :: l)) (.int 3) H Q := .inl ⟨by decide, by decide, h⟩
theorem s_l (q : H[i]? = some (.list l)) (q1 : -(2 ^ 62) < k) (q2 : k < 2 ^ 62) (q3 : nth l k = some d) (h : Q d H) : subW (.ref i) (.int k) H Q :=
  .inr (.inl (.inl (w_lst q ⟨q1, q2, w_some q3 h⟩)))
theorem s_d {L : List (Int × V)} (q : H[i]? = some (.dict L)) (q3 : lookI k L = some d) (h : Q d H) : subW (.ref i) (.int k) H Q :=
  .inr (.inl (.inr (w_dct (P := fun l => onSome (lookI k l) fun d => Q d H) q (w_some q3 h))))
theorem s_s {L : List (Nat × V)} (q : H[i]? = some (.sdict L)) (q3 : look j L = some d) (h : Q d H) : subW (.ref i) (.str j) H Q :=
  .inr (.inr (w_sd (P := fun l => onSome (look j l) fun d => Q d H) q (w_some q3 h)))
theorem f_lenT (q : l.length ≤ 1000000) (h : Q (.int l.length) H) : bW .len [.tup l] H Q := .inl (.inl ⟨q, h⟩)
theorem f_lenL (q : H[i]? = some (.list l)) (q' : l.length ≤ 1000000) (h : Q (.int l.length) H) : bW .len [.ref i] H Q := .inl (.inr (w_lst q ⟨q', h⟩))
theorem f_rng (q : 0 ≤ x) (q' : x ≤ 1000000) (h : Q (.rng 0 x.toNat) H) : bW .range [.int x] H Q := .inl ⟨q, q', h⟩
theorem f_sum {ns : List Int} (q : H[i]? = some (.list l)) (q' : asInts l = some ns) (q2 : l.length ≤ 1000000) (h : Q (.int ns.sum) H) : bW .sum [.ref i] H Q := .inl (w_lst q ⟨ns, q', q2, h⟩)
theorem f_tupL (q : H[i]? = some (.list l)) (q' : l.length ≤ 10000) (h : Q (.tup l) H) : bW .tuple [.ref i] H Q := .inl (.inr (w_lst q ⟨q', h⟩))
theorem f_tupT (h : Q (.tup l) H) : bW .tuple [.tup l] H Q := .inl (.inl h)
theorem f_lst (q : H[i]? = some (.list l)) (q' : l.length ≤ 10000) (h : Q (.ref H.length) (H ++ [.list l])) : bW .list [.ref i] H Q := .inl (w_lst q ⟨q', h⟩)
theorem f_dict {L : List (Int × V)} (q : H[i]? = some (.dict L)) (q' : L.length ≤ 1000) (h : Q (.ref H.length) (H ++ [.dict L])) : bW .dict [.ref i] H Q := .inl (w_dct q ⟨q', h⟩)
theorem f_max (h : Q (.int (if y > x then y else x)) H) : bW .max [.int x, .int y] H Q := .inr h
theorem m_app (q : H[i]? = some (.list l)) (q' : l.length ≤ 1000000) (h : Q .none (H.set i (.list (l ++ [d])))) : bmW .append (.ref i) [d] H Q := w_lst q ⟨q', h⟩
theorem m_pop (q : H[i]? = some (.list l)) (q' : l.length ≤ 1000000) (q3 : l.getLast? = some d) (h : Q d (H.set i (.list l.dropLast))) : bmW .pop (.ref i) [] H Q :=
  w_lst (P := fun l => l.length ≤ 1000000 ∧ onSome l.getLast? fun d => Q d (H.set i (.list l.dropLast))) q ⟨q', w_some q3 h⟩
theorem m_idx {n : Nat} (q : H[i]? = some (.list l)) (q' : l.length ≤ 1000000) (q2 : allInts l) (q3 : idxOf x l = some n) (h : Q (.int n) H) : bmW .index (.ref i) [.int x] H Q := w_lst q ⟨q', q2, n, q3, h⟩
theorem m_rev (q : H[i]? = some (.list l)) (q' : l.length ≤ 1000000) (h : Q .none (H.set i (.list l.reverse))) : bmW .reverse (.ref i) [] H Q := w_lst q ⟨q', h⟩
theorem m_get {L : List (Int × V)} (q : H[i]? = some (.dict L)) (h : Q ((lookI k L).getD d) H) : bmW .get (.ref i) [.int k, d] H Q := w_dct (P := fun l => Q ((lookI k l).getD d) H) q h
theorem h_app (q : H[i]? = some (.list l)) : bmHas .append (.ref i) H := w_lst q trivial
theorem h_pop (q : H[i]? = some (.list l)) : bmHas .pop (.ref i) H := w_lst q trivial
theorem h_idx (q : H[i]? = some (.list l)) : bmHas .index (.ref i) H := w_lst q trivial
theorem h_rev (q : H[i]? = some (.list l)) : bmHas .reverse (.ref i) H := w_lst q trivial
theorem h_get {L : List (Int × V)} (q : H[i]? = some (.dict L)) : bmHas .get (.ref i) H := w_dct q trivial
theorem i_ref {P : List V → (Hp → Prop) → Prop} (q : H[i]? = some (.list l)) (h : P l fun H' : Hp => H'[i]? = some (.list l)) : (match iters (.ref i) H with | some (vs, st) => P vs st | none => False) := by
  have e : iters (.ref i) H = some (l, fun H' : Hp => H'[i]? = some (.list l)) := by
    show (match H[i]? with | some (O.list l) => some (l, fun H' : Hp => H'[i]? = some (O.list l)) | _ => none) = _
    rw [q]
  rw [e]; exact h
end
theorem n1 {x a : Nat} (h : x ≠ a) : x ∉ [a] := by simpa using h
theorem n2 {x a c : Nat} (h : x ≠ a) (h' : x ≠ c) : x ∉ [a, c] := by simpa using ⟨h, h'⟩
theorem n3 {x a c d : Nat} (h : x ≠ a) (h' : x ≠ c) (h'' : x ≠ d) : x ∉ [a, c, d] := by simpa using ⟨h, h', h''⟩
end Mine

namespace Mine
open PySem PySem.W PyProof.Rows

theorem bitAnd_one {x : Int} (h : 0 ≤ x) : Builtin.bitAnd x 1 = x % 2 := by
  unfold Builtin.bitAnd
  rw [decide_eq_true h]
  show ((x.toNat &&& 1 : Nat) : Int) = x % 2
  rw [Nat.and_one_is_mod]
  omega
theorem lc {a x : Nat} {ρ : Rho} {v d : V} (q : (a == x) = false) (e : look x ρ = some d) : look x ((a, v) :: ρ) = some d := by rw [look_c, q]; exact e
theorem sh2 {i : Int} (i0 : 0 ≤ i) (i1 : i ≤ 3) : 0 ≤ (1 : Int) * 2 ^ i.toNat ∧ (1 : Int) * 2 ^ i.toNat ≤ 1000 ∧ (1 : Int) * 2 ^ ((1 : Int) * 2 ^ i.toNat).toNat = 2 ^ (2 ^ i.toNat) ∧ ((1 : Int) * 2 ^ i.toNat).toNat = 2 ^ i.toNat ∧ 0 < (2 : Int) ^ (2 ^ i.toNat) ∧ (2 : Int) ^ (2 ^ i.toNat) ≤ 256 := by
  rcases cases4 i0 i1 with rfl | rfl | rfl | rfl <;> decide
theorem full_table_ok {n : Nat} {k : Int} {H : Hp} {Q : PV} (h0 : 0 ≤ k) (h1 : k ≤ 3) (h : Q (.int (fullT k)) H) : CN FT (n + 1) 76 [.int k] H Q := by
  refine CN_step rfl rfl ?_
  dsimp only [fn_full_table, wZ_nil, wZ_cons, wS_asg, wS_asgC, wS_asgT, wS_asgA, wS_asgI, wS_aug, wS_augA, wS_for, wS_forT, wS_while, wS_if, wS_ret, wS_expr, wS_brk, wE_cint, wE_cneg, wE_cstr, wE_cbool, wE_cnone, wE_var, wE_bin, wE_cmp, wE_or2, wE_ite, wE_tup, wE_lst, wE_dctI, wE_dctS, wE_sub, wE_slTo, wE_slFrom, wE_attr, wE_call, wE_new, wE_meth, wE_bcall, wE_bmeth, wE_comp, wE_compIf, wE_comp2, wL_nil, wL_cons, wT_not, wT_tand, wT_tor, wT_cmp, wT_var, wT_bin, wT_sub, wT_call, wA_nil, wA_cons, wO_nil, wO_cons, onSome, onInt, onRef, onInst, List.zip_cons_cons, List.zip_nil_right, look_c, Nat.reduceBEq, cond_true, cond_false]
  obtain ⟨s1, s2, s3, _, _, _⟩ := sh2 h0 h1
  refine b_shl h0 (by omega) (by decide) (b_shl s1 s2 (by decide) ?_)
  rw [s3]
  exact b_sub h
noncomputable def varT (i k : Int) : Int := Builtin.bitXor (fullT k) (fullT k / (2 ^ (2 ^ i.toNat) + 1))
noncomputable def cofA (t i b k : Int) : Int :=
  if b = 1 then Builtin.bitOr (Builtin.bitAnd t (varT i k)) (Builtin.bitAnd t (varT i k) / 2 ^ (2 ^ i.toNat))
  else Builtin.bitOr (Builtin.bitXor t (Builtin.bitAnd t (varT i k))) (Builtin.bitXor t (Builtin.bitAnd t (varT i k)) * 2 ^ (2 ^ i.toNat))
theorem low_small : ∀ t ∈ List.range 256, ∀ i ∈ List.range 3, ∀ k ∈ List.range 4, (Builtin.bitXor (t : Int) (Builtin.bitAnd t (varT i k))).natAbs < 2 ^ 64 := by decide +kernel
theorem cases3 {k : Int} (h0 : 0 ≤ k) (h1 : k ≤ 2) : k = 0 ∨ k = 1 ∨ k = 2 := by omega

theorem var_table_ok {n : Nat} {i k : Int} {H : Hp} {Q : PV} (i0 : 0 ≤ i) (i1 : i ≤ 2) (h0 : 0 ≤ k) (h1 : k ≤ 3) (h : Q (.int (varT i k)) H) : CN FT (n + 2) 77 [.int i, .int k] H Q := by
  refine CN_step rfl rfl ?_
  dsimp only [fn_var_table, wZ_nil, wZ_cons, wS_asg, wS_asgC, wS_asgT, wS_asgA, wS_asgI, wS_aug, wS_augA, wS_for, wS_forT, wS_while, wS_if, wS_ret, wS_expr, wS_brk, wE_cint, wE_cneg, wE_cstr, wE_cbool, wE_cnone, wE_var, wE_bin, wE_cmp, wE_or2, wE_ite, wE_tup, wE_lst, wE_dctI, wE_dctS, wE_sub, wE_slTo, wE_slFrom, wE_attr, wE_call, wE_new, wE_meth, wE_bcall, wE_bmeth, wE_comp, wE_compIf, wE_comp2, wL_nil, wL_cons, wT_not, wT_tand, wT_tor, wT_cmp, wT_var, wT_bin, wT_sub, wT_call, wA_nil, wA_cons, wO_nil, wO_cons, onSome, onInt, onRef, onInst, List.zip_cons_cons, List.zip_nil_right, look_c, Nat.reduceBEq, cond_true, cond_false]
  obtain ⟨s1, s2, s3, _, s4, s5⟩ := sh2 i0 (by omega)
  refine full_table_ok h0 h1 (b_shl i0 (by omega) (by decide) (b_shl s1 s2 (by decide) ?_))
  rw [s3]
  exact b_add (b_div (by omega) (by omega) (b_xor h))
theorem cofactor_ok {n : Nat} {t i b k : Int} {H : Hp} {Q : PV} (t0 : 0 ≤ t) (t1 : t < 256) (i0 : 0 ≤ i) (i1 : i ≤ 2) (h0 : 0 ≤ k) (h1 : k ≤ 3) (h : Q (.int (cofA t i b k)) H) : CN FT (n + 3) 78 [.int t, .int i, .int b, .int k] H Q := by
  refine CN_step rfl rfl ?_
  dsimp only [fn_cofactor, wZ_nil, wZ_cons, wS_asg, wS_asgC, wS_asgT, wS_asgA, wS_asgI, wS_aug, wS_augA, wS_for, wS_forT, wS_while, wS_if, wS_ret, wS_expr, wS_brk, wE_cint, wE_cneg, wE_cstr, wE_cbool, wE_cnone, wE_var, wE_bin, wE_cmp, wE_or2, wE_ite, wE_tup, wE_lst, wE_dctI, wE_dctS, wE_sub, wE_slTo, wE_slFrom, wE_attr, wE_call, wE_new, wE_meth, wE_bcall, wE_bmeth, wE_comp, wE_compIf, wE_comp2, wL_nil, wL_cons, wT_not, wT_tand, wT_tor, wT_cmp, wT_var, wT_bin, wT_sub, wT_call, wA_nil, wA_cons, wO_nil, wO_cons, onSome, onInt, onRef, onInst, List.zip_cons_cons, List.zip_nil_right, look_c, Nat.reduceBEq, cond_true, cond_false]
  have hl := low_small t.toNat (List.mem_range.mpr (by omega)) i.toNat (List.mem_range.mpr (by omega)) k.toNat (List.mem_range.mpr (by omega))
  rw [Int.toNat_of_nonneg t0, Int.toNat_of_nonneg i0, Int.toNat_of_nonneg h0] at hl
  obtain ⟨s1, s2, _, s3, _, _⟩ := sh2 i0 (by omega)
  unfold cofA at h
  refine var_table_ok i0 i1 h0 h1 (b_and (c_eqi (w_dec (fun q => ?_) fun q => ?_)))
  · rw [if_pos q] at h
    refine b_shl i0 (by omega) (by decide) (b_shr s1 ?_)
    rw [s3]
    exact b_or h
  · rw [if_neg q] at h
    refine b_xor (b_shl i0 (by omega) (by decide) (b_shl s1 s2 hl ?_))
    rw [s3]
    exact b_or h
noncomputable def depA (t i k : Int) : Bool := !decide (cofA t i 0 k = cofA t i 1 k)
theorem depends_ok {n : Nat} {t i k : Int} {H : Hp} {Q : PV} (t0 : 0 ≤ t) (t1 : t < 256) (i0 : 0 ≤ i) (i1 : i ≤ 2) (h0 : 0 ≤ k) (h1 : k ≤ 3) (h : Q (.bool (depA t i k)) H) : CN FT (n + 4) 79 [.int t, .int i, .int k] H Q := by
  refine CN_step rfl rfl ?_
  dsimp only [fn_depends, wZ_nil, wZ_cons, wS_asg, wS_asgC, wS_asgT, wS_asgA, wS_asgI, wS_aug, wS_augA, wS_for, wS_forT, wS_while, wS_if, wS_ret, wS_expr, wS_brk, wE_cint, wE_cneg, wE_cstr, wE_cbool, wE_cnone, wE_var, wE_bin, wE_cmp, wE_or2, wE_ite, wE_tup, wE_lst, wE_dctI, wE_dctS, wE_sub, wE_slTo, wE_slFrom, wE_attr, wE_call, wE_new, wE_meth, wE_bcall, wE_bmeth, wE_comp, wE_compIf, wE_comp2, wL_nil, wL_cons, wT_not, wT_tand, wT_tor, wT_cmp, wT_var, wT_bin, wT_sub, wT_call, wA_nil, wA_cons, wO_nil, wO_cons, onSome, onInt, onRef, onInst, List.zip_cons_cons, List.zip_nil_right, look_c, Nat.reduceBEq, cond_true, cond_false]
  exact cofactor_ok t0 t1 i0 i1 h0 h1 (cofactor_ok t0 t1 i0 i1 h0 h1 (c_nei h))

noncomputable def suppStep (t k : Int) (l : List Int) : V → List Int
  | .int i => if depA t i k then l ++ [i] else l
  | _ => l
noncomputable def supp (t k : Int) : List Int := (rngV k.toNat).foldl (suppStep t k) []
theorem supp_facts : ∀ k ∈ List.range 4, ∀ t ∈ List.range 256, (supp t k).length ≤ k ∧ ∀ x ∈ supp t k, 0 ≤ x ∧ x < k := by decide +kernel

theorem support_ok {n : Nat} {t k : Int} {H : Hp} {Q : PV} (t0 : 0 ≤ t) (t1 : t < 256) (h0 : 0 ≤ k) (h1 : k ≤ 3)
    (h : ∀ H' r, Keep [] H H' → H.length ≤ r → H'[r]? = some (.list ((supp t k).map V.int)) → Q (.ref r) H') : CN FT (n + 5) 80 [.int t, .int k] H Q := by
  refine CN_step rfl rfl ?_
  dsimp only [fn_support, wZ_nil, wZ_cons, wS_asg, wS_asgC, wS_asgT, wS_asgA, wS_asgI, wS_aug, wS_augA, wS_for, wS_forT, wS_while, wS_if, wS_ret, wS_expr, wS_brk, wE_cint, wE_cneg, wE_cstr, wE_cbool, wE_cnone, wE_var, wE_bin, wE_cmp, wE_or2, wE_ite, wE_tup, wE_lst, wE_dctI, wE_dctS, wE_sub, wE_slTo, wE_slFrom, wE_attr, wE_call, wE_new, wE_meth, wE_bcall, wE_bmeth, wE_comp, wE_compIf, wE_comp2, wL_nil, wL_cons, wT_not, wT_tand, wT_tor, wT_cmp, wT_var, wT_bin, wT_sub, wT_call, wA_nil, wA_cons, wO_nil, wO_cons, onSome, onInt, onRef, onInst, List.zip_cons_cons, List.zip_nil_right, look_c, Nat.reduceBEq, cond_true, cond_false]
  refine f_rng h0 (by omega) ?_
  refine forW_fold (σ := List Int) (vs := rngV k.toNat) (step := suppStep t k) (s₀ := [])
    (fun j l ρ H' => look 20 ρ = some (.int t) ∧ look 15 ρ = some (.int k) ∧ look 24 ρ = some (.ref H.length) ∧ H' = H ++ [.list (l.map V.int)] ∧ l.length ≤ j) ?_ ?_ ?_ ?_
  · exact fun _ _ _ _ _ => trivial
  · rintro j l v ρ H' _ hv ⟨e1, e2, e3, rfl, hl⟩
    obtain ⟨hj, rfl⟩ := rngV_at hv
    refine ⟨_, rfl, fun K' hK => ?_⟩
    have e1' : look 20 ((13, V.int j) :: ρ) = some (.int t) := by rw [look_cons, if_neg (by decide)]; exact e1
    have e2' : look 15 ((13, V.int j) :: ρ) = some (.int k) := by rw [look_cons, if_neg (by decide)]; exact e2
    have e3' : look 24 ((13, V.int j) :: ρ) = some (.ref H.length) := by rw [look_cons, if_neg (by decide)]; exact e3
    dsimp only [wZ_nil, wZ_cons, wS_asg, wS_asgC, wS_asgT, wS_asgA, wS_asgI, wS_aug, wS_augA, wS_for, wS_forT, wS_while, wS_if, wS_ret, wS_expr, wS_brk, wE_cint, wE_cneg, wE_cstr, wE_cbool, wE_cnone, wE_var, wE_bin, wE_cmp, wE_or2, wE_ite, wE_tup, wE_lst, wE_dctI, wE_dctS, wE_sub, wE_slTo, wE_slFrom, wE_attr, wE_call, wE_new, wE_meth, wE_bcall, wE_bmeth, wE_comp, wE_compIf, wE_comp2, wL_nil, wL_cons, wT_not, wT_tand, wT_tor, wT_cmp, wT_var, wT_bin, wT_sub, wT_call, wA_nil, wA_cons, wO_nil, wO_cons, onSome, onInt, onRef, onInst, List.zip_cons_cons, List.zip_nil_right, look_c, Nat.reduceBEq, cond_true, cond_false]
    refine w_look e1 (w_look e2 (depends_ok t0 t1 (by omega) (by omega) h0 h1 (t_b (w_bool (fun hd => ?_) fun hd => ?_))))
    · refine w_look e3 ⟨h_app get_last, m_app get_last (by rw [List.length_map]; omega) ⟨rfl, hK _ _ ⟨e1', e2', e3', ?_, ?_⟩⟩⟩
      · rw [List.set_append_right _ _ (Nat.le_refl _), Nat.sub_self]
        show H ++ [O.list (l.map V.int ++ [.int j])] = H ++ [O.list ((if depA t j k then l ++ [(j : Int)] else l).map V.int)]
        rw [if_pos hd, List.map_append]; rfl
      · show (if depA t j k then l ++ [(j : Int)] else l).length ≤ _
        rw [if_pos hd, List.length_append]; exact Nat.succ_le_succ hl
    · have hs : suppStep t k l (.int j) = l := if_neg (by rw [hd]; decide)
      rw [hs] at hK
      exact hK _ _ ⟨e1', e2', e3', rfl, Nat.le_succ_of_le hl⟩
  · exact ⟨rfl, rfl, rfl, rfl, Nat.le_refl _⟩
  · rintro ρ' H' ⟨_, _, e, rfl, _⟩
    exact w_look e (h _ _ Keep.push (Nat.le_refl _) get_last)
end Mine

namespace Mine
open PySem PySem.W PyProof.Rows

noncomputable def spreadStep (m : Int) (ps : List Int) (row : Int) : V → Int
  | .int j => Builtin.bitOr row ((m / 2 ^ j.toNat % 2) * 2 ^ (ps.getD j.toNat 0).toNat)
  | _ => row
noncomputable def spreadF (m : Int) (ps : List Int) : Int := (rngV ps.length).foldl (spreadStep m ps) 0
theorem int_at {ps : List Int} {j : Nat} (h : j < ps.length) : (ps.map V.int)[j]? = some (.int (ps.getD j 0)) := by
  simp [h]
theorem nth_at {ps : List Int} {j : Nat} (h : j < ps.length) : nth (ps.map V.int) (j : Int) = some (.int (ps.getD j 0)) := by
  unfold nth
  rw [if_pos (by omega), Int.toNat_natCast]
  exact int_at h
theorem div_mod_pos (m : Int) (j : Nat) (h : 0 ≤ m) : 0 ≤ m / 2 ^ j ∧ 0 ≤ m / 2 ^ j % 2 ∧ m / 2 ^ j % 2 ≤ 1 := by
  have h1 : 0 ≤ m / 2 ^ j := Int.ediv_nonneg h (Int.le_of_lt (Int.pow_pos (by decide)))
  omega
theorem spread_ok {n : Nat} {m : Int} {i : Nat} {ps : List Int} {H : Hp} {Q : PV} (hm : 0 ≤ m) (hi : H[i]? = some (.list (ps.map V.int))) (hlen : ps.length ≤ 100) (hps : ∀ x ∈ ps, 0 ≤ x ∧ x ≤ 100)
    (h : Q (.int (spreadF m ps)) H) : CN FT (n + 1) 81 [.int m, .ref i] H Q := by
  refine CN_step rfl rfl ?_
  dsimp only [fn_spread, wZ_nil, wZ_cons, wS_asg, wS_asgC, wS_asgT, wS_asgA, wS_asgI, wS_aug, wS_augA, wS_for, wS_forT, wS_while, wS_if, wS_ret, wS_expr, wS_brk, wE_cint, wE_cneg, wE_cstr, wE_cbool, wE_cnone, wE_var, wE_bin, wE_cmp, wE_or2, wE_ite, wE_tup, wE_lst, wE_dctI, wE_dctS, wE_sub, wE_slTo, wE_slFrom, wE_attr, wE_call, wE_new, wE_meth, wE_bcall, wE_bmeth, wE_comp, wE_compIf, wE_comp2, wL_nil, wL_cons, wT_not, wT_tand, wT_tor, wT_cmp, wT_var, wT_bin, wT_sub, wT_call, wA_nil, wA_cons, wO_nil, wO_cons, onSome, onInt, onRef, onInst, List.zip_cons_cons, List.zip_nil_right, look_c, Nat.reduceBEq, cond_true, cond_false]
  refine f_lenL hi (by rw [List.length_map]; omega) (f_rng (by omega) (by rw [List.length_map]; omega) ?_)
  rw [List.length_map, Int.toNat_natCast]
  refine forW_fold (σ := Int) (vs := rngV ps.length) (step := spreadStep m ps) (s₀ := 0)
    (fun j r ρ H' => look 12 ρ = some (.int m) ∧ look 25 ρ = some (.ref i) ∧ look 17 ρ = some (.int r) ∧ H' = H) ?_ ?_ ?_ ?_
  · exact fun _ _ _ _ _ => trivial
  · rintro j l v ρ H' _ hv ⟨e1, e2, e3, rfl⟩
    obtain ⟨hj, rfl⟩ := rngV_at hv
    refine ⟨_, rfl, fun K' hK => ?_⟩
    have hx := hps _ (List.mem_of_getElem? (List.getElem?_eq_getElem hj))
    have hd := div_mod_pos m j hm
    have hg : ps.getD j 0 = ps[j] := by rw [List.getD_eq_getElem?_getD, List.getElem?_eq_getElem hj]; rfl
    dsimp only [wZ_nil, wZ_cons, wS_asg, wS_asgC, wS_asgT, wS_asgA, wS_asgI, wS_aug, wS_augA, wS_for, wS_forT, wS_while, wS_if, wS_ret, wS_expr, wS_brk, wE_cint, wE_cneg, wE_cstr, wE_cbool, wE_cnone, wE_var, wE_bin, wE_cmp, wE_or2, wE_ite, wE_tup, wE_lst, wE_dctI, wE_dctS, wE_sub, wE_slTo, wE_slFrom, wE_attr, wE_call, wE_new, wE_meth, wE_bcall, wE_bmeth, wE_comp, wE_compIf, wE_comp2, wL_nil, wL_cons, wT_not, wT_tand, wT_tor, wT_cmp, wT_var, wT_bin, wT_sub, wT_call, wA_nil, wA_cons, wO_nil, wO_cons, onSome, onInt, onRef, onInst, List.zip_cons_cons, List.zip_nil_right, look_c, Nat.reduceBEq, cond_true, cond_false]
    refine w_look e3 (w_look e1 (b_shr (by omega) (b_and (w_look e2 (s_l hi (by omega) (by omega) (nth_at hj) ?_)))))
    rw [Int.toNat_natCast, bitAnd_one hd.1, hg]
    refine b_shl hx.1 (by omega) (by omega) (a_or (hK _ _ ⟨lc rfl (lc rfl e1), lc rfl (lc rfl e2), ?_, rfl⟩))
    rw [← hg]; rfl
  · exact ⟨rfl, rfl, rfl, rfl⟩
  · rintro ρ' H' ⟨_, _, e, rfl⟩
    exact w_look e h

noncomputable def shStep (t : Int) (ps : List Int) (r : Int) : V → Int
  | .int m => Builtin.bitOr r ((t / 2 ^ (spreadF m ps).toNat % 2) * 2 ^ m.toNat)
  | _ => r
noncomputable def shrA (t k : Int) : Int := (rngV (2 ^ (supp t k).length)).foldl (shStep t (supp t k)) 0
theorem supp_mem : ∀ k ∈ List.range 4, ∀ t ∈ List.range 256, supp t k ∈ ([[], [0], [1], [2], [0, 1], [0, 2], [1, 2], [0, 1, 2]] : List (List Int)) := by decide +kernel
theorem spread8 : ∀ m ∈ List.range 8, ∀ s ∈ ([[], [0], [1], [2], [0, 1], [0, 2], [1, 2], [0, 1, 2]] : List (List Int)), 0 ≤ spreadF m s ∧ spreadF m s ≤ 100 := by decide +kernel
theorem spread_facts : ∀ k ∈ List.range 4, ∀ t ∈ List.range 256, ∀ m ∈ List.range 8, 0 ≤ spreadF m (supp t k) ∧ spreadF m (supp t k) ≤ 100 := fun k hk t ht m hm => spread8 m hm _ (supp_mem k hk t ht)
theorem shrink_ok {n : Nat} {t k : Int} {H : Hp} {Q : PV} (t0 : 0 ≤ t) (t1 : t < 256) (h0 : 0 ≤ k) (h1 : k ≤ 3)
    (h : ∀ H' r, Keep [] H H' → H.length ≤ r → H'[r]? = some (.list ((supp t k).map V.int)) → Q (.tup [.int (shrA t k), .ref r]) H') : CN FT (n + 6) 82 [.int t, .int k] H Q := by
  refine CN_step rfl rfl ?_
  dsimp only [fn_shrink, wZ_nil, wZ_cons, wS_asg, wS_asgC, wS_asgT, wS_asgA, wS_asgI, wS_aug, wS_augA, wS_for, wS_forT, wS_while, wS_if, wS_ret, wS_expr, wS_brk, wE_cint, wE_cneg, wE_cstr, wE_cbool, wE_cnone, wE_var, wE_bin, wE_cmp, wE_or2, wE_ite, wE_tup, wE_lst, wE_dctI, wE_dctS, wE_sub, wE_slTo, wE_slFrom, wE_attr, wE_call, wE_new, wE_meth, wE_bcall, wE_bmeth, wE_comp, wE_compIf, wE_comp2, wL_nil, wL_cons, wT_not, wT_tand, wT_tor, wT_cmp, wT_var, wT_bin, wT_sub, wT_call, wA_nil, wA_cons, wO_nil, wO_cons, onSome, onInt, onRef, onInst, List.zip_cons_cons, List.zip_nil_right, look_c, Nat.reduceBEq, cond_true, cond_false]
  refine support_ok t0 t1 h0 h1 fun H₁ r k₁ hr hg => ?_
  have hf := supp_facts k.toNat (List.mem_range.mpr (by omega)) t.toNat (List.mem_range.mpr (by omega))
  rw [Int.toNat_of_nonneg t0, Int.toNat_of_nonneg h0] at hf
  have hs : ∀ m : Nat, m < 8 → 0 ≤ spreadF m (supp t k) ∧ spreadF m (supp t k) ≤ 100 := fun m hm => by
    have := spread_facts k.toNat (List.mem_range.mpr (by omega)) t.toNat (List.mem_range.mpr (by omega)) m (List.mem_range.mpr hm)
    rwa [Int.toNat_of_nonneg t0, Int.toNat_of_nonneg h0] at this
  have hl : (supp t k).length ≤ 3 := by omega
  obtain ⟨P, hP⟩ : ∃ P : Nat, P = 2 ^ (supp t k).length := ⟨_, rfl⟩
  have hp : (1 : Int) * 2 ^ (supp t k).length = (P : Int) := by rw [hP, Int.one_mul, Int.natCast_pow]; rfl
  have hp8 : P ≤ 8 := by rw [hP]; exact show _ ≤ 2 ^ 3 from Nat.pow_le_pow_right (by decide) hl
  refine f_lenL hg (by rw [List.length_map]; omega) ?_
  rw [List.length_map]
  refine b_shl (by omega) (by omega) (by decide) ?_
  rw [Int.toNat_natCast, hp]
  refine f_rng (by omega) (by omega) ?_
  rw [Int.toNat_natCast]
  refine forW_fold (σ := Int) (vs := rngV P) (step := shStep t (supp t k)) (s₀ := 0)
    (fun j x ρ H' => look 20 ρ = some (.int t) ∧ look 27 ρ = some (.ref r) ∧ look 28 ρ = some (.int x) ∧ H' = H₁) ?_ ?_ ?_ ?_
  · exact fun _ _ _ _ _ => trivial
  · rintro j x v ρ H' _ hv ⟨e1, e2, e3, rfl⟩
    obtain ⟨hj, rfl⟩ := rngV_at hv
    refine ⟨_, rfl, fun K' hK => ?_⟩
    have hsj := hs j (by omega)
    have hd := div_mod_pos t (spreadF j (supp t k)).toNat t0
    dsimp only [wZ_nil, wZ_cons, wS_asg, wS_asgC, wS_asgT, wS_asgA, wS_asgI, wS_aug, wS_augA, wS_for, wS_forT, wS_while, wS_if, wS_ret, wS_expr, wS_brk, wE_cint, wE_cneg, wE_cstr, wE_cbool, wE_cnone, wE_var, wE_bin, wE_cmp, wE_or2, wE_ite, wE_tup, wE_lst, wE_dctI, wE_dctS, wE_sub, wE_slTo, wE_slFrom, wE_attr, wE_call, wE_new, wE_meth, wE_bcall, wE_bmeth, wE_comp, wE_compIf, wE_comp2, wL_nil, wL_cons, wT_not, wT_tand, wT_tor, wT_cmp, wT_var, wT_bin, wT_sub, wT_call, wA_nil, wA_cons, wO_nil, wO_cons, onSome, onInt, onRef, onInst, List.zip_cons_cons, List.zip_nil_right, look_c, Nat.reduceBEq, cond_true, cond_false]
    refine w_look e3 (w_look e1 (w_look e2 (spread_ok (by omega) hg (by omega) (fun x hx => by have := hf.2 x hx; omega) (b_shr hsj.1 (b_and ?_)))))
    rw [bitAnd_one hd.1]
    exact b_shl (by omega) (by omega) (by omega) (a_or (hK _ _ ⟨lc rfl (lc rfl e1), lc rfl (lc rfl e2), rfl, rfl⟩))
  · exact ⟨rfl, rfl, rfl, rfl⟩
  · rintro ρ' H' ⟨_, e2, e, rfl⟩
    refine w_look e (w_look e2 ?_)
    rw [hP]
    exact h _ _ k₁ hr hg
end Mine

namespace Mine
open PySem PySem.W PyProof.Rows

noncomputable def rnStep (bs : List Int) (r : Int) : V → Int
  | .int p => if bs.getD p.toNat 0 = 0 then r else r + 2 ^ p.toNat
  | _ => r
noncomputable def rowNum (bs : List Int) : Int := (rngV bs.length).foldl (rnStep bs) 0
theorem row_number_ok {n i : Nat} {bs : List Int} {H : Hp} {Q : PV} (hi : H[i]? = some (.list (bs.map V.int))) (hlen : bs.length ≤ 100) (h : Q (.int (rowNum bs)) H) : CN FT (n + 1) 75 [.ref i] H Q := by
  refine CN_step rfl rfl ?_
  dsimp only [fn_row_number, wZ_nil, wZ_cons, wS_asg, wS_asgC, wS_asgT, wS_asgA, wS_asgI, wS_aug, wS_augA, wS_for, wS_forT, wS_while, wS_if, wS_ret, wS_expr, wS_brk, wE_cint, wE_cneg, wE_cstr, wE_cbool, wE_cnone, wE_var, wE_bin, wE_cmp, wE_or2, wE_ite, wE_tup, wE_lst, wE_dctI, wE_dctS, wE_sub, wE_slTo, wE_slFrom, wE_attr, wE_call, wE_new, wE_meth, wE_bcall, wE_bmeth, wE_comp, wE_compIf, wE_comp2, wL_nil, wL_cons, wT_not, wT_tand, wT_tor, wT_cmp, wT_var, wT_bin, wT_sub, wT_call, wA_nil, wA_cons, wO_nil, wO_cons, onSome, onInt, onRef, onInst, List.zip_cons_cons, List.zip_nil_right, look_c, Nat.reduceBEq, cond_true, cond_false]
  refine f_lenL hi (by rw [List.length_map]; omega) (f_rng (by omega) (by rw [List.length_map]; omega) ?_)
  rw [List.length_map, Int.toNat_natCast]
  refine forW_fold (σ := Int) (vs := rngV bs.length) (step := rnStep bs) (s₀ := 0)
    (fun j r ρ H' => look 16 ρ = some (.ref i) ∧ look 17 ρ = some (.int r) ∧ H' = H) ?_ ?_ ?_ ?_
  · exact fun _ _ _ _ _ => trivial
  · rintro j r v ρ H' _ hv ⟨e1, e2, rfl⟩
    obtain ⟨hj, rfl⟩ := rngV_at hv
    refine ⟨_, rfl, fun K' hK => ?_⟩
    have hz : (j : Int).toNat = j := Int.toNat_natCast j
    dsimp only [wZ_nil, wZ_cons, wS_asg, wS_asgC, wS_asgT, wS_asgA, wS_asgI, wS_aug, wS_augA, wS_for, wS_forT, wS_while, wS_if, wS_ret, wS_expr, wS_brk, wE_cint, wE_cneg, wE_cstr, wE_cbool, wE_cnone, wE_var, wE_bin, wE_cmp, wE_or2, wE_ite, wE_tup, wE_lst, wE_dctI, wE_dctS, wE_sub, wE_slTo, wE_slFrom, wE_attr, wE_call, wE_new, wE_meth, wE_bcall, wE_bmeth, wE_comp, wE_compIf, wE_comp2, wL_nil, wL_cons, wT_not, wT_tand, wT_tor, wT_cmp, wT_var, wT_bin, wT_sub, wT_call, wA_nil, wA_cons, wO_nil, wO_cons, onSome, onInt, onRef, onInst, List.zip_cons_cons, List.zip_nil_right, look_c, Nat.reduceBEq, cond_true, cond_false]
    refine w_look e1 (s_l hi (by omega) (by omega) (nth_at hj) (t_i (w_nd (fun hb => ?_) fun hb => ?_)))
    · have e : rnStep bs r (.int j) = r := if_pos (by rw [hz]; exact hb)
      rw [e] at hK
      exact hK _ _ ⟨lc rfl e1, lc rfl e2, rfl⟩
    · have e : rnStep bs r (.int j) = r + 1 * 2 ^ (j : Int).toNat := by rw [Int.one_mul]; exact if_neg (by rw [hz]; exact hb)
      rw [e] at hK
      exact w_look e2 (b_shl (by omega) (by omega) (by decide) (a_add (hK _ _ ⟨lc rfl (lc rfl e1), rfl, rfl⟩)))
  · exact ⟨rfl, rfl, rfl⟩
  · rintro ρ' H' ⟨_, e, rfl⟩
    exact w_look e h

theorem idxOf_ints {x : Int} : ∀ {ks : List Int}, x ∈ ks → Mine.idxOf x (ks.map V.int) = some (ks.idxOf x)
  | [], h => nomatch h
  | k :: r, h => by
    rw [List.map_cons]
    show (if isInt x (V.int k) = true then some 0 else (Mine.idxOf x (r.map V.int)).map (· + 1)) = _
    rw [show isInt x (V.int k) = decide (k = x) from rfl]
    by_cases q : k = x
    · subst q; simp
    · have hr : x ∈ r := by
        rcases List.mem_cons.mp h with e | e
        · exact absurd e.symm q
        · exact e
      have q' : (k == x) = false := by simpa using q
      rw [decide_eq_false q, idxOf_ints hr, List.idxOf_cons, q']
      rfl
theorem allInts_map {ks : List Int} : allInts (ks.map V.int) := fun d hd => by
  obtain ⟨i, _, rfl⟩ := List.mem_map.mp hd
  exact ⟨i, rfl⟩
noncomputable def tBit (kept : List Int) (row net : Int) : Int := if net = 0 ∨ net = 1 then net else row / 2 ^ (kept.idxOf net) % 2
theorem table_bit_ok {n i : Nat} {net row : Int} {kept : List Int} {H : Hp} {Q : PV} (hi : H[i]? = some (.list (kept.map V.int))) (hlen : kept.length ≤ 100) (hn : net = 0 ∨ net = 1 ∨ net ∈ kept) (hr : 0 ≤ row)
    (h : Q (.int (tBit kept row net)) H) : CN FT (n + 1) 92 [.int net, .ref i, .int row] H Q := by
  refine CN_step rfl rfl ?_
  dsimp only [fn_table_bit, wZ_nil, wZ_cons, wS_asg, wS_asgC, wS_asgT, wS_asgA, wS_asgI, wS_aug, wS_augA, wS_for, wS_forT, wS_while, wS_if, wS_ret, wS_expr, wS_brk, wE_cint, wE_cneg, wE_cstr, wE_cbool, wE_cnone, wE_var, wE_bin, wE_cmp, wE_or2, wE_ite, wE_tup, wE_lst, wE_dctI, wE_dctS, wE_sub, wE_slTo, wE_slFrom, wE_attr, wE_call, wE_new, wE_meth, wE_bcall, wE_bmeth, wE_comp, wE_compIf, wE_comp2, wL_nil, wL_cons, wT_not, wT_tand, wT_tor, wT_cmp, wT_var, wT_bin, wT_sub, wT_call, wA_nil, wA_cons, wO_nil, wO_cons, onSome, onInt, onRef, onInst, List.zip_cons_cons, List.zip_nil_right, look_c, Nat.reduceBEq, cond_true, cond_false]
  unfold tBit at h
  refine c_eqi (w_dec (fun q => w_t ?_) fun q1 => c_eqi (w_dec (fun q => w_t ?_) fun q2 => w_f ?_))
  · rw [if_pos (.inl q)] at h; exact h
  · rw [if_pos (.inr q)] at h; exact h
  · have hm : net ∈ kept := hn.elim (fun q => absurd q q1) fun q => q.elim (fun q => absurd q q2) id
    rw [if_neg (fun q => q.elim q1 q2)] at h
    have hd := div_mod_pos row (kept.idxOf net) hr
    refine ⟨h_idx hi, m_idx hi (by rw [List.length_map]; omega) allInts_map (idxOf_ints hm) (b_shr (by omega) (b_and ?_))⟩
    rw [Int.toNat_natCast, bitAnd_one hd.1]
    exact h

theorem take_snoc {β : Type} (f : Int → β) {ins : List Int} {m : Nat} (hm : m < ins.length) : (ins.take m).map f ++ [f (ins.getD m 0)] = (ins.take (m + 1)).map f := by
  rw [List.take_add_one, List.getElem?_eq_getElem hm, List.map_append, List.getD_eq_getElem?_getD, List.getElem?_eq_getElem hm]
  rfl
theorem look_keepV {fv : List Nat} {x : Nat} : ∀ {ρ : Rho}, look x (keepV fv ρ) = if fv.contains x = true then look x ρ else none
  | [] => by simp [keepV, look_nil]
  | (y, e) :: r => by
    have ih := @look_keepV fv x r
    unfold keepV at ih ⊢
    rw [List.filter_cons]
    by_cases q : fv.contains y = true
    · rw [if_pos q, look_cons, look_cons, ih]
      by_cases z : y = x
      · subst z; rw [if_pos rfl, if_pos q, if_pos rfl]
      · rw [if_neg z, if_neg z]
    · rw [if_neg q, ih, look_cons]
      by_cases z : y = x
      · subst z; rw [if_neg q, if_neg q]
      · rw [if_neg z]
noncomputable def toStep (table : Int) (ins kept : List Int) (small : Int) : V → Int
  | .int row => if table / 2 ^ (rowNum (ins.map (tBit kept row))).toNat % 2 = 0 then small else small + 2 ^ row.toNat
  | _ => small
noncomputable def tOver (table : Int) (ins kept : List Int) : Int := (rngV (2 ^ kept.length)).foldl (toStep table ins kept) 0
theorem lk {fv : List Nat} {x : Nat} {ρ : Rho} {d : V} (q : fv.contains x = true) (e : look x ρ = some d) : look x (keepV fv ρ) = some d := by rw [look_keepV, if_pos q]; exact e
theorem rowNum_nonneg (bs : List Int) : 0 ≤ rowNum bs := by
  unfold rowNum
  have : ∀ (l : List V) (r : Int), 0 ≤ r → 0 ≤ l.foldl (rnStep bs) r := by
    intro l
    induction l with
    | nil => intro r h; exact h
    | cons v l ih =>
      intro r h
      refine ih _ ?_
      unfold rnStep
      split
      · split
        · exact h
        · have := Int.pow_pos (n := (2 : Int)) (m := (‹Int›).toNat) (by decide)
          omega
      · exact h
  exact this _ _ (Int.le_refl _)
theorem table_over_ok {n i : Nat} {table : Int} {ins kept : List Int} {H : Hp} {Q : PV} (ht : 0 ≤ table) (hi : H[i]? = some (.list (kept.map V.int))) (hk : kept.length ≤ 3) (hl : ins.length ≤ 3) (hn : ∀ x ∈ ins, x = 0 ∨ x = 1 ∨ x ∈ kept)
    (h : ∀ H', Keep [] H H' → Q (.int (tOver table ins kept)) H') : CN FT (n + 2) 93 [.int table, .tup (ins.map V.int), .ref i] H Q := by
  refine CN_step rfl rfl ?_
  dsimp only [fn_table_over, wZ_nil, wZ_cons, wS_asg, wS_asgC, wS_asgT, wS_asgA, wS_asgI, wS_aug, wS_augA, wS_for, wS_forT, wS_while, wS_if, wS_ret, wS_expr, wS_brk, wE_cint, wE_cneg, wE_cstr, wE_cbool, wE_cnone, wE_var, wE_bin, wE_cmp, wE_or2, wE_ite, wE_tup, wE_lst, wE_dctI, wE_dctS, wE_sub, wE_slTo, wE_slFrom, wE_attr, wE_call, wE_new, wE_meth, wE_bcall, wE_bmeth, wE_comp, wE_compIf, wE_comp2, wL_nil, wL_cons, wT_not, wT_tand, wT_tor, wT_cmp, wT_var, wT_bin, wT_sub, wT_call, wA_nil, wA_cons, wO_nil, wO_cons, onSome, onInt, onRef, onInst, List.zip_cons_cons, List.zip_nil_right, look_c, Nat.reduceBEq, cond_true, cond_false]
  obtain ⟨P, hP⟩ : ∃ P : Nat, P = 2 ^ kept.length := ⟨_, rfl⟩
  have hp : (1 : Int) * 2 ^ kept.length = (P : Int) := by rw [hP, Int.one_mul, Int.natCast_pow]; rfl
  have hp8 : P ≤ 8 := by rw [hP]; exact show _ ≤ 2 ^ 3 from Nat.pow_le_pow_right (by decide) hk
  refine f_lenL hi (by rw [List.length_map]; omega) ?_
  rw [List.length_map]
  refine b_shl (by omega) (by omega) (by decide) ?_
  rw [Int.toNat_natCast, hp]
  refine f_rng (by omega) (by omega) ?_
  rw [Int.toNat_natCast]
  refine forW_fold (σ := Int) (vs := rngV P) (step := toStep table ins kept) (s₀ := 0)
    (fun j x ρ H' => look 42 ρ = some (.int table) ∧ look 43 ρ = some (.tup (ins.map V.int)) ∧ look 27 ρ = some (.ref i) ∧ look 44 ρ = some (.int x) ∧ Keep [] H H') ?_ ?_ ?_ ?_
  · exact fun _ _ _ _ _ => trivial
  · rintro j x v ρ H' _ hv ⟨e1, e2, e3, e4, k₁⟩
    obtain ⟨hj, rfl⟩ := rngV_at hv
    refine ⟨_, rfl, fun K' hK => ?_⟩
    dsimp only [wZ_nil, wZ_cons, wS_asg, wS_asgC, wS_asgT, wS_asgA, wS_asgI, wS_aug, wS_augA, wS_for, wS_forT, wS_while, wS_if, wS_ret, wS_expr, wS_brk, wE_cint, wE_cneg, wE_cstr, wE_cbool, wE_cnone, wE_var, wE_bin, wE_cmp, wE_or2, wE_ite, wE_tup, wE_lst, wE_dctI, wE_dctS, wE_sub, wE_slTo, wE_slFrom, wE_attr, wE_call, wE_new, wE_meth, wE_bcall, wE_bmeth, wE_comp, wE_compIf, wE_comp2, wL_nil, wL_cons, wT_not, wT_tand, wT_tor, wT_cmp, wT_var, wT_bin, wT_sub, wT_call, wA_nil, wA_cons, wO_nil, wO_cons, onSome, onInt, onRef, onInst, List.zip_cons_cons, List.zip_nil_right, look_c, Nat.reduceBEq, cond_true, cond_false]
    refine w_look e2 (And.intro (by show (ins.map V.int).length ≤ _; rw [List.length_map]; omega) ?_)
    refine compW_fold (fun m H'' acc => Keep [] H' H'' ∧ acc = ((ins.take m).map (tBit kept j)).map V.int) (fun _ _ _ _ => trivial) ?_ ⟨Keep.refl, rfl⟩ ?_
    · rintro m v H'' acc hm hv ⟨k₂, rfl⟩ K'' hK''
      have hm : m < ins.length := by rw [List.length_map] at hm; exact hm
      rw [int_at hm] at hv
      cases hv
      have hx : ins.getD m 0 ∈ ins := by rw [List.getD_eq_getElem?_getD, List.getElem?_eq_getElem hm]; exact List.getElem_mem hm
      refine w_look (lk rfl (lc rfl e3)) (table_bit_ok (k₂.at (k₁.at hi)) (by omega) (hn _ hx) (by omega) (hK'' _ _ ⟨k₂, ?_⟩))
      rw [List.map_map, List.map_map]
      exact take_snoc (V.int ∘ tBit kept j) hm
    · rintro H'' acc ⟨k₂, rfl⟩
      rw [List.length_map, List.take_of_length_le (Nat.le_refl _)]
      have hr := rowNum_nonneg (ins.map (tBit kept j))
      have hd := div_mod_pos table (rowNum (ins.map (tBit kept j))).toNat ht
      refine w_look e1 (row_number_ok (bs := ins.map (tBit kept j)) get_last (by rw [List.length_map]; omega) (b_shr hr (b_and ?_)))
      rw [bitAnd_one hd.1]
      refine t_i (w_nd (fun hb => ?_) fun hb => ?_)
      · have e : toStep table ins kept x (.int j) = x := if_pos hb
        rw [e] at hK
        exact hK _ _ ⟨lc rfl (lc rfl e1), lc rfl (lc rfl e2), lc rfl (lc rfl e3), lc rfl (lc rfl e4), k₁.trans (k₂.trans Keep.push)⟩
      · have e : toStep table ins kept x (.int j) = x + 1 * 2 ^ (j : Int).toNat := by rw [Int.one_mul]; exact if_neg hb
        rw [e] at hK
        exact w_look e4 (b_shl (by omega) (by omega) (by decide) (a_add (hK _ _ ⟨lc rfl (lc rfl (lc rfl e1)), lc rfl (lc rfl (lc rfl e2)), lc rfl (lc rfl (lc rfl e3)), rfl, k₁.trans (k₂.trans Keep.push)⟩)))
  · exact ⟨rfl, rfl, rfl, rfl, Keep.refl⟩
  · rintro ρ' H' ⟨_, _, _, e, k₁⟩
    refine w_look e ?_
    rw [hP]
    exact h _ k₁
end Mine

namespace Mine
open PySem PySem.W PyProof.Rows

theorem rngV_succ {n : Nat} : rngV (n + 1) = rngV n ++ [V.int n] := by
  simp [rngV, List.range_succ]
theorem tOver_bound (table : Int) (ins kept : List Int) : ∀ n : Nat, 0 ≤ (rngV n).foldl (toStep table ins kept) 0 ∧ (rngV n).foldl (toStep table ins kept) 0 < 2 ^ n
  | 0 => ⟨Int.le_refl _, by show (0 : Int) < 1; decide⟩
  | n + 1 => by
    obtain ⟨h1, h2⟩ := tOver_bound table ins kept n
    rw [rngV_succ, List.foldl_append]
    simp only [List.foldl_cons, List.foldl_nil, toStep, Int.toNat_natCast]
    have h3 : (2 : Int) ^ (n + 1) = 2 ^ n * 2 := Int.pow_succ ..
    split <;> omega
theorem tOver_small {table : Int} {ins kept : List Int} (hk : kept.length ≤ 3) : 0 ≤ tOver table ins kept ∧ tOver table ins kept < 256 := by
  obtain ⟨h1, h2⟩ := tOver_bound table ins kept (2 ^ kept.length)
  refine ⟨h1, Int.lt_of_lt_of_le h2 ?_⟩
  have : 2 ^ kept.length ≤ 8 := show _ ≤ 2 ^ 3 from Nat.pow_le_pow_right (by decide) hk
  have h3 : (2 : Int) ^ (2 ^ kept.length) = ((2 ^ (2 ^ kept.length) : Nat) : Int) := by simp
  have h4 : 2 ^ (2 ^ kept.length) ≤ 2 ^ 8 := Nat.pow_le_pow_right (by decide) this
  rw [h3]
  omega
theorem any_ints {x : Int} {ks : List Int} : (ks.map V.int).any (isInt x) = decide (x ∈ ks) := by
  rw [Bool.eq_iff_iff]
  simp only [List.any_map, List.any_eq_true, decide_eq_true_eq, Function.comp, isInt]
  constructor
  · rintro ⟨y, hy, rfl⟩; exact hy
  · intro h; exact ⟨x, h, rfl⟩
noncomputable def kpStep (ks : List Int) : V → List Int
  | .int net => if 1 < net ∧ net ∉ ks then ks ++ [net] else ks
  | _ => ks
noncomputable def keptF (ins : List Int) : List Int := (ins.map V.int).foldl kpStep []
theorem kept_spec : ∀ (ins ks : List Int), ((ins.map V.int).foldl kpStep ks).length ≤ ks.length + ins.length ∧ (∀ x ∈ ks, x ∈ (ins.map V.int).foldl kpStep ks) ∧ (∀ x ∈ ins, 1 < x → x ∈ (ins.map V.int).foldl kpStep ks) ∧
    (∀ x ∈ (ins.map V.int).foldl kpStep ks, x ∈ ks ∨ (x ∈ ins ∧ 1 < x))
  | [], ks => ⟨by simp, fun _ h => h, (fun _ h => nomatch h), fun _ h => .inl h⟩
  | a :: r, ks => by
    simp only [List.map_cons, List.foldl_cons]
    obtain ⟨h1, h2, h3, h4⟩ := kept_spec r (kpStep ks (.int a))
    have e : kpStep ks (.int a) = if 1 < a ∧ a ∉ ks then ks ++ [a] else ks := rfl
    refine ⟨?_, fun x hx => h2 x ?_, fun x hx h => ?_, fun x hx => ?_⟩
    · rw [e] at h1 ⊢
      split at h1 <;> split <;> simp_all <;> omega
    · rw [e]; split
      · exact List.mem_append_left _ hx
      · exact hx
    · rcases List.mem_cons.mp hx with rfl | hx
      · refine h2 _ ?_
        rw [e]
        by_cases q : x ∈ ks
        · split
          · exact List.mem_append_left _ q
          · exact q
        · rw [if_pos ⟨h, q⟩]; simp
      · exact h3 x hx h
    · rcases h4 x hx with q | ⟨q, q'⟩
      · rw [e] at q
        split at q
        · rename_i hc
          rcases List.mem_append.mp q with q | q
          · exact .inl q
          · simp at q; subst q
            exact .inr ⟨List.mem_cons_self, hc.1⟩
        · exact .inl q
      · exact .inr ⟨List.mem_cons_of_mem _ q, q'⟩
noncomputable def netsF (kept ps : List Int) : List Int := ps.map fun p => kept.getD p.toNat 0
noncomputable def tForm (table : Int) (ins : List Int) : Nat × List Int × V :=
  if (supp (tOver table ins (keptF ins)) (keptF ins).length).length = 0 then (10, [shrA (tOver table ins (keptF ins)) (keptF ins).length % 2], .none)
  else if (supp (tOver table ins (keptF ins)) (keptF ins).length).length = 1 then (if shrA (tOver table ins (keptF ins)) (keptF ins).length = 2 then 10 else 9, netsF (keptF ins) (supp (tOver table ins (keptF ins)) (keptF ins).length), .none)
  else (7, netsF (keptF ins) (supp (tOver table ins (keptF ins)) (keptF ins).length), .int (shrA (tOver table ins (keptF ins)) (keptF ins).length))
noncomputable def formV (f : Nat × List Int × V) : V := .tup [.str f.1, .tup (f.2.1.map V.int), f.2.2]
theorem shr_facts : ∀ k ∈ List.range 4, ∀ t ∈ List.range 256, 0 ≤ shrA t k ∧ shrA t k < 256 := by decide +kernel

theorem table_form_ok {n : Nat} {table : Int} {ins : List Int} {H : Hp} {Q : PV} (ht : 0 ≤ table) (hl : ins.length ≤ 3) (hn : ∀ x ∈ ins, 0 ≤ x)
    (h : ∀ H', Keep [] H H' → Q (formV (tForm table ins)) H') : CN FT (n + 7) 94 [.int table, .tup (ins.map V.int)] H Q := by
  refine CN_step rfl rfl ?_
  dsimp only [fn_table_form, wZ_nil, wZ_cons, wS_asg, wS_asgC, wS_asgT, wS_asgA, wS_asgI, wS_aug, wS_augA, wS_for, wS_forT, wS_while, wS_if, wS_ret, wS_expr, wS_brk, wE_cint, wE_cneg, wE_cstr, wE_cbool, wE_cnone, wE_var, wE_bin, wE_cmp, wE_or2, wE_ite, wE_tup, wE_lst, wE_dctI, wE_dctS, wE_sub, wE_slTo, wE_slFrom, wE_attr, wE_call, wE_new, wE_meth, wE_bcall, wE_bmeth, wE_comp, wE_compIf, wE_comp2, wL_nil, wL_cons, wT_not, wT_tand, wT_tor, wT_cmp, wT_var, wT_bin, wT_sub, wT_call, wA_nil, wA_cons, wO_nil, wO_cons, onSome, onInt, onRef, onInst, List.zip_cons_cons, List.zip_nil_right, look_c, Nat.reduceBEq, cond_true, cond_false]
  obtain ⟨s1, _, s3, s4⟩ := kept_spec ins []
  refine forW_fold (σ := List Int) (vs := ins.map V.int) (step := kpStep) (s₀ := [])
    (fun j ks ρ H' => look 42 ρ = some (.int table) ∧ look 43 ρ = some (.tup (ins.map V.int)) ∧ look 27 ρ = some (.ref H.length) ∧ H' = H ++ [.list (ks.map V.int)] ∧ ks.length ≤ j) ?_ ?_ ?_ ?_
  · exact fun _ _ _ _ _ => trivial
  · rintro j ks v ρ H' hj hv ⟨e1, e2, e3, rfl, hz⟩
    have hj : j < ins.length := by rw [List.length_map] at hj; exact hj
    rw [int_at hj] at hv
    cases hv
    refine ⟨_, rfl, fun K' hK => ?_⟩
    dsimp only [wZ_nil, wZ_cons, wS_asg, wS_asgC, wS_asgT, wS_asgA, wS_asgI, wS_aug, wS_augA, wS_for, wS_forT, wS_while, wS_if, wS_ret, wS_expr, wS_brk, wE_cint, wE_cneg, wE_cstr, wE_cbool, wE_cnone, wE_var, wE_bin, wE_cmp, wE_or2, wE_ite, wE_tup, wE_lst, wE_dctI, wE_dctS, wE_sub, wE_slTo, wE_slFrom, wE_attr, wE_call, wE_new, wE_meth, wE_bcall, wE_bmeth, wE_comp, wE_compIf, wE_comp2, wL_nil, wL_cons, wT_not, wT_tand, wT_tor, wT_cmp, wT_var, wT_bin, wT_sub, wT_call, wA_nil, wA_cons, wO_nil, wO_cons, onSome, onInt, onRef, onInst, List.zip_cons_cons, List.zip_nil_right, look_c, Nat.reduceBEq, cond_true, cond_false]
    refine c_gt (w_dec (fun hb => w_look e3 (c_niL get_last allInts_map ?_)) fun hb => w_f ?_)
    · rw [any_ints]
      refine w_nd (fun hc => w_f ?_) fun hc => w_t ?_
      · have e : kpStep ks (.int (ins.getD j 0)) = ks := if_neg fun q => q.2 hc
        rw [e] at hK
        exact hK _ _ ⟨lc rfl e1, lc rfl e2, lc rfl e3, rfl, Nat.le_succ_of_le hz⟩
      · have e : kpStep ks (.int (ins.getD j 0)) = ks ++ [ins.getD j 0] := if_pos ⟨hb, hc⟩
        rw [e] at hK
        refine w_look e3 ⟨h_app get_last, m_app get_last (by rw [List.length_map]; omega) ⟨rfl, hK _ _ ⟨lc rfl e1, lc rfl e2, lc rfl e3, ?_, ?_⟩⟩⟩
        · rw [List.set_append_right _ _ (Nat.le_refl _), Nat.sub_self, List.map_append]; rfl
        · rw [List.length_append]; exact Nat.succ_le_succ hz
    · have e : kpStep ks (.int (ins.getD j 0)) = ks := if_neg fun q => hb q.1
      rw [e] at hK
      exact hK _ _ ⟨lc rfl e1, lc rfl e2, lc rfl e3, rfl, Nat.le_succ_of_le hz⟩
  · exact ⟨rfl, rfl, rfl, rfl, Nat.le_refl _⟩
  · rintro ρ H' ⟨e1, e2, e3, rfl, _⟩
    have hg : (H ++ [O.list ((keptF ins).map V.int)])[H.length]? = some (.list ((keptF ins).map V.int)) := get_last
    rw [show (ins.map V.int).foldl kpStep [] = keptF ins from rfl]
    have hk3 : (keptF ins).length ≤ 3 := by
      have : (keptF ins).length ≤ 0 + ins.length := s1
      omega
    refine w_look e1 (w_look e2 (w_look e3 (table_over_ok ht hg hk3 hl (fun x hx => ?_) fun H₁ k₁ => ?_)))
    · by_cases q : 1 < x
      · exact .inr (.inr (s3 x hx q))
      · have := hn x hx; omega
    have hb := tOver_small (table := table) (ins := ins) (kept := keptF ins) hk3
    generalize hT : tOver table ins (keptF ins) = T at hb
    have hg₁ := k₁.at hg
    refine w_look e3 (f_lenL hg₁ (by rw [List.length_map]; omega) ?_)
    rw [List.length_map]
    refine shrink_ok hb.1 hb.2 (by omega) (by omega) fun H₂ r k₂ hr hg₂ => ?_
    have hs := shr_facts (keptF ins).length (List.mem_range.mpr (by omega)) T.toNat (List.mem_range.mpr (by omega))
    have hf := supp_facts (keptF ins).length (List.mem_range.mpr (by omega)) T.toNat (List.mem_range.mpr (by omega))
    rw [Int.toNat_of_nonneg hb.1] at hs hf
    have hg₃ := k₂.at hg₁
    have hsl : (supp T ↑(keptF ins).length).length ≤ 3 := by omega
    dsimp only [bindT, wZ_nil, wZ_cons, wS_asg, wS_asgC, wS_asgT, wS_asgA, wS_asgI, wS_aug, wS_augA, wS_for, wS_forT, wS_while, wS_if, wS_ret, wS_expr, wS_brk, wE_cint, wE_cneg, wE_cstr, wE_cbool, wE_cnone, wE_var, wE_bin, wE_cmp, wE_or2, wE_ite, wE_tup, wE_lst, wE_dctI, wE_dctS, wE_sub, wE_slTo, wE_slFrom, wE_attr, wE_call, wE_new, wE_meth, wE_bcall, wE_bmeth, wE_comp, wE_compIf, wE_comp2, wL_nil, wL_cons, wT_not, wT_tand, wT_tor, wT_cmp, wT_var, wT_bin, wT_sub, wT_call, wA_nil, wA_cons, wO_nil, wO_cons, onSome, onInt, onRef, onInst, List.zip_cons_cons, List.zip_nil_right, look_c, Nat.reduceBEq, cond_true, cond_false]
    refine i_ref hg₂ (And.intro (by rw [List.length_map]; omega) ?_)
    refine compW_fold (fun m H'' acc => Keep [] H₂ H'' ∧ acc = ((supp T (keptF ins).length).take m).map fun p => V.int ((keptF ins).getD p.toNat 0)) (fun _ H'' _ hI => hI.1.at hg₂) ?_ ⟨Keep.refl, rfl⟩ ?_
    · rintro m v H'' acc hm hv ⟨k₃, rfl⟩ K'' hK''
      have hm : m < (supp T (keptF ins).length).length := by rw [List.length_map] at hm; exact hm
      rw [int_at hm] at hv
      cases hv
      have hx := hf.2 ((supp T (keptF ins).length).getD m 0) (by rw [List.getD_eq_getElem?_getD, List.getElem?_eq_getElem hm]; exact List.getElem_mem hm)
      have hpl : ((supp T (keptF ins).length).getD m 0).toNat < (keptF ins).length := by omega
      have hnt := nth_at hpl
      rw [Int.toNat_of_nonneg hx.1] at hnt
      refine w_look (lk rfl (lc rfl (lc rfl e3))) (s_l (k₃.at hg₃) (by omega) (by omega) hnt (hK'' _ _ ⟨k₃, ?_⟩))
      exact take_snoc (fun p => V.int ((keptF ins).getD p.toNat 0)) hm
    · rintro H'' acc ⟨k₃, rfl⟩
      rw [List.length_map, List.take_of_length_le (Nat.le_refl _)]
      have e6 : ((supp T ↑(keptF ins).length).map fun p => V.int ((keptF ins).getD p.toNat 0)) = (netsF (keptF ins) (supp T (keptF ins).length)).map V.int := by rw [netsF, List.map_map]; rfl
      rw [e6]
      have kf : Keep [] H (H'' ++ [O.list ((netsF (keptF ins) (supp T (keptF ins).length)).map V.int)]) := (((Keep.push.trans k₁).trans k₂).trans k₃).trans Keep.push
      have hq := h _ kf
      unfold tForm formV at hq
      rw [hT] at hq
      have nl : ((netsF (keptF ins) (supp T (keptF ins).length)).map V.int).length = (supp T (keptF ins).length).length := by rw [List.length_map, netsF, List.length_map]
      refine f_tupL get_last (by omega) (f_lenT (by omega) ?_)
      rw [nl]
      refine c_eqi (w_dec (fun hz => ?_) fun hz => ?_)
      · rw [if_pos (by omega)] at hq
        refine b_and ?_
        rw [bitAnd_one hs.1]
        exact hq
      · rw [if_neg (by omega)] at hq
        refine f_lenT (by omega) ?_
        rw [nl]
        refine c_eqi (w_dec (fun ho => ?_) fun ho => ?_)
        · rw [if_pos (by omega)] at hq
          refine c_eqi (w_dec (fun h2 => ?_) fun h2 => ?_)
          · rw [if_pos h2] at hq
            exact hq
          · rw [if_neg h2] at hq
            exact hq
        · rw [if_neg (by omega)] at hq
          exact hq
noncomputable def lForm (table : Int) (ins : List Int) : Nat × List Int × V :=
  if (tForm table ins).1 = 7 then (8, ins, .tup [.str 11, .int table]) else ((tForm table ins).1, (tForm table ins).2.1, .none)
theorem library_form_ok {n : Nat} {table : Int} {ins : List Int} {H : Hp} {Q : PV} (ht : 0 ≤ table) (hl : ins.length ≤ 3) (hn : ∀ x ∈ ins, 0 ≤ x)
    (h : ∀ H', Keep [] H H' → Q (formV (lForm table ins)) H') : CN FT (n + 8) 96 [.tup (ins.map V.int), .tup [.str 11, .int table]] H Q := by
  refine CN_step rfl rfl ?_
  dsimp only [fn_library_form, wZ_nil, wZ_cons, wS_asg, wS_asgC, wS_asgT, wS_asgA, wS_asgI, wS_aug, wS_augA, wS_for, wS_forT, wS_while, wS_if, wS_ret, wS_expr, wS_brk, wE_cint, wE_cneg, wE_cstr, wE_cbool, wE_cnone, wE_var, wE_bin, wE_cmp, wE_or2, wE_ite, wE_tup, wE_lst, wE_dctI, wE_dctS, wE_sub, wE_slTo, wE_slFrom, wE_attr, wE_call, wE_new, wE_meth, wE_bcall, wE_bmeth, wE_comp, wE_compIf, wE_comp2, wL_nil, wL_cons, wT_not, wT_tand, wT_tor, wT_cmp, wT_var, wT_bin, wT_sub, wT_call, wA_nil, wA_cons, wO_nil, wO_cons, onSome, onInt, onRef, onInst, List.zip_cons_cons, List.zip_nil_right, look_c, Nat.reduceBEq, cond_true, cond_false]
  refine s_t1 (table_form_ok ht hl hn fun H' k => ?_)
  have hq := h H' k
  unfold lForm at hq
  dsimp only [formV, bindT, wZ_nil, wZ_cons, wS_asg, wS_asgC, wS_asgT, wS_asgA, wS_asgI, wS_aug, wS_augA, wS_for, wS_forT, wS_while, wS_if, wS_ret, wS_expr, wS_brk, wE_cint, wE_cneg, wE_cstr, wE_cbool, wE_cnone, wE_var, wE_bin, wE_cmp, wE_or2, wE_ite, wE_tup, wE_lst, wE_dctI, wE_dctS, wE_sub, wE_slTo, wE_slFrom, wE_attr, wE_call, wE_new, wE_meth, wE_bcall, wE_bmeth, wE_comp, wE_compIf, wE_comp2, wL_nil, wL_cons, wT_not, wT_tand, wT_tor, wT_cmp, wT_var, wT_bin, wT_sub, wT_call, wA_nil, wA_cons, wO_nil, wO_cons, onSome, onInt, onRef, onInst, List.zip_cons_cons, List.zip_nil_right, look_c, Nat.reduceBEq, cond_true, cond_false]
  refine c_eqs (w_dec (fun h7 => ?_) fun h7 => ?_)
  · rw [if_pos h7] at hq
    exact hq
  · rw [if_neg h7] at hq
    exact hq
end Mine

namespace Mine
open PySem PySem.W PyProof.Rows

noncomputable def pairV (f : Nat × List Int) : V := .tup [.str f.1, .tup (f.2.map V.int)]
noncomputable def andF (a b : Int) (o : Bool) : Nat × List Int :=
  if a = 0 ∨ b = 0 ∨ o = true then (10, [0]) else if a = 1 ∨ a = b then (10, [b]) else if b = 1 then (10, [a]) else (0, [a, b])
noncomputable def orF (a b : Int) (o : Bool) : Nat × List Int :=
  if a = 1 ∨ b = 1 ∨ o = true then (10, [1]) else if a = 0 ∨ a = b then (10, [b]) else if b = 0 then (10, [a]) else (1, [a, b])
noncomputable def xorF (a b : Int) (o : Bool) : Nat × List Int :=
  if a = b then (10, [0]) else if o = true then (10, [1]) else if a = 0 then (10, [b]) else if b = 0 then (10, [a]) else if a = 1 then (9, [b]) else if b = 1 then (9, [a]) else (2, [a, b])
noncomputable def turnF (f : Nat × List Int) : Nat × List Int :=
  if f.1 = 10 then (if f.2.getD 0 0 = 0 ∨ f.2.getD 0 0 = 1 then (10, [1 - f.2.getD 0 0]) else (9, f.2))
  else if f.1 = 9 then (10, f.2) else if f.1 = 0 then (3, f.2) else if f.1 = 1 then (4, f.2) else (5, f.2)
noncomputable def gateF (k : Nat) (a b : Int) (o : Bool) : Nat × List Int :=
  if k = 0 then andF a b o else if k = 3 then turnF (andF a b o) else if k = 1 then orF a b o else if k = 4 then turnF (orF a b o) else if k = 2 then xorF a b o else turnF (xorF a b o)
noncomputable def selF (s a b : Int) : Nat × List Int :=
  if s = 0 ∨ a = b then (10, [a]) else if s = 1 then (10, [b]) else if a = 0 ∧ b = 1 then (10, [s]) else if a = 1 ∧ b = 0 then (9, [s]) else (6, [s, a, b])

theorem and_form_ok {n : Nat} {a b : Int} {o : Bool} {H : Hp} {Q : PV} (h : Q (pairV (andF a b o)) H) : CN FT (n + 1) 86 [.int a, .int b, .bool o] H Q := by
  refine CN_step rfl rfl ?_
  dsimp only [fn_and_form, wZ_nil, wZ_cons, wS_asg, wS_asgC, wS_asgT, wS_asgA, wS_asgI, wS_aug, wS_augA, wS_for, wS_forT, wS_while, wS_if, wS_ret, wS_expr, wS_brk, wE_cint, wE_cneg, wE_cstr, wE_cbool, wE_cnone, wE_var, wE_bin, wE_cmp, wE_or2, wE_ite, wE_tup, wE_lst, wE_dctI, wE_dctS, wE_sub, wE_slTo, wE_slFrom, wE_attr, wE_call, wE_new, wE_meth, wE_bcall, wE_bmeth, wE_comp, wE_compIf, wE_comp2, wL_nil, wL_cons, wT_not, wT_tand, wT_tor, wT_cmp, wT_var, wT_bin, wT_sub, wT_call, wA_nil, wA_cons, wO_nil, wO_cons, onSome, onInt, onRef, onInst, List.zip_cons_cons, List.zip_nil_right, look_c, Nat.reduceBEq, cond_true, cond_false]
  unfold andF at h
  refine c_eqi (w_dec (fun q => w_t ?_) fun q1 => c_eqi (w_dec (fun q => w_t ?_) fun q2 => t_b (w_bool (fun q => w_t ?_) fun q3 => w_f ?_)))
  · rw [if_pos (.inl q)] at h; exact h
  · rw [if_pos (.inr (.inl q))] at h; exact h
  · rw [if_pos (.inr (.inr q))] at h; exact h
  rw [if_neg (fun q => q.elim q1 fun q => q.elim q2 fun q => by rw [q3] at q; cases q)] at h
  refine c_eqi (w_dec (fun q => w_t ?_) fun q1 => c_eqi (w_dec (fun q => w_t ?_) fun q2 => w_f ?_))
  · rw [if_pos (.inl q)] at h; exact h
  · rw [if_pos (.inr q)] at h; exact h
  rw [if_neg (fun q => q.elim q1 q2)] at h
  refine c_eqi (w_dec (fun q => ?_) fun q1 => ?_)
  · rw [if_pos q] at h; exact h
  · rw [if_neg q1] at h; exact h
theorem or_form_ok {n : Nat} {a b : Int} {o : Bool} {H : Hp} {Q : PV} (h : Q (pairV (orF a b o)) H) : CN FT (n + 1) 87 [.int a, .int b, .bool o] H Q := by
  refine CN_step rfl rfl ?_
  dsimp only [fn_or_form, wZ_nil, wZ_cons, wS_asg, wS_asgC, wS_asgT, wS_asgA, wS_asgI, wS_aug, wS_augA, wS_for, wS_forT, wS_while, wS_if, wS_ret, wS_expr, wS_brk, wE_cint, wE_cneg, wE_cstr, wE_cbool, wE_cnone, wE_var, wE_bin, wE_cmp, wE_or2, wE_ite, wE_tup, wE_lst, wE_dctI, wE_dctS, wE_sub, wE_slTo, wE_slFrom, wE_attr, wE_call, wE_new, wE_meth, wE_bcall, wE_bmeth, wE_comp, wE_compIf, wE_comp2, wL_nil, wL_cons, wT_not, wT_tand, wT_tor, wT_cmp, wT_var, wT_bin, wT_sub, wT_call, wA_nil, wA_cons, wO_nil, wO_cons, onSome, onInt, onRef, onInst, List.zip_cons_cons, List.zip_nil_right, look_c, Nat.reduceBEq, cond_true, cond_false]
  unfold orF at h
  refine c_eqi (w_dec (fun q => w_t ?_) fun q1 => c_eqi (w_dec (fun q => w_t ?_) fun q2 => t_b (w_bool (fun q => w_t ?_) fun q3 => w_f ?_)))
  · rw [if_pos (.inl q)] at h; exact h
  · rw [if_pos (.inr (.inl q))] at h; exact h
  · rw [if_pos (.inr (.inr q))] at h; exact h
  rw [if_neg (fun q => q.elim q1 fun q => q.elim q2 fun q => by rw [q3] at q; cases q)] at h
  refine c_eqi (w_dec (fun q => w_t ?_) fun q1 => c_eqi (w_dec (fun q => w_t ?_) fun q2 => w_f ?_))
  · rw [if_pos (.inl q)] at h; exact h
  · rw [if_pos (.inr q)] at h; exact h
  rw [if_neg (fun q => q.elim q1 q2)] at h
  refine c_eqi (w_dec (fun q => ?_) fun q1 => ?_)
  · rw [if_pos q] at h; exact h
  · rw [if_neg q1] at h; exact h
theorem xor_form_ok {n : Nat} {a b : Int} {o : Bool} {H : Hp} {Q : PV} (h : Q (pairV (xorF a b o)) H) : CN FT (n + 1) 88 [.int a, .int b, .bool o] H Q := by
  refine CN_step rfl rfl ?_
  dsimp only [fn_xor_form, wZ_nil, wZ_cons, wS_asg, wS_asgC, wS_asgT, wS_asgA, wS_asgI, wS_aug, wS_augA, wS_for, wS_forT, wS_while, wS_if, wS_ret, wS_expr, wS_brk, wE_cint, wE_cneg, wE_cstr, wE_cbool, wE_cnone, wE_var, wE_bin, wE_cmp, wE_or2, wE_ite, wE_tup, wE_lst, wE_dctI, wE_dctS, wE_sub, wE_slTo, wE_slFrom, wE_attr, wE_call, wE_new, wE_meth, wE_bcall, wE_bmeth, wE_comp, wE_compIf, wE_comp2, wL_nil, wL_cons, wT_not, wT_tand, wT_tor, wT_cmp, wT_var, wT_bin, wT_sub, wT_call, wA_nil, wA_cons, wO_nil, wO_cons, onSome, onInt, onRef, onInst, List.zip_cons_cons, List.zip_nil_right, look_c, Nat.reduceBEq, cond_true, cond_false]
  unfold xorF at h
  refine c_eqi (w_dec (fun q => ?_) fun q => ?_)
  · rw [if_pos q] at h; exact h
  rw [if_neg q] at h
  refine t_b (w_bool (fun q => ?_) fun q => ?_)
  · rw [if_pos q] at h; exact h
  rw [if_neg (by rw [q]; decide)] at h
  refine c_eqi (w_dec (fun q => ?_) fun q => ?_)
  · rw [if_pos q] at h; exact h
  rw [if_neg q] at h
  refine c_eqi (w_dec (fun q => ?_) fun q => ?_)
  · rw [if_pos q] at h; exact h
  rw [if_neg q] at h
  refine c_eqi (w_dec (fun q => ?_) fun q => ?_)
  · rw [if_pos q] at h; exact h
  rw [if_neg q] at h
  refine c_eqi (w_dec (fun q => ?_) fun q => ?_)
  · rw [if_pos q] at h; exact h
  · rw [if_neg q] at h; exact h
theorem turned_ok {n : Nat} {f : Nat × List Int} {H : Hp} {Q : PV} (hf : f.2 ≠ []) (h : Q (pairV (turnF f)) H) : CN FT (n + 1) 89 [pairV f] H Q := by
  obtain ⟨k, ins⟩ := f
  cases ins with
  | nil => exact absurd rfl hf
  | cons x r =>
    refine CN_step rfl rfl ?_
    dsimp only [fn_turned_form, wZ_nil, wZ_cons, wS_asg, wS_asgC, wS_asgT, wS_asgA, wS_asgI, wS_aug, wS_augA, wS_for, wS_forT, wS_while, wS_if, wS_ret, wS_expr, wS_brk, wE_cint, wE_cneg, wE_cstr, wE_cbool, wE_cnone, wE_var, wE_bin, wE_cmp, wE_or2, wE_ite, wE_tup, wE_lst, wE_dctI, wE_dctS, wE_sub, wE_slTo, wE_slFrom, wE_attr, wE_call, wE_new, wE_meth, wE_bcall, wE_bmeth, wE_comp, wE_compIf, wE_comp2, wL_nil, wL_cons, wT_not, wT_tand, wT_tor, wT_cmp, wT_var, wT_bin, wT_sub, wT_call, wA_nil, wA_cons, wO_nil, wO_cons, onSome, onInt, onRef, onInst, List.zip_cons_cons, List.zip_nil_right, look_c, Nat.reduceBEq, cond_true, cond_false]
    unfold turnF at h
    refine c_eqs (w_dec (fun q => ?_) fun q => ?_)
    · rw [if_pos q] at h
      refine s_t0 (c_eqi (w_dec (fun q => w_t ?_) fun q1 => s_t0 (c_eqi (w_dec (fun q => w_t ?_) fun q2 => w_f ?_))))
      · rw [if_pos (.inl q)] at h; exact s_t0 (b_sub h)
      · rw [if_pos (.inr q)] at h; exact s_t0 (b_sub h)
      · rw [if_neg (fun q => q.elim q1 q2)] at h; exact h
    rw [if_neg q] at h
    refine c_eqs (w_dec (fun q => ?_) fun q => ?_)
    · rw [if_pos q] at h; exact h
    rw [if_neg q] at h
    refine c_eqs (w_dec (fun q => ?_) fun q => ?_)
    · rw [if_pos q] at h; exact h
    rw [if_neg q] at h
    refine c_eqs (w_dec (fun q => ?_) fun q => ?_)
    · rw [if_pos q] at h; exact h
    · rw [if_neg q] at h; exact h
theorem andF_ne {a b o} : (andF a b o).2 ≠ [] := by unfold andF; (repeat' split) <;> simp
theorem orF_ne {a b o} : (orF a b o).2 ≠ [] := by unfold orF; (repeat' split) <;> simp
theorem xorF_ne {a b o} : (xorF a b o).2 ≠ [] := by unfold xorF; (repeat' split) <;> simp
theorem gate_form_ok {n k : Nat} {a b : Int} {o : Bool} {H : Hp} {Q : PV} (h : Q (pairV (gateF k a b o)) H) : CN FT (n + 2) 90 [.str k, .int a, .int b, .bool o] H Q := by
  refine CN_step rfl rfl ?_
  dsimp only [fn_gate_form, wZ_nil, wZ_cons, wS_asg, wS_asgC, wS_asgT, wS_asgA, wS_asgI, wS_aug, wS_augA, wS_for, wS_forT, wS_while, wS_if, wS_ret, wS_expr, wS_brk, wE_cint, wE_cneg, wE_cstr, wE_cbool, wE_cnone, wE_var, wE_bin, wE_cmp, wE_or2, wE_ite, wE_tup, wE_lst, wE_dctI, wE_dctS, wE_sub, wE_slTo, wE_slFrom, wE_attr, wE_call, wE_new, wE_meth, wE_bcall, wE_bmeth, wE_comp, wE_compIf, wE_comp2, wL_nil, wL_cons, wT_not, wT_tand, wT_tor, wT_cmp, wT_var, wT_bin, wT_sub, wT_call, wA_nil, wA_cons, wO_nil, wO_cons, onSome, onInt, onRef, onInst, List.zip_cons_cons, List.zip_nil_right, look_c, Nat.reduceBEq, cond_true, cond_false]
  unfold gateF at h
  refine c_eqs (w_dec (fun q => ?_) fun q => ?_)
  · rw [if_pos q] at h; exact and_form_ok h
  rw [if_neg q] at h
  refine c_eqs (w_dec (fun q => ?_) fun q => ?_)
  · rw [if_pos q] at h; exact and_form_ok (turned_ok andF_ne h)
  rw [if_neg q] at h
  refine c_eqs (w_dec (fun q => ?_) fun q => ?_)
  · rw [if_pos q] at h; exact or_form_ok h
  rw [if_neg q] at h
  refine c_eqs (w_dec (fun q => ?_) fun q => ?_)
  · rw [if_pos q] at h; exact or_form_ok (turned_ok orF_ne h)
  rw [if_neg q] at h
  refine c_eqs (w_dec (fun q => ?_) fun q => ?_)
  · rw [if_pos q] at h; exact xor_form_ok h
  · rw [if_neg q] at h; exact xor_form_ok (turned_ok xorF_ne h)
theorem select_form_ok {n : Nat} {s a b : Int} {H : Hp} {Q : PV} (h : Q (pairV (selF s a b)) H) : CN FT (n + 1) 91 [.int s, .int a, .int b] H Q := by
  refine CN_step rfl rfl ?_
  dsimp only [fn_select_form, wZ_nil, wZ_cons, wS_asg, wS_asgC, wS_asgT, wS_asgA, wS_asgI, wS_aug, wS_augA, wS_for, wS_forT, wS_while, wS_if, wS_ret, wS_expr, wS_brk, wE_cint, wE_cneg, wE_cstr, wE_cbool, wE_cnone, wE_var, wE_bin, wE_cmp, wE_or2, wE_ite, wE_tup, wE_lst, wE_dctI, wE_dctS, wE_sub, wE_slTo, wE_slFrom, wE_attr, wE_call, wE_new, wE_meth, wE_bcall, wE_bmeth, wE_comp, wE_compIf, wE_comp2, wL_nil, wL_cons, wT_not, wT_tand, wT_tor, wT_cmp, wT_var, wT_bin, wT_sub, wT_call, wA_nil, wA_cons, wO_nil, wO_cons, onSome, onInt, onRef, onInst, List.zip_cons_cons, List.zip_nil_right, look_c, Nat.reduceBEq, cond_true, cond_false]
  unfold selF at h
  refine c_eqi (w_dec (fun q => w_t ?_) fun q1 => c_eqi (w_dec (fun q => w_t ?_) fun q2 => w_f ?_))
  · rw [if_pos (.inl q)] at h; exact h
  · rw [if_pos (.inr q)] at h; exact h
  rw [if_neg (fun q => q.elim q1 q2)] at h
  refine c_eqi (w_dec (fun q => ?_) fun q => ?_)
  · rw [if_pos q] at h; exact h
  rw [if_neg q] at h
  refine c_eqi (w_dec (fun q1 => c_eqi (w_dec (fun q2 => w_t ?_) fun q2 => w_f ?_)) fun q1 => w_f ?_)
  · rw [if_pos ⟨q1, q2⟩] at h; exact h
  · rw [if_neg (fun q => q2 q.2)] at h
    refine c_eqi (w_dec (fun q1 => c_eqi (w_dec (fun q2 => w_t ?_) fun q2 => w_f ?_)) fun q1 => w_f ?_)
    · rw [if_pos ⟨q1, q2⟩] at h; exact h
    · rw [if_neg (fun q => q2 q.2)] at h; exact h
    · rw [if_neg (fun q => q1 q.1)] at h; exact h
  · rw [if_neg (fun q => q1 q.1)] at h
    refine c_eqi (w_dec (fun q1 => c_eqi (w_dec (fun q2 => w_t ?_) fun q2 => w_f ?_)) fun q1 => w_f ?_)
    · rw [if_pos ⟨q1, q2⟩] at h; exact h
    · rw [if_neg (fun q => q2 q.2)] at h; exact h
    · rw [if_neg (fun q => q1 q.1)] at h; exact h
noncomputable def dictV (inv : List (Int × Int)) : O := .dict (inv.map fun p => (p.1, V.int p.2))
theorem lookI_map {inv : List (Int × Int)} {x : Int} : lookI x (inv.map fun p => (p.1, V.int p.2)) = (lookI x inv).map V.int := by
  induction inv with
  | nil => rfl
  | cons p r ih =>
    obtain ⟨a, b⟩ := p
    simp only [List.map_cons, lookI, ih]
    split <;> rfl
noncomputable def oppF (inv : List (Int × Int)) (a b : Int) : Bool := decide ((lookI a inv).getD (-1) = b) || decide ((lookI b inv).getD (-1) = a)
theorem opposite_ok {n i : Nat} {inv : List (Int × Int)} {a b : Int} {H : Hp} {Q : PV} (hi : H[i]? = some (dictV inv)) (h : Q (.bool (oppF inv a b)) H) : CN FT (n + 1) 95 [.ref i, .int a, .int b] H Q := by
  refine CN_step rfl rfl ?_
  have e : ∀ x : Int, ((lookI x (inv.map fun p => (p.1, V.int p.2))).getD (V.int (-1))) = V.int ((lookI x inv).getD (-1)) := fun x => by
    rw [lookI_map]; cases lookI x inv <;> rfl
  dsimp only [fn_are_opposite, wZ_nil, wZ_cons, wS_asg, wS_asgC, wS_asgT, wS_asgA, wS_asgI, wS_aug, wS_augA, wS_for, wS_forT, wS_while, wS_if, wS_ret, wS_expr, wS_brk, wE_cint, wE_cneg, wE_cstr, wE_cbool, wE_cnone, wE_var, wE_bin, wE_cmp, wE_or2, wE_ite, wE_tup, wE_lst, wE_dctI, wE_dctS, wE_sub, wE_slTo, wE_slFrom, wE_attr, wE_call, wE_new, wE_meth, wE_bcall, wE_bmeth, wE_comp, wE_compIf, wE_comp2, wL_nil, wL_cons, wT_not, wT_tand, wT_tor, wT_cmp, wT_var, wT_bin, wT_sub, wT_call, wA_nil, wA_cons, wO_nil, wO_cons, onSome, onInt, onRef, onInst, List.zip_cons_cons, List.zip_nil_right, look_c, Nat.reduceBEq, cond_true, cond_false]
  unfold oppF at h
  refine ⟨h_get hi, m_get hi ?_⟩
  rw [e]
  refine c_eqi (t_b (w_bool (fun q => ?_) fun q => ?_))
  · rw [q] at h ⊢; exact h
  · rw [q, Bool.false_or] at h
    refine ⟨h_get hi, m_get hi ?_⟩
    rw [e]
    exact c_eqi h

noncomputable def paramV (k : Nat) (t : Int) : V := if k = 7 then .int t else if k = 8 then .tup [.str 11, .int t] else .none
noncomputable def cellV (k : Nat) (ins : List Int) (t : Int) : V := .tup [.str k, .int 90, .tup (ins.map V.int), paramV k t]
noncomputable def startF (k : Nat) (ins : List Int) (t : Int) (inv : List (Int × Int)) : Nat × List Int × V :=
  if k = 7 then tForm t ins else if k = 8 then lForm t ins
  else if k = 6 then ((selF (ins.getD 0 0) (ins.getD 1 0) (ins.getD 2 0)).1, (selF (ins.getD 0 0) (ins.getD 1 0) (ins.getD 2 0)).2, .none)
  else if ins.length = 2 then ((gateF k (ins.getD 0 0) (ins.getD 1 0) (oppF inv (ins.getD 0 0) (ins.getD 1 0))).1, (gateF k (ins.getD 0 0) (ins.getD 1 0) (oppF inv (ins.getD 0 0) (ins.getD 1 0))).2, .none)
  else (k, ins, .none)
noncomputable def endF (inv : List (Int × Int)) (f : Nat × List Int × V) : Nat × List Int × V :=
  if f.1 = 9 then (if f.2.1.getD 0 0 = 0 ∨ f.2.1.getD 0 0 = 1 then (10, [1 - f.2.1.getD 0 0], .none)
    else match lookI (f.2.1.getD 0 0) inv with
      | some y => (10, [y], .none)
      | none => f)
  else f
noncomputable def simpF (k : Nat) (ins : List Int) (t : Int) (inv : List (Int × Int)) : Nat × List Int × V := endF inv (startF k ins t inv)

noncomputable def sfEnd : Ss :=
  (.cons (.if_ (.cmp .Eq (.var 40) (.cstr 9)) (.cons (.if_ (.tor (.cons (.cmp .Eq (.sub (.var 43) (.cint 0)) (.cint 0)) (.cons (.cmp .Eq (.sub (.var 43) (.cint 0)) (.cint 1)) .nil))) (.cons (.ret (.tup (.cons (.cstr 10) (.cons (.tup (.cons (.bin .Sub (.cint 1) (.sub (.var 43) (.cint 0))) .nil)) (.cons .cnone .nil)))))
    .nil) .nil)
    (.cons (.if_ (.cmp .In (.sub (.var 43) (.cint 0)) (.var 46)) (.cons (.ret (.tup (.cons (.cstr 10) (.cons (.tup (.cons (.sub (.var 46) (.sub (.var 43) (.cint 0))) .nil)) (.cons .cnone .nil)))))
    .nil) .nil)
    .nil)) .nil)
    (.cons (.ret (.tup (.cons (.var 40) (.cons (.var 43) (.cons (.var 47) .nil)))))
    .nil))
/-- the end of simple_form -/
theorem end_ok {C : CallT} {i : Nat} {inv : List (Int × Int)} {f : Nat × List Int × V} {ρ : Rho} {H : Hp} {Q : PV} (hi : H[i]? = some (dictV inv)) (hf : f.1 = 9 → f.2.1 ≠ []) (e1 : look 40 ρ = some (.str f.1)) (e2 : look 43 ρ = some (.tup (f.2.1.map V.int))) (e3 : look 47 ρ = some f.2.2) (e4 : look 46 ρ = some (.ref i))
    (h : Q (formV (endF inv f)) H) :
    Ss.wp C sfEnd ρ H fun fl _ H' => (match fl with
          | .ret d => Q d H'
          | .next => Q .none H'
          | .brk => False) := by
  obtain ⟨k, ins, p⟩ := f
  replace e1 : look 40 ρ = some (.str k) := e1
  replace e2 : look 43 ρ = some (.tup (ins.map V.int)) := e2
  replace e3 : look 47 ρ = some p := e3
  dsimp only [sfEnd, wZ_nil, wZ_cons, wS_asg, wS_asgC, wS_asgT, wS_asgA, wS_asgI, wS_aug, wS_augA, wS_for, wS_forT, wS_while, wS_if, wS_ret, wS_expr, wS_brk, wE_cint, wE_cneg, wE_cstr, wE_cbool, wE_cnone, wE_var, wE_bin, wE_cmp, wE_or2, wE_ite, wE_tup, wE_lst, wE_dctI, wE_dctS, wE_sub, wE_slTo, wE_slFrom, wE_attr, wE_call, wE_new, wE_meth, wE_bcall, wE_bmeth, wE_comp, wE_compIf, wE_comp2, wL_nil, wL_cons, wT_not, wT_tand, wT_tor, wT_cmp, wT_var, wT_bin, wT_sub, wT_call, wA_nil, wA_cons, wO_nil, wO_cons, onSome, onInt, onRef, onInst, List.zip_cons_cons, List.zip_nil_right, look_c, Nat.reduceBEq, cond_true, cond_false]
  unfold endF at h
  refine w_look e1 (c_eqs (w_dec (fun h9 => ?_) fun h9 => ?_))
  · rw [if_pos h9] at h
    cases ins with
    | nil => exact absurd rfl (hf h9)
    | cons x r =>
      refine w_look e2 (s_t0 (c_eqi (w_dec (fun q => w_t ?_) fun q1 => w_look e2 (s_t0 (c_eqi (w_dec (fun q => w_t ?_) fun q2 => w_f ?_))))))
      · rw [if_pos (.inl q)] at h; exact w_look e2 (s_t0 (b_sub h))
      · rw [if_pos (.inr q)] at h; exact w_look e2 (s_t0 (b_sub h))
      · rw [if_neg (fun q => q.elim q1 q2)] at h
        refine w_look e2 (s_t0 (w_look e4 (c_inD hi (w_bool (fun q => ?_) fun q => ?_))))
        · rw [lookI_map] at q
          cases hl : lookI x inv with
          | none => rw [hl] at q; cases q
          | some y =>
            have h' : Q (.tup [.str 10, .tup [.int y], .none]) H := by
              have e5 : lookI ((k, x :: r, p).2.1.getD 0 0) inv = some y := hl
              rw [e5] at h; exact h
            exact w_look e4 (w_look e2 (s_t0 (s_d hi (by rw [lookI_map, hl]; rfl) h')))
        · rw [lookI_map] at q
          cases hl : lookI x inv with
          | some y => rw [hl] at q; cases q
          | none =>
            have e5 : lookI ((k, x :: r, p).2.1.getD 0 0) inv = none := hl
            rw [e5] at h
            exact w_look e1 (w_look e2 (w_look e3 h))
  · rw [if_neg h9] at h
    exact w_look e1 (w_look e2 (w_look e3 h))

structure CellOk (k : Nat) (ins : List Int) (t : Int) : Prop where
  k10 : k ≤ 10
  t0 : 0 ≤ t
  len : ins.length ≤ 3
  gate : k ≤ 5 → ins.length = 2
  mux : k = 6 → ins.length = 3
  one : k = 9 ∨ k = 10 → ins.length = 1
  nets : ∀ x ∈ ins, 0 ≤ x ∧ x ≤ 6
theorem netsF_len {ks ps : List Int} : (netsF ks ps).length = ps.length := by simp [netsF]
theorem tForm_nine {t ins} (h : (tForm t ins).1 = 9) : (tForm t ins).2.1 ≠ [] := by
  unfold tForm at h ⊢
  split at h
  · cases h
  · rename_i h0
    split at h
    · rename_i h1
      rw [if_neg h0, if_pos h1]
      intro e
      have := congrArg List.length e
      rw [netsF_len, h1] at this
      cases this
    · cases h
theorem start_nine {k ins t inv} (c : CellOk k ins t) (h : (startF k ins t inv).1 = 9) : (startF k ins t inv).2.1 ≠ [] := by
  unfold startF at h ⊢
  by_cases h7 : k = 7
  · rw [if_pos h7] at h ⊢; exact tForm_nine h
  rw [if_neg h7] at h ⊢
  by_cases h8 : k = 8
  · rw [if_pos h8] at h ⊢
    unfold lForm at h ⊢
    split at h
    · cases h
    · rename_i q; rw [if_neg q]; exact tForm_nine h
  rw [if_neg h8] at h ⊢
  by_cases h6 : k = 6
  · rw [if_pos h6] at h ⊢
    generalize ins.getD 0 0 = a, ins.getD 1 0 = b, ins.getD 2 0 = c at h ⊢
    unfold selF at h ⊢
    (repeat' split) <;> simp
  rw [if_neg h6] at h ⊢
  by_cases h2 : ins.length = 2
  · rw [if_pos h2] at h ⊢
    generalize ins.getD 0 0 = a, ins.getD 1 0 = b at h ⊢
    generalize oppF inv a b = o at h ⊢
    show (gateF k a b o).2 ≠ []
    have ht : ∀ f : Nat × List Int, f.2 ≠ [] → (turnF f).2 ≠ [] := fun f hf => by
      unfold turnF
      (repeat' split) <;> simp [hf]
    unfold gateF
    (repeat' split) <;> first | exact andF_ne | exact orF_ne | exact xorF_ne | exact ht _ andF_ne | exact ht _ orF_ne | exact ht _ xorF_ne
  · rw [if_neg h2] at h ⊢
    have := c.one (.inl h)
    intro e
    have e' : ins = [] := e
    rw [e'] at this
    cases this
theorem len3 {l : List Int} (h : l.length = 3) : ∃ a b c, l = [a, b, c] := by
  match l, h with
  | [a, b, c], _ => exact ⟨a, b, c, rfl⟩
theorem len2 {l : List Int} (h : l.length = 2) : ∃ a b, l = [a, b] := by
  match l, h with
  | [a, b], _ => exact ⟨a, b, rfl⟩
theorem len1 {l : List Int} (h : l.length = 1) : ∃ a, l = [a] := by
  match l, h with
  | [a], _ => exact ⟨a, rfl⟩
noncomputable def sfIf : S := (.if_ (.cmp .Eq (.var 40) (.cstr 7)) (.cons (.asgT [40, 43, 47] (.call 94 (.cons (.sub (.var 8) (.cint 3)) (.cons (.var 43) .nil))))
    .nil) (.cons (.if_ (.cmp .Eq (.var 40) (.cstr 8)) (.cons (.asgT [40, 43, 47] (.call 96 (.cons (.var 43) (.cons (.sub (.var 8) (.cint 3)) .nil))))
    .nil) (.cons (.if_ (.cmp .Eq (.var 40) (.cstr 6)) (.cons (.asgT [40, 43] (.call 91 (.cons (.sub (.var 43) (.cint 0)) (.cons (.sub (.var 43) (.cint 1)) (.cons (.sub (.var 43) (.cint 2)) .nil)))))
    .nil) (.cons (.if_ (.cmp .Eq (.bcall .len (.cons (.var 43) .nil)) (.cint 2)) (.cons (.asgT [40, 43] (.call 90 (.cons (.var 40) (.cons (.sub (.var 43) (.cint 0)) (.cons (.sub (.var 43) (.cint 1)) (.cons (.call 95 (.cons (.var 46) (.cons (.sub (.var 43) (.cint 0)) (.cons (.sub (.var 43) (.cint 1)) .nil)))) .nil))))))
    .nil) .nil)
    .nil))
    .nil))
    .nil))
theorem simple_form_ok {n k i : Nat} {ins : List Int} {t : Int} {inv : List (Int × Int)} {H : Hp} {Q : PV} (c : CellOk k ins t) (hi : H[i]? = some (dictV inv))
    (h : ∀ H', Keep [] H H' → Q (formV (simpF k ins t inv)) H') : CN FT (n + 9) 97 [cellV k ins t, .tup (ins.map V.int), .ref i] H Q := by
  refine CN_step rfl rfl ?_
  have fin : ∀ (ρ : Rho) H', Keep [] H H' → look 40 ρ = some (.str (startF k ins t inv).1) → look 43 ρ = some (.tup ((startF k ins t inv).2.1.map V.int)) → look 47 ρ = some (startF k ins t inv).2.2 → look 46 ρ = some (.ref i) →
      Ss.wp (CN FT (n + 8)) sfEnd ρ H' fun fl _ H' => (match fl with
          | .ret d => Q d H'
          | .next => Q .none H'
          | .brk => False) := fun ρ H' kk e1 e2 e3 e4 => end_ok (inv := inv) (f := startF k ins t inv) (kk.at hi) (start_nine c) e1 e2 e3 e4 (h H' kk)
  have hn : ∀ x ∈ ins, 0 ≤ x := fun x hx => (c.nets x hx).1
  show Ss.wp (CN FT (n + 8)) (.cons (.asg 40 (.sub (.var 8) (.cint 0))) (.cons (.asg 47 .cnone) (.cons sfIf sfEnd))) [(8, .tup [.str k, .int 90, .tup (ins.map V.int), paramV k t]), (43, .tup (ins.map V.int)), (46, .ref i)] H _
  dsimp only [wZ_nil, wZ_cons, wS_asg, wS_asgC, wS_asgT, wS_asgA, wS_asgI, wS_aug, wS_augA, wS_for, wS_forT, wS_while, wS_if, wS_ret, wS_expr, wS_brk, wE_cint, wE_cneg, wE_cstr, wE_cbool, wE_cnone, wE_var, wE_bin, wE_cmp, wE_or2, wE_ite, wE_tup, wE_lst, wE_dctI, wE_dctS, wE_sub, wE_slTo, wE_slFrom, wE_attr, wE_call, wE_new, wE_meth, wE_bcall, wE_bmeth, wE_comp, wE_compIf, wE_comp2, wL_nil, wL_cons, wT_not, wT_tand, wT_tor, wT_cmp, wT_var, wT_bin, wT_sub, wT_call, wA_nil, wA_cons, wO_nil, wO_cons, onSome, onInt, onRef, onInst, List.zip_cons_cons, List.zip_nil_right, look_c, Nat.reduceBEq, cond_true, cond_false]
  refine s_t0 ?_
  dsimp only [sfIf, wZ_nil, wZ_cons, wS_asg, wS_asgC, wS_asgT, wS_asgA, wS_asgI, wS_aug, wS_augA, wS_for, wS_forT, wS_while, wS_if, wS_ret, wS_expr, wS_brk, wE_cint, wE_cneg, wE_cstr, wE_cbool, wE_cnone, wE_var, wE_bin, wE_cmp, wE_or2, wE_ite, wE_tup, wE_lst, wE_dctI, wE_dctS, wE_sub, wE_slTo, wE_slFrom, wE_attr, wE_call, wE_new, wE_meth, wE_bcall, wE_bmeth, wE_comp, wE_compIf, wE_comp2, wL_nil, wL_cons, wT_not, wT_tand, wT_tor, wT_cmp, wT_var, wT_bin, wT_sub, wT_call, wA_nil, wA_cons, wO_nil, wO_cons, onSome, onInt, onRef, onInst, List.zip_cons_cons, List.zip_nil_right, look_c, Nat.reduceBEq, cond_true, cond_false]
  refine c_eqs (w_dec (fun q => s_t3 ?_) fun q => c_eqs (w_dec (fun q8 => s_t3 ?_) fun q8 => c_eqs (w_dec (fun q6 => ?_) fun q6 => ?_)))
  · subst q
    refine table_form_ok c.t0 c.len hn fun H' kk => ?_
    exact fin _ H' kk rfl rfl rfl rfl
  · subst q8
    refine library_form_ok c.t0 c.len hn fun H' kk => ?_
    exact fin _ H' kk rfl rfl rfl rfl
  · have es : startF k ins t inv = _ := (if_neg q).trans ((if_neg q8).trans (if_pos q6))
    have hl := c.mux q6
    obtain ⟨a, b, d, rfl⟩ := len3 hl
    refine s_t0 (s_t1 (s_t2 (select_form_ok ?_)))
    exact fin _ H .refl (by rw [es]; rfl) (by rw [es]; rfl) (by rw [es]; rfl) rfl
  · refine f_lenT (by rw [List.length_map]; have := c.len; omega) ?_
    rw [List.length_map]
    refine c_eqi (w_dec (fun q2 => ?_) fun q2 => ?_)
    · have q2 : ins.length = 2 := by omega
      have es : startF k ins t inv = _ := (if_neg q).trans ((if_neg q8).trans ((if_neg q6).trans (if_pos q2)))
      obtain ⟨a, b, rfl⟩ := len2 q2
      refine s_t0 (s_t1 (s_t0 (s_t1 (opposite_ok hi (gate_form_ok ?_)))))
      exact fin _ H .refl (by rw [es]; rfl) (by rw [es]; rfl) (by rw [es]; rfl) rfl
    · have q2 : ¬ ins.length = 2 := by omega
      have es : startF k ins t inv = _ := (if_neg q).trans ((if_neg q8).trans ((if_neg q6).trans (if_neg q2)))
      exact fin _ H .refl (by rw [es]; rfl) (by rw [es]; rfl) (by rw [es]; rfl) rfl
end Mine

namespace Mine
open PySem PySem.W PyProof.Rows

noncomputable def lineF : List Int → Int
  | [] => 0
  | b :: r => b + 2 * lineF r
noncomputable def Bit (x : Int) : Prop := x = 0 ∨ x = 1
theorem lineF_bound : ∀ {bs : List Int}, (∀ b ∈ bs, Bit b) → 0 ≤ lineF bs ∧ lineF bs < 2 ^ bs.length
  | [], _ => by decide
  | b :: r, h => by
    obtain ⟨h1, h2⟩ := lineF_bound (bs := r) fun x hx => h x (List.mem_cons_of_mem _ hx)
    have hb := h b List.mem_cons_self
    rw [List.length_cons, Int.pow_succ]
    simp only [lineF]
    rcases hb with rfl | rfl <;> omega
theorem lineF_bit : ∀ {bs : List Int} {j : Nat}, (∀ b ∈ bs, Bit b) → j < bs.length → lineF bs / 2 ^ j % 2 = bs.getD j 0
  | [], j, _, h => by simp at h
  | b :: r, 0, h, _ => by
    have hb := h b List.mem_cons_self
    simp only [lineF]
    have : (2 : Int) ^ 0 = 1 := rfl
    rw [this]
    rcases hb with rfl | rfl <;> simp <;> omega
  | b :: r, j + 1, h, hj => by
    have ih := lineF_bit (bs := r) (j := j) (fun x hx => h x (List.mem_cons_of_mem _ hx)) (by simpa using hj)
    have hb := h b List.mem_cons_self
    have e : (2 : Int) ^ (j + 1) = 2 * 2 ^ j := by rw [Int.pow_succ, Int.mul_comm]
    rw [e, ← Int.ediv_ediv_of_nonneg (by decide)]
    have e2 : lineF (b :: r) / 2 = lineF r := by
      simp only [lineF]
      rcases hb with rfl | rfl <;> omega
    rw [e2, ih]; simp
theorem rowNum_line {bs : List Int} (h : ∀ b ∈ bs, Bit b) (hl : bs.length ≤ 3) : rowNum bs = lineF bs := by
  match bs, hl with
  | [], _ => rfl
  | [a], _ =>
    have ha := h a (by simp)
    rcases ha with rfl | rfl <;> decide
  | [a, b], _ =>
    have ha := h a (by simp)
    have hb := h b (by simp)
    rcases ha with rfl | rfl <;> rcases hb with rfl | rfl <;> decide
  | [a, b, c], _ =>
    have ha := h a (by simp)
    have hb := h b (by simp)
    have hc := h c (by simp)
    rcases ha with rfl | rfl <;> rcases hb with rfl | rfl <;> rcases hc with rfl | rfl <;> decide
/-- a sum of marked powers, bit by bit -/
theorem over_bit (table : Int) (ins kept : List Int) : ∀ (n r : Nat), r < n → (rngV n).foldl (toStep table ins kept) 0 / 2 ^ r % 2 = if table / 2 ^ (rowNum (ins.map (tBit kept r))).toNat % 2 = 0 then 0 else 1
  | 0, r, h => by omega
  | n + 1, r, h => by
    obtain ⟨h1, h2⟩ := tOver_bound table ins kept n
    have ih := over_bit table ins kept n r
    rw [rngV_succ, List.foldl_append]
    simp only [List.foldl_cons, List.foldl_nil, toStep, Int.toNat_natCast]
    generalize (rngV n).foldl (toStep table ins kept) 0 = S at h1 h2 ih ⊢
    have hp : (0 : Int) < 2 ^ r := Int.pow_pos (by decide)
    by_cases q : r = n
    · subst q
      split
      · rw [Int.ediv_eq_zero_of_lt h1 h2]; rfl
      · rw [Int.add_ediv_of_dvd_right (Int.dvd_refl _), Int.ediv_eq_zero_of_lt h1 h2, Int.ediv_self (by omega)]; rfl
    · have ih := ih (by omega)
      split
      · exact ih
      · have e : (2 : Int) ^ n = 2 ^ r * (2 * 2 ^ (n - r - 1)) := by
          rw [← Int.mul_assoc, Int.mul_comm (2 ^ r) 2, Int.mul_assoc, ← Int.pow_add, Int.mul_comm, ← Int.pow_succ]
          congr 1; omega
        rw [e, Int.add_mul_ediv_left _ _ (by omega), ← ih]
        omega
theorem comp_facts : ∀ k ∈ List.range 4, ∀ t ∈ List.range (2 ^ 2 ^ k), ∀ r ∈ List.range (2 ^ k),
    shrA t k / 2 ^ (lineF ((supp t k).map fun p => (r : Int) / 2 ^ p.toNat % 2)).toNat % 2 = (t : Int) / 2 ^ r % 2 := by decide +kernel
theorem one_facts : ∀ k ∈ List.range 4, ∀ t ∈ List.range 256, (supp t k).length = 1 → (t : Int) < 2 ^ 2 ^ k → shrA t k = 1 ∨ shrA t k = 2 := by decide +kernel
end Mine

namespace Mine
open PySem PySem.W PyProof.Rows

/-- the bits that the nets hold -/
structure Held (hv : Int → Int) (inv : List (Int × Int)) : Prop where
  zero : hv 0 = 0
  one : hv 1 = 1
  bit : ∀ x, Bit (hv x)
  inv : ∀ x y, lookI x inv = some y → hv y = 1 - hv x ∧ 0 ≤ y ∧ y ≤ 6

noncomputable def lawVal (k : Nat) (t : Int) (vs : List Int) : Int :=
  if k = 7 ∨ k = 8 then t / 2 ^ (lineF vs).toNat % 2
  else if k = 10 then vs.getD 0 0 else if k = 9 then 1 - vs.getD 0 0
  else if k = 6 then vs.getD (1 + vs.getD 0 0).toNat 0
  else if k = 0 then (if vs.sum = 2 then 1 else 0) else if k = 1 then (if 0 < vs.sum then 1 else 0) else if k = 2 then (if vs.sum = 1 then 1 else 0)
  else if k = 3 then (if vs.sum < 2 then 1 else 0) else if k = 4 then (if vs.sum = 0 then 1 else 0) else (if vs.sum = 1 then 0 else 1)
noncomputable def pT : V → Int
  | .int t => t
  | .tup [_, .int t] => t
  | _ => 0
noncomputable def fVal (f : Nat × List Int × V) (hv : Int → Int) : Int := lawVal f.1 (pT f.2.2) (f.2.1.map hv)

section
variable {hv : Int → Int} {inv : List (Int × Int)}

theorem map_bits (h : Held hv inv) {l : List Int} : ∀ b ∈ l.map hv, Bit b := fun b hb => by
  obtain ⟨x, _, rfl⟩ := List.mem_map.mp hb
  exact h.bit x
theorem getD_map {β : Type} (f : Int → β) {l : List Int} {j : Nat} {d : β} (hj : j < l.length) : (l.map f).getD j d = f (l.getD j 0) := by
  simp [List.getD_eq_getElem?_getD, hj]
theorem kept_row (h : Held hv inv) {kept : List Int} {x : Int} (hx : x = 0 ∨ x = 1 ∨ x ∈ kept) : tBit kept (lineF (kept.map hv)) x = hv x := by
  unfold tBit
  split
  · rename_i q
    rcases q with rfl | rfl
    · exact h.zero.symm
    · exact h.one.symm
  · rename_i q
    have hm : x ∈ kept := by
      rcases hx with e | e | e
      · exact absurd (.inl e) q
      · exact absurd (.inr e) q
      · exact e
    have hl := List.idxOf_lt_length_of_mem hm
    rw [lineF_bit (map_bits h) (by simpa using hl), getD_map hv hl]
    congr 1
    rw [List.getD_eq_getElem?_getD, List.getElem?_eq_getElem hl]
    simp
theorem tbl_row (h : Held hv inv) {table : Int} {ins : List Int} (ht : 0 ≤ table) (hl : ins.length ≤ 3) (hn : ∀ x ∈ ins, 0 ≤ x) :
    ∃ r : Nat, r < 2 ^ (keptF ins).length ∧ (r : Int) = lineF ((keptF ins).map hv) ∧ tOver table ins (keptF ins) / 2 ^ r % 2 = table / 2 ^ (lineF (ins.map hv)).toNat % 2 := by
  obtain ⟨b1, b2⟩ := lineF_bound (map_bits h (l := keptF ins))
  rw [List.length_map] at b2
  have e2 : ((2 ^ (keptF ins).length : Nat) : Int) = 2 ^ (keptF ins).length := by simp
  refine ⟨(lineF ((keptF ins).map hv)).toNat, by omega, Int.toNat_of_nonneg b1, ?_⟩
  unfold tOver
  rw [over_bit table ins (keptF ins) _ _ (by omega), Int.toNat_of_nonneg b1]
  have e : ins.map (tBit (keptF ins) (lineF ((keptF ins).map hv))) = ins.map hv := by
    refine List.map_congr_left fun x hx => kept_row h ?_
    by_cases q : 1 < x
    · exact .inr (.inr ((kept_spec ins []).2.2.1 x hx q))
    · have := hn x hx; omega
  rw [e, rowNum_line (map_bits h) (by simpa using hl)]
  have hd := div_mod_pos table (lineF (ins.map hv)).toNat ht
  split <;> omega
theorem keptF_len {ins : List Int} : (keptF ins).length ≤ ins.length := by
  have := (kept_spec ins []).1
  simpa [keptF] using this
theorem tOver_lt {table : Int} {ins kept : List Int} : tOver table ins kept < 2 ^ 2 ^ kept.length := (tOver_bound table ins kept (2 ^ kept.length)).2
theorem nets_row (h : Held hv inv) {kept ps : List Int} {r : Int} (hr : r = lineF (kept.map hv)) (hps : ∀ p ∈ ps, 0 ≤ p ∧ p < kept.length) : (netsF kept ps).map hv = ps.map fun p => r / 2 ^ p.toNat % 2 := by
  unfold netsF
  rw [List.map_map]
  refine List.map_congr_left fun p hp => ?_
  have hp := hps p hp
  have hl : p.toNat < kept.length := by omega
  rw [hr, lineF_bit (map_bits h) (by simpa using hl), getD_map hv hl]
  rfl
theorem tForm_sem (h : Held hv inv) {table : Int} {ins : List Int} (ht : 0 ≤ table) (hl : ins.length ≤ 3) (hn : ∀ x ∈ ins, 0 ≤ x) : fVal (tForm table ins) hv = table / 2 ^ (lineF (ins.map hv)).toNat % 2 := by
  obtain ⟨r, hr, er, hb⟩ := tbl_row h ht hl hn
  rw [← hb]
  have hk : (keptF ins).length ≤ 3 := Nat.le_trans keptF_len hl
  have hT := tOver_small (table := table) (ins := ins) hk
  have hTl := tOver_lt (table := table) (ins := ins) (kept := keptF ins)
  unfold tForm
  generalize tOver table ins (keptF ins) = T at hT hTl hb ⊢
  generalize hkk : (keptF ins).length = k at hk hr hTl ⊢
  have hT2 : T.toNat < 2 ^ 2 ^ k := by
    have : ((2 ^ 2 ^ k : Nat) : Int) = 2 ^ 2 ^ k := by simp
    omega
  have c := comp_facts k (by simp; omega) T.toNat (by simpa using hT2) r (by simpa using hr)
  have f := supp_facts k (by simp; omega) T.toNat (by simp; omega)
  have o := one_facts k (by simp; omega) T.toNat (by simp; omega)
  have s := shr_facts k (by simp; omega) T.toNat (by simp; omega)
  rw [Int.toNat_of_nonneg hT.1] at c f o s
  have hnr := nets_row h (kept := keptF ins) (ps := supp T k) er (fun p hp => by have := f.2 p hp; omega)
  rw [← hnr] at c
  rw [← c]
  split
  · rename_i h0
    have e : supp T k = [] := List.length_eq_zero_iff.mp h0
    simp only [fVal, lawVal, e, netsF]
    simp [lineF]
    have : shrA T k % 2 = 0 ∨ shrA T k % 2 = 1 := by omega
    rcases this with q | q
    · rw [q]; exact h.zero
    · rw [q]; exact h.one
  · rename_i h0
    split
    · rename_i h1
      obtain ⟨x, hx⟩ : ∃ x, netsF (keptF ins) (supp T k) = [x] := len1 (by rw [netsF_len]; exact h1)
      have hb := h.bit x
      rcases o h1 hTl with q | q
      · rw [q, hx]
        simp [fVal, lawVal, lineF]
        rcases hb with e | e <;> rw [e] <;> decide
      · rw [q, hx]
        simp [fVal, lawVal, lineF]
        rcases hb with e | e <;> rw [e] <;> decide
    · simp [fVal, lawVal, pT]
theorem lForm_sem (h : Held hv inv) {table : Int} {ins : List Int} (ht : 0 ≤ table) (hl : ins.length ≤ 3) (hn : ∀ x ∈ ins, 0 ≤ x) : fVal (lForm table ins) hv = table / 2 ^ (lineF (ins.map hv)).toNat % 2 := by
  have ts := tForm_sem h ht hl hn
  unfold lForm
  split
  · simp [fVal, lawVal, pT]
  · rename_i q
    rw [← ts]
    unfold tForm at q ⊢
    split
    · simp [fVal, lawVal]
    · rename_i h0
      rw [if_neg h0] at q
      split
      · split <;> simp [fVal, lawVal]
      · rename_i h1
        rw [if_neg h1] at q
        exact absurd rfl q
end
end Mine

namespace Mine
open PySem PySem.W PyProof.Rows

section
variable {hv : Int → Int} {inv : List (Int × Int)}
noncomputable abbrev pVal (f : Nat × List Int) (hv : Int → Int) : Int := lawVal f.1 0 (f.2.map hv)

theorem opp_sem (h : Held hv inv) {a b : Int} (ha : 0 ≤ a) (hb : 0 ≤ b) (ho : oppF inv a b = true) : hv b = 1 - hv a := by
  unfold oppF at ho
  rcases Bool.or_eq_true_iff.mp ho with q | q
  · have q := of_decide_eq_true q
    cases e : lookI a inv with
    | none => rw [e] at q; simp at q; omega
    | some y => rw [e] at q; simp at q; subst q; exact (h.inv _ _ e).1
  · have q := of_decide_eq_true q
    cases e : lookI b inv with
    | none => rw [e] at q; simp at q; omega
    | some y =>
      rw [e] at q; simp at q; subst q
      have := (h.inv _ _ e).1
      omega
theorem and_sem (h : Held hv inv) {a b : Int} {o : Bool} (ho : o = true → hv b = 1 - hv a) : pVal (andF a b o) hv = if hv a + hv b = 2 then 1 else 0 := by
  have ba := h.bit a
  have bb := h.bit b
  have h0 := h.zero
  have h1 := h.one
  unfold andF
  split
  · rename_i q
    simp [pVal, lawVal, h0]
    rcases q with rfl | rfl | q
    · rw [h0]; rcases bb with e | e <;> omega
    · rw [h0]; rcases ba with e | e <;> omega
    · have := ho q; omega
  · split
    · rename_i q
      simp [pVal, lawVal]
      rcases q with rfl | rfl
      · rw [h1]; rcases bb with e | e <;> rw [e] <;> decide
      · rcases ba with e | e <;> rw [e] <;> decide
    · split
      · rename_i q
        subst q
        simp [pVal, lawVal, h1]
        rcases ba with e | e <;> rw [e] <;> decide
      · simp [pVal, lawVal]
theorem or_sem (h : Held hv inv) {a b : Int} {o : Bool} (ho : o = true → hv b = 1 - hv a) : pVal (orF a b o) hv = if 0 < hv a + hv b then 1 else 0 := by
  have ba := h.bit a
  have bb := h.bit b
  have h0 := h.zero
  have h1 := h.one
  unfold orF
  split
  · rename_i q
    simp [pVal, lawVal, h1]
    rcases q with rfl | rfl | q
    · rw [h1]; rcases bb with e | e <;> omega
    · rw [h1]; rcases ba with e | e <;> omega
    · have := ho q; omega
  · split
    · rename_i q
      simp [pVal, lawVal]
      rcases q with rfl | rfl
      · rw [h0]; rcases bb with e | e <;> rw [e] <;> decide
      · rcases ba with e | e <;> rw [e] <;> decide
    · split
      · rename_i q
        subst q
        simp [pVal, lawVal, h0]
        rcases ba with e | e <;> rw [e] <;> decide
      · simp [pVal, lawVal]
theorem xor_sem (h : Held hv inv) {a b : Int} {o : Bool} (ho : o = true → hv b = 1 - hv a) : pVal (xorF a b o) hv = if hv a + hv b = 1 then 1 else 0 := by
  have ba := h.bit a
  have bb := h.bit b
  have h0 := h.zero
  have h1 := h.one
  unfold xorF
  split
  · rename_i q
    subst q
    simp [pVal, lawVal, h0]
    rcases ba with e | e <;> omega
  · split
    · rename_i q
      have := ho q
      simp [pVal, lawVal, h1]
      omega
    · split
      · rename_i q
        subst q
        simp [pVal, lawVal, h0]
        rcases bb with e | e <;> rw [e] <;> decide
      · split
        · rename_i q
          subst q
          simp [pVal, lawVal, h0]
          rcases ba with e | e <;> rw [e] <;> decide
        · split
          · rename_i q
            subst q
            simp [pVal, lawVal, h1]
            rcases bb with e | e <;> rw [e] <;> decide
          · split
            · rename_i q
              subst q
              simp [pVal, lawVal, h1]
              rcases ba with e | e <;> rw [e] <;> decide
            · simp [pVal, lawVal]
/-- the shapes that a pair form has -/
inductive Sh : Nat × List Int → Prop
  | buf (x : Int) : Sh (10, [x])
  | not (x : Int) : Sh (9, [x])
  | and (x y : Int) : Sh (0, [x, y])
  | or (x y : Int) : Sh (1, [x, y])
  | xor (x y : Int) : Sh (2, [x, y])
theorem turn_sem (h : Held hv inv) {f : Nat × List Int} (hs : Sh f) : pVal (turnF f) hv = 1 - pVal f hv := by
  cases hs with
  | buf x =>
    have := h.zero
    have := h.one
    unfold turnF
    simp only [if_true]
    split
    · rename_i q
      have q : x = 0 ∨ x = 1 := q
      rcases q with rfl | rfl <;> simp [pVal, lawVal] <;> omega
    · simp [pVal, lawVal]
  | not x =>
    have := h.bit x
    simp [turnF, pVal, lawVal]; omega
  | and x y =>
    have hx := h.bit x
    have hy := h.bit y
    simp [turnF, pVal, lawVal]
    rcases hx with e | e <;> rcases hy with e' | e' <;> rw [e, e'] <;> decide
  | or x y =>
    have hx := h.bit x
    have hy := h.bit y
    simp [turnF, pVal, lawVal]
    rcases hx with e | e <;> rcases hy with e' | e' <;> rw [e, e'] <;> decide
  | xor x y =>
    have hx := h.bit x
    have hy := h.bit y
    simp [turnF, pVal, lawVal]
    rcases hx with e | e <;> rcases hy with e' | e' <;> rw [e, e'] <;> decide
theorem and_sh {a b o} : Sh (andF a b o) := by unfold andF; (repeat' split) <;> constructor
theorem or_sh {a b o} : Sh (orF a b o) := by unfold orF; (repeat' split) <;> constructor
theorem xor_sh {a b o} : Sh (xorF a b o) := by unfold xorF; (repeat' split) <;> constructor
theorem gate_sem (h : Held hv inv) {k : Nat} {a b : Int} {o : Bool} (hk : k ≤ 5) (ho : o = true → hv b = 1 - hv a) : pVal (gateF k a b o) hv = lawVal k 0 [hv a, hv b] := by
  have ha := h.bit a
  have hb := h.bit b
  unfold gateF
  rcases (by omega : k = 0 ∨ k = 1 ∨ k = 2 ∨ k = 3 ∨ k = 4 ∨ k = 5) with rfl | rfl | rfl | rfl | rfl | rfl
  · simp only [if_true]
    rw [and_sem h ho]; simp [lawVal]
  · simp only [if_true, Nat.reduceEqDiff, if_false, show ¬ (1 : Nat) = 0 from by decide]
    rw [or_sem h ho]; simp [lawVal]
  · simp only [if_true, Nat.reduceEqDiff, if_false, show ¬ (2 : Nat) = 0 from by decide]
    rw [xor_sem h ho]; simp [lawVal]
  · simp only [if_true, Nat.reduceEqDiff, if_false, show ¬ (3 : Nat) = 0 from by decide]
    rw [turn_sem h and_sh, and_sem h ho]; simp [lawVal]
    rcases ha with e | e <;> rcases hb with e' | e' <;> rw [e, e'] <;> decide
  · simp only [if_true, Nat.reduceEqDiff, if_false, show ¬ (4 : Nat) = 0 from by decide]
    rw [turn_sem h or_sh, or_sem h ho]; simp [lawVal]
    rcases ha with e | e <;> rcases hb with e' | e' <;> rw [e, e'] <;> decide
  · simp only [if_true, Nat.reduceEqDiff, if_false, show ¬ (5 : Nat) = 0 from by decide]
    rw [turn_sem h xor_sh, xor_sem h ho]; simp [lawVal]
    rcases ha with e | e <;> rcases hb with e' | e' <;> rw [e, e'] <;> decide
theorem sel_sem (h : Held hv inv) {s a b : Int} : pVal (selF s a b) hv = lawVal 6 0 [hv s, hv a, hv b] := by
  have hs := h.bit s
  have ha := h.bit a
  have hb := h.bit b
  have h0 := h.zero
  have h1 := h.one
  unfold selF
  split
  · rename_i q
    simp [pVal, lawVal]
    rcases q with rfl | rfl
    · rw [h0]; rfl
    · rcases hs with e | e <;> rw [e] <;> rfl
  · split
    · rename_i q
      subst q
      simp [pVal, lawVal, h1]
    · split
      · rename_i q
        obtain ⟨rfl, rfl⟩ := q
        simp [pVal, lawVal, h0, h1]
        rcases hs with e | e <;> rw [e] <;> rfl
      · split
        · rename_i q
          obtain ⟨rfl, rfl⟩ := q
          simp [pVal, lawVal, h0, h1]
          rcases hs with e | e <;> rw [e] <;> rfl
        · simp [pVal, lawVal]
theorem end_sem (h : Held hv inv) {f : Nat × List Int × V} (hf : f.1 = 9 → f.2.1.length = 1) : fVal (endF inv f) hv = fVal f hv := by
  obtain ⟨k, ins, p⟩ := f
  unfold endF
  split
  · rename_i h9
    have h9 : k = 9 := h9
    subst h9
    obtain ⟨x, rfl⟩ := len1 (hf rfl)
    have h0 := h.zero
    have h1 := h.one
    split
    · rename_i q
      have q : x = 0 ∨ x = 1 := q
      rcases q with rfl | rfl <;> simp [fVal, lawVal] <;> omega
    · split
      · rename_i y hy
        have hy : lookI x inv = some y := hy
        simp [fVal, lawVal]
        exact (h.inv x y hy).1
      · rfl
  · rfl
end
end Mine

namespace Mine
open PySem PySem.W PyProof.Rows

section
variable {hv : Int → Int} {inv : List (Int × Int)}
theorem start_sem (h : Held hv inv) {k : Nat} {ins : List Int} {t : Int} (c : CellOk k ins t) : fVal (startF k ins t inv) hv = lawVal k t (ins.map hv) := by
  have hn : ∀ x ∈ ins, 0 ≤ x := fun x hx => (c.nets x hx).1
  unfold startF
  by_cases h7 : k = 7
  · rw [if_pos h7, tForm_sem h c.t0 c.len hn, h7]; simp [lawVal]
  rw [if_neg h7]
  by_cases h8 : k = 8
  · rw [if_pos h8, lForm_sem h c.t0 c.len hn, h8]; simp [lawVal]
  rw [if_neg h8]
  by_cases h6 : k = 6
  · rw [if_pos h6]
    obtain ⟨s, a, b, rfl⟩ := len3 (c.mux h6)
    show pVal (selF s a b) hv = _
    rw [sel_sem h, h6]; rfl
  rw [if_neg h6]
  by_cases h2 : ins.length = 2
  · rw [if_pos h2]
    have hk : k ≤ 5 := by
      have := c.k10
      have := c.one
      omega
    obtain ⟨a, b, rfl⟩ := len2 h2
    show pVal (gateF k a b (oppF inv a b)) hv = _
    have ha := c.nets a (by simp)
    have hb := c.nets b (by simp)
    rw [gate_sem h hk (opp_sem h ha.1 hb.1)]
    simp [lawVal, h7, h8]
  · rw [if_neg h2]
    simp [fVal, lawVal, h7, h8, pT]

/-- what a form must be -/
structure FOk (m : Nat) (f : Nat × List Int × V) : Prop where
  par : f.2.2 = paramV f.1 (pT f.2.2)
  ok : CellOk f.1 f.2.1 (pT f.2.2)
  len : f.2.1.length ≤ max 1 m
noncomputable def InvOk (inv : List (Int × Int)) : Prop := ∀ x y, lookI x inv = some y → 0 ≤ y ∧ y ≤ 6

theorem ok_buf {x : Int} (h : 0 ≤ x ∧ x ≤ 6) : CellOk 10 [x] 0 := ⟨by decide, by decide, by simp, by omega, by omega, fun _ => rfl, fun y hy => by simp at hy; subst hy; exact h⟩
theorem ok_not {x : Int} (h : 0 ≤ x ∧ x ≤ 6) : CellOk 9 [x] 0 := ⟨by decide, by decide, by simp, by omega, by omega, fun _ => rfl, fun y hy => by simp at hy; subst hy; exact h⟩
theorem ok_two {k : Nat} {x y : Int} (hk : k ≤ 5) (h : 0 ≤ x ∧ x ≤ 6) (h' : 0 ≤ y ∧ y ≤ 6) : CellOk k [x, y] 0 := ⟨by omega, by decide, by simp, fun _ => rfl, by omega, by omega, fun z hz => by
  simp at hz; rcases hz with rfl | rfl
  · exact h
  · exact h'⟩
theorem fok_buf {m : Nat} {x : Int} (h : 0 ≤ x ∧ x ≤ 6) : FOk m (10, [x], .none) := ⟨rfl, ok_buf h, by simp; omega⟩
theorem fok_not {m : Nat} {x : Int} (h : 0 ≤ x ∧ x ≤ 6) : FOk m (9, [x], .none) := ⟨rfl, ok_not h, by simp; omega⟩
theorem paramV_none {k : Nat} (h7 : k ≠ 7) (h8 : k ≠ 8) {t} : paramV k t = .none := by unfold paramV; rw [if_neg h7, if_neg h8]
theorem fok_two {m k : Nat} {x y : Int} (hk : k ≤ 5) (hm : 2 ≤ m) (h : 0 ≤ x ∧ x ≤ 6) (h' : 0 ≤ y ∧ y ≤ 6) : FOk m (k, [x, y], .none) := ⟨(paramV_none (by omega) (by omega)).symm, ok_two hk h h', by simp; omega⟩
abbrev FOk2 (m : Nat) (f : Nat × List Int) : Prop := FOk m (f.1, f.2, .none)
theorem gate_fok {m k : Nat} {a b : Int} {o : Bool} (hm : 2 ≤ m) (ha : 0 ≤ a ∧ a ≤ 6) (hb : 0 ≤ b ∧ b ≤ 6) : FOk2 m (gateF k a b o) := by
  have z : (0 : Int) ≤ 0 ∧ (0 : Int) ≤ 6 := by decide
  have z1 : (0 : Int) ≤ 1 ∧ (1 : Int) ≤ 6 := by decide
  have tb : ∀ x : Int, 0 ≤ x ∧ x ≤ 6 → FOk2 m (turnF (10, [x])) := fun x hx => by
    unfold turnF
    simp only [if_true]
    split
    · rename_i q
      have q : x = 0 ∨ x = 1 := q
      exact fok_buf (by show 0 ≤ 1 - x ∧ 1 - x ≤ 6; omega)
    · exact fok_not hx
  have ta : ∀ f, f = andF a b o → FOk2 m f ∧ FOk2 m (turnF f) := fun f hf => by
    subst hf
    unfold andF
    split
    · exact ⟨fok_buf z, tb 0 z⟩
    · split
      · exact ⟨fok_buf hb, tb b hb⟩
      · split
        · exact ⟨fok_buf ha, tb a ha⟩
        · exact ⟨fok_two (k := 0) (by decide) hm ha hb, fok_two (k := 3) (by decide) hm ha hb⟩
  have to : ∀ f, f = orF a b o → FOk2 m f ∧ FOk2 m (turnF f) := fun f hf => by
    subst hf
    unfold orF
    split
    · exact ⟨fok_buf z1, tb 1 z1⟩
    · split
      · exact ⟨fok_buf hb, tb b hb⟩
      · split
        · exact ⟨fok_buf ha, tb a ha⟩
        · exact ⟨fok_two (k := 1) (by decide) hm ha hb, fok_two (k := 4) (by decide) hm ha hb⟩
  have tx : ∀ f, f = xorF a b o → FOk2 m f ∧ FOk2 m (turnF f) := fun f hf => by
    subst hf
    unfold xorF
    split
    · exact ⟨fok_buf z, tb 0 z⟩
    · split
      · exact ⟨fok_buf z1, tb 1 z1⟩
      · split
        · exact ⟨fok_buf hb, tb b hb⟩
        · split
          · exact ⟨fok_buf ha, tb a ha⟩
          · split
            · exact ⟨fok_not hb, fok_buf hb⟩
            · split
              · exact ⟨fok_not ha, fok_buf ha⟩
              · exact ⟨fok_two (k := 2) (by decide) hm ha hb, fok_two (k := 5) (by decide) hm ha hb⟩
  unfold gateF
  (repeat' split) <;> first | exact (ta _ rfl).1 | exact (ta _ rfl).2 | exact (to _ rfl).1 | exact (to _ rfl).2 | exact (tx _ rfl).1 | exact (tx _ rfl).2
theorem sel_fok {s a b : Int} (hs : 0 ≤ s ∧ s ≤ 6) (ha : 0 ≤ a ∧ a ≤ 6) (hb : 0 ≤ b ∧ b ≤ 6) : FOk2 3 (selF s a b) := by
  unfold selF
  split
  · exact fok_buf ha
  · split
    · exact fok_buf hb
    · split
      · exact fok_buf hs
      · split
        · exact fok_not hs
        · refine ⟨rfl, ⟨by show 6 ≤ 10; decide, Int.le_refl _, by show 3 ≤ 3; decide, fun h => absurd h (by show ¬ 6 ≤ 5; decide), fun _ => rfl, fun h => absurd h (by show ¬ (6 = 9 ∨ 6 = 10); decide), fun z hz => ?_⟩, by show 3 ≤ max 1 3; decide⟩
          simp at hz
          rcases hz with rfl | rfl | rfl
          · exact hs
          · exact ha
          · exact hb
theorem tForm_fok {t : Int} {ins : List Int} (hl : ins.length ≤ 3) (hn : ∀ x ∈ ins, 0 ≤ x ∧ x ≤ 6) : FOk ins.length (tForm t ins) := by
  have hk : (keptF ins).length ≤ 3 := Nat.le_trans keptF_len hl
  have hT := tOver_small (table := t) (ins := ins) hk
  have kl : (keptF ins).length ≤ ins.length := keptF_len
  have km : ∀ x ∈ keptF ins, 0 ≤ x ∧ x ≤ 6 := fun x hx => by
    rcases (kept_spec ins []).2.2.2 x hx with q | q
    · cases q
    · exact hn x q.1
  unfold tForm
  generalize tOver t ins (keptF ins) = T at hT ⊢
  have f := supp_facts (keptF ins).length (by simp; omega) T.toNat (by simp; omega)
  have s := shr_facts (keptF ins).length (by simp; omega) T.toNat (by simp; omega)
  rw [Int.toNat_of_nonneg hT.1] at f s
  have nm : ∀ x ∈ netsF (keptF ins) (supp T (keptF ins).length), 0 ≤ x ∧ x ≤ 6 := fun x hx => by
    obtain ⟨p, hp, rfl⟩ := List.mem_map.mp hx
    have := f.2 p hp
    have hl : p.toNat < (keptF ins).length := by omega
    exact km _ (by rw [List.getD_eq_getElem?_getD, List.getElem?_eq_getElem hl]; exact List.getElem_mem hl)
  split
  · exact fok_buf (by show 0 ≤ shrA T ↑(keptF ins).length % 2 ∧ shrA T ↑(keptF ins).length % 2 ≤ 6; omega)
  · split
    · rename_i h1
      obtain ⟨x, hx⟩ := len1 (l := netsF (keptF ins) (supp T (keptF ins).length)) (by rw [netsF_len]; exact h1)
      rw [hx] at nm ⊢
      split
      · exact fok_buf (nm x (by simp))
      · exact fok_not (nm x (by simp))
    · refine ⟨rfl, ⟨by show 7 ≤ 10; decide, s.1, ?_, fun h => absurd h (by show ¬ 7 ≤ 5; decide), fun h => absurd h (by show ¬ 7 = 6; decide), fun h => absurd h (by show ¬ (7 = 9 ∨ 7 = 10); decide), nm⟩, ?_⟩
      · show (netsF _ _).length ≤ 3
        rw [netsF_len]; omega
      · show (netsF _ _).length ≤ _
        rw [netsF_len]; omega
theorem start_fok {k : Nat} {ins : List Int} {t : Int} (c : CellOk k ins t) : FOk ins.length (startF k ins t inv) := by
  unfold startF
  by_cases h7 : k = 7
  · rw [if_pos h7]; exact tForm_fok c.len c.nets
  rw [if_neg h7]
  by_cases h8 : k = 8
  · rw [if_pos h8]
    have tf := tForm_fok (t := t) c.len c.nets
    unfold lForm
    split
    · exact ⟨rfl, ⟨by show 8 ≤ 10; decide, c.t0, c.len, fun h => absurd h (by show ¬ 8 ≤ 5; decide), fun h => absurd h (by show ¬ 8 = 6; decide), fun h => absurd h (by show ¬ (8 = 9 ∨ 8 = 10); decide), c.nets⟩, by show ins.length ≤ _; omega⟩
    · rename_i q
      obtain ⟨h1, h2, h3⟩ := tf
      have q8 : (tForm t ins).1 ≠ 8 := by
        unfold tForm
        (repeat' split) <;> simp
      rw [paramV_none q q8] at h1
      refine ⟨(paramV_none q q8).symm, ?_, h3⟩
      rw [h1] at h2
      exact h2
  rw [if_neg h8]
  by_cases h6 : k = 6
  · rw [if_pos h6]
    obtain ⟨s, a, b, rfl⟩ := len3 (c.mux h6)
    exact sel_fok (c.nets s (by simp)) (c.nets a (by simp)) (c.nets b (by simp))
  rw [if_neg h6]
  by_cases h2 : ins.length = 2
  · rw [if_pos h2, h2]
    obtain ⟨a, b, rfl⟩ := len2 h2
    exact gate_fok (Nat.le_refl _) (c.nets a (by simp)) (c.nets b (by simp))
  · rw [if_neg h2]
    exact ⟨(paramV_none h7 h8).symm, ⟨c.k10, Int.le_refl _, c.len, c.gate, c.mux, c.one, c.nets⟩, by show ins.length ≤ _; omega⟩
theorem simp_fok {k : Nat} {ins : List Int} {t : Int} (hi : InvOk inv) (c : CellOk k ins t) : FOk ins.length (simpF k ins t inv) ∧ ((simpF k ins t inv).1 = 9 → (simpF k ins t inv).2.1.getD 0 0 ≠ 0 ∧ (simpF k ins t inv).2.1.getD 0 0 ≠ 1) := by
  have s := start_fok (inv := inv) c
  unfold simpF
  generalize startF k ins t inv = f at s ⊢
  unfold endF
  split
  · rename_i h9
    obtain ⟨x, hx⟩ := len1 (s.ok.one (.inl h9))
    have hn := s.ok.nets x (by rw [hx]; simp)
    have hg : f.2.1.getD 0 0 = x := by rw [hx]; rfl
    rw [hg]
    split
    · rename_i q
      exact ⟨fok_buf (by show 0 ≤ 1 - x ∧ 1 - x ≤ 6; omega), fun h => absurd h (by show ¬ 10 = 9; decide)⟩
    · rename_i q
      split
      · rename_i y hy
        exact ⟨fok_buf (hi x y hy), fun h => absurd h (by show ¬ 10 = 9; decide)⟩
      · exact ⟨s, fun _ => by rw [hg]; omega⟩
  · rename_i h9
    exact ⟨s, fun h => absurd h h9⟩
theorem simp_sem (h : Held hv inv) {k : Nat} {ins : List Int} {t : Int} (c : CellOk k ins t) : fVal (simpF k ins t inv) hv = lawVal k t (ins.map hv) := by
  rw [← start_sem h c]
  exact end_sem h fun h9 => (start_fok c).ok.one (.inl h9)
end
end Mine

namespace Mine
open PySem PySem.W PyProof.Rows

/-- the box of numbers -/
noncomputable def BoxAt (H : Hp) (i : Nat) : Prop := ∃ l : List Int, H[i]? = some (.list (l.map V.int)) ∧ l.length ≤ 1000
theorem BoxAt.lt {H i} (h : BoxAt H i) : i < H.length := let ⟨_, e, _⟩ := h; lt_of_get e
theorem BoxAt.keep {H H' i} (h : BoxAt H i) (k : Keep [] H H') : BoxAt H' i := let ⟨l, e, hl⟩ := h; ⟨l, k.at e, hl⟩
theorem c_eqE {i j : Nat} {l : List V} {H : Hp} {K : Bool → Prop} (q : H[i]? = some (.list l)) (q' : H[j]? = some (.list [])) (q2 : allInts l) (h : K l.isEmpty) : cmpW .Eq (.ref i) (.ref j) H K := .inr (.inr (.inl ⟨i, j, rfl, rfl, .inl ⟨q', w_lst q ⟨q2, h⟩⟩⟩))
theorem law_of_ok {n i : Nat} {many : Int} {H : Hp} {Q : PV} (hb : BoxAt H i) (hm : 0 < many) (h : ∀ r H', 0 ≤ r → r < many → Keep [i] H H' → BoxAt H' i → Q (.int r) H') : CN FT (n + 1) 99 [.ref i, .int many] H Q := by
  obtain ⟨l, hi, hl⟩ := hb
  refine CN_step rfl rfl ?_
  have hi' : (H ++ [O.list []])[i]? = some (.list (l.map V.int)) := (Keep.push (W := [])).at hi
  have kp : Keep [i] H (H ++ [O.list []]) := Keep.push
  dsimp only [fn_law_of, wZ_nil, wZ_cons, wS_asg, wS_asgC, wS_asgT, wS_asgA, wS_asgI, wS_aug, wS_augA, wS_for, wS_forT, wS_while, wS_if, wS_ret, wS_expr, wS_brk, wE_cint, wE_cneg, wE_cstr, wE_cbool, wE_cnone, wE_var, wE_bin, wE_cmp, wE_or2, wE_ite, wE_tup, wE_lst, wE_dctI, wE_dctS, wE_sub, wE_slTo, wE_slFrom, wE_attr, wE_call, wE_new, wE_meth, wE_bcall, wE_bmeth, wE_comp, wE_compIf, wE_comp2, wL_nil, wL_cons, wT_not, wT_tand, wT_tor, wT_cmp, wT_var, wT_bin, wT_sub, wT_call, wA_nil, wA_cons, wO_nil, wO_cons, onSome, onInt, onRef, onInst, List.zip_cons_cons, List.zip_nil_right, look_c, Nat.reduceBEq, cond_true, cond_false]
  refine c_eqE hi' get_last allInts_map (w_bool (fun he => ?_) fun he => ?_)
  · exact h 0 _ (Int.le_refl _) hm kp ⟨l, hi', hl⟩
  · obtain ⟨l', a, rfl⟩ : ∃ l' a, l = l' ++ [a] := by
      cases l with
      | nil => cases he
      | cons x r => exact ⟨(x :: r).dropLast, (x :: r).getLast (by simp), (List.dropLast_concat_getLast _).symm⟩
    have e1 : ((l' ++ [a]).map V.int).getLast? = some (.int a) := by rw [List.map_append]; exact List.getLast?_concat
    have e2 : ((l' ++ [a]).map V.int).dropLast = l'.map V.int := by rw [List.map_append]; exact List.dropLast_concat
    rw [List.length_append] at hl
    refine ⟨h_pop hi', m_pop hi' (by rw [List.length_map, List.length_append]; omega) e1 (b_mod hm ?_)⟩
    rw [e2]
    exact h _ _ (Int.emod_nonneg _ (by omega)) (Int.emod_lt_of_pos _ hm) (kp.trans (Keep.set List.mem_cons_self)) ⟨l', set_get hi', by omega⟩

noncomputable def boxTest : E := .cmp .Lt (.bcall .len (.cons (.var 49) .nil)) (.cint 70)
noncomputable def boxBody : Ss := .cons (.expr (.bmeth (.var 49) .append (.cons (.bin .Mod (.var 67) (.cint 127)) .nil)))
    (.cons (.asg 67 (.bin .FloorDiv (.var 67) (.cint 127)))
    (.cons (.if_ (.cmp .Eq (.var 67) (.cint 0)) (.cons .brk
    .nil) .nil)
    .nil))
theorem while_box {C : CallT} {K : PS} {i : Nat} :
    ∀ (m : Nat) (l : List Int) (x : Int) (ρ : Rho) (H : Hp), l.length + m = 71 → l.length ≤ 70 → look 49 ρ = some (.ref i) → look 67 ρ = some (.int x) → H[i]? = some (.list (l.map V.int)) →
      (∀ ρ' H', look 49 ρ' = some (.ref i) → Keep [i] H H' → BoxAt H' i → (∃ l' : List Int, H'[i]? = some (.list (l'.map V.int)) ∧ l'.length ≤ 70) → K .next ρ' H') → whileN (E.wt C boxTest) (Ss.wp C boxBody) m ρ H K
  | 0, l, x, ρ, H, h1, h2, _, _, _, _ => by omega
  | m + 1, l, x, ρ, H, h1, h2, e1, e2, hi, hK => by
    have ih := fun l' x' ρ' H' => while_box (C := C) (K := K) (i := i) m l' x' ρ' H'
    rw [whileN]
    generalize whileN (E.wt C boxTest) (Ss.wp C boxBody) m = W at ih ⊢
    dsimp only [boxTest, boxBody, wZ_nil, wZ_cons, wS_asg, wS_asgC, wS_asgT, wS_asgA, wS_asgI, wS_aug, wS_augA, wS_for, wS_forT, wS_while, wS_if, wS_ret, wS_expr, wS_brk, wE_cint, wE_cneg, wE_cstr, wE_cbool, wE_cnone, wE_var, wE_bin, wE_cmp, wE_or2, wE_ite, wE_tup, wE_lst, wE_dctI, wE_dctS, wE_sub, wE_slTo, wE_slFrom, wE_attr, wE_call, wE_new, wE_meth, wE_bcall, wE_bmeth, wE_comp, wE_compIf, wE_comp2, wL_nil, wL_cons, wT_not, wT_tand, wT_tor, wT_cmp, wT_var, wT_bin, wT_sub, wT_call, wA_nil, wA_cons, wO_nil, wO_cons, onSome, onInt, onRef, onInst, List.zip_cons_cons, List.zip_nil_right, look_c, Nat.reduceBEq, cond_true, cond_false]
    refine w_look e1 (f_lenL hi (by rw [List.length_map]; omega) ?_)
    rw [List.length_map]
    refine c_lt (w_dec (fun hlt => ?_) fun hlt => ?_)
    · have hs : (H.set i (.list (l.map V.int ++ [V.int (x % 127)])))[i]? = some (.list ((l ++ [x % 127]).map V.int)) := by rw [set_get hi, List.map_append]; rfl
      have hk : Keep [i] H (H.set i (.list (l.map V.int ++ [V.int (x % 127)]))) := Keep.set List.mem_cons_self
      have hz0 : (l ++ [x % 127]).length = l.length + 1 := by rw [List.length_append]; rfl
      have hz1 : (l ++ [x % 127]).length ≤ 70 := by omega
      refine w_look e1 ⟨h_app hi, w_look e2 (b_mod (by decide) (m_app hi (by rw [List.length_map]; omega) ⟨rfl, w_look e2 (b_div (by decide) (by decide) (c_eqi (w_dec (fun h0 => ?_) fun h0 => ?_)))⟩))⟩
      · exact hK _ _ (lc rfl e1) hk ⟨l ++ [x % 127], hs, Nat.le_trans hz1 (by decide)⟩ ⟨l ++ [x % 127], hs, hz1⟩
      · exact ih (l ++ [x % 127]) (x / 127) ((67, V.int (x / 127)) :: ρ) _ (by omega) hz1 (lc rfl e1) rfl hs fun ρ' H' e k b r => hK ρ' H' e (hk.trans k) b r
    · exact hK _ _ e1 .refl ⟨l, hi, by omega⟩ ⟨l, hi, h2⟩
noncomputable def boxLoop : S := .while_ boxTest boxBody
noncomputable def boxFor : Ss := (.cons (.asg 67 (.ite (.cmp .GtE (.var 8) (.cint 0)) (.bin .Mult (.cint 3) (.var 8)) (.bin .Sub (.cint 1) (.bin .Mult (.cint 3) (.var 8)))))
    (.cons boxLoop .nil))
theorem law_box_ok {n : Nat} {ns : List Int} {H : Hp} {Q : PV} (hn : ns.length ≤ 63) (h : ∀ r H', Keep [] H H' → H.length ≤ r → BoxAt H' r → Q (.ref r) H') : CN FT (n + 1) 98 [.frz ns] H Q := by
  refine CN_step rfl rfl ?_
  show Ss.wp (CN FT n) (.cons (.asg 49 (.lst .nil)) (.cons (.for_ 8 (.slTo (.var 48) 40) boxFor) (.cons (.expr (.bmeth (.var 49) .reverse .nil)) (.cons (.ret (.var 49)) .nil)))) [(48, .frz ns)] H _
  dsimp only [wZ_nil, wZ_cons, wS_asg, wS_asgC, wS_asgT, wS_asgA, wS_asgI, wS_aug, wS_augA, wS_for, wS_forT, wS_while, wS_if, wS_ret, wS_expr, wS_brk, wE_cint, wE_cneg, wE_cstr, wE_cbool, wE_cnone, wE_var, wE_bin, wE_cmp, wE_or2, wE_ite, wE_tup, wE_lst, wE_dctI, wE_dctS, wE_sub, wE_slTo, wE_slFrom, wE_attr, wE_call, wE_new, wE_meth, wE_bcall, wE_bmeth, wE_comp, wE_compIf, wE_comp2, wL_nil, wL_cons, wT_not, wT_tand, wT_tor, wT_cmp, wT_var, wT_bin, wT_sub, wT_call, wA_nil, wA_cons, wO_nil, wO_cons, onSome, onInt, onRef, onInst, List.zip_cons_cons, List.zip_nil_right, look_c, Nat.reduceBEq, cond_true, cond_false]
  refine .inr ⟨ns, rfl, ?_⟩
  have hg : ((H ++ [O.list []]) ++ [O.list ((ns.take 40).map V.int)])[(H ++ [O.list []]).length]? = some (.list ((ns.take 40).map V.int)) := get_last
  have h0 : ((H ++ [O.list []]) ++ [O.list ((ns.take 40).map V.int)])[H.length]? = some (.list (([] : List Int).map V.int)) := (Keep.push (W := [])).at get_last
  have k0 : Keep [] H ((H ++ [O.list []]) ++ [O.list ((ns.take 40).map V.int)]) := Keep.push.trans Keep.push
  have hd : (H ++ [O.list []]).length ≠ H.length := by simp
  generalize hH1 : ((H ++ [O.list []]) ++ [O.list ((ns.take 40).map V.int)]) = H₁ at hg h0 k0 ⊢
  generalize (H ++ [O.list []]).length = sl at hg hd ⊢
  refine And.intro (by omega) (i_ref hg ?_)
  refine forW_fold (σ := Unit) (vs := (ns.take 40).map V.int) (step := fun _ _ => ()) (s₀ := ())
    (fun j _ ρ H' => look 49 ρ = some (.ref H.length) ∧ Keep [H.length] H₁ H' ∧ ∃ l : List Int, H'[H.length]? = some (.list (l.map V.int)) ∧ l.length ≤ 70) ?_ ?_ ?_ ?_
  · rintro j _ ρ H' ⟨_, k, _⟩
    exact k.2 _ _ (by simpa using hd) hg
  · rintro j _ v ρ H' hj hv ⟨e1, k, l, hl, hz⟩
    have hj : j < (ns.take 40).length := by simpa using hj
    rw [int_at hj] at hv
    cases hv
    generalize (ns.take 40).getD j 0 = c
    refine ⟨_, rfl, fun K' hK => ?_⟩
    dsimp only [boxFor, wZ_nil, wZ_cons, wS_asg, wS_asgC, wS_asgT, wS_asgA, wS_asgI, wS_aug, wS_augA, wS_for, wS_forT, wS_while, wS_if, wS_ret, wS_expr, wS_brk, wE_cint, wE_cneg, wE_cstr, wE_cbool, wE_cnone, wE_var, wE_bin, wE_cmp, wE_or2, wE_ite, wE_tup, wE_lst, wE_dctI, wE_dctS, wE_sub, wE_slTo, wE_slFrom, wE_attr, wE_call, wE_new, wE_meth, wE_bcall, wE_bmeth, wE_comp, wE_compIf, wE_comp2, wL_nil, wL_cons, wT_not, wT_tand, wT_tor, wT_cmp, wT_var, wT_bin, wT_sub, wT_call, wA_nil, wA_cons, wO_nil, wO_cons, onSome, onInt, onRef, onInst, List.zip_cons_cons, List.zip_nil_right, look_c, Nat.reduceBEq, cond_true, cond_false]
    have go : ∀ (x : Int) (K'' : PS), (∀ ρ' H', look 49 ρ' = some (.ref H.length) ∧ Keep [H.length] H₁ H' ∧ (∃ l : List Int, H'[H.length]? = some (.list (l.map V.int)) ∧ l.length ≤ 70) → K'' .next ρ' H') → S.wp (CN FT n) boxLoop ((67, V.int x) :: (8, V.int c) :: ρ) H' K'' := fun x K'' hK'' => by
      unfold boxLoop
      rw [wS_while]
      exact ⟨71 - l.length, while_box (71 - l.length) l x _ _ (by omega) hz (lc rfl (lc rfl e1)) rfl hl fun ρ' H'' e k' _ r => hK'' ρ' H'' ⟨e, k.trans k', r⟩⟩
    exact c_ge (w_dec (fun hc => b_mul (.inl (by decide)) (go _ _ hK)) fun hc => b_mul (.inl (by decide)) (b_sub (go _ _ hK)))
  · exact ⟨rfl, .refl, [], h0, by simp⟩
  · rintro ρ' H' ⟨e1, k, l, hl, hz⟩
    have hs : (H'.set H.length (.list (l.map V.int).reverse))[H.length]? = some (.list (l.reverse.map V.int)) := by rw [set_get hl]; simp
    have kk : Keep [] H (H'.set H.length (.list (l.map V.int).reverse)) := by
      refine Keep.setNew ?_ (Nat.le_refl _)
      exact ⟨Nat.le_trans k0.1 k.1, fun j o _ e => k.2 j o (by have := lt_of_get e; simp; omega) (k0.at e)⟩
    exact w_look e1 ⟨h_rev hl, m_rev hl (by rw [List.length_map]; omega) ⟨rfl, w_look e1 (h _ _ kk (Nat.le_refl _) ⟨l.reverse, hs, by rw [List.length_reverse]; omega⟩)⟩⟩
end Mine

namespace Mine
open PySem PySem.W PyProof.Rows

theorem asInts_map : ∀ {l : List Int}, asInts (l.map V.int) = some l
  | [] => rfl
  | x :: r => by simp [asInts, asInts_map (l := r)]
noncomputable def termF (vs : List Int) (j : Int) : Int := vs.getD j.toNat 0 * 2 ^ j.toNat
theorem line_sum {vs : List Int} (h : vs.length ≤ 3) : ((List.range vs.length).map fun (j : Nat) => termF vs j).sum = lineF vs := by
  match vs, h with
  | [], _ => rfl
  | [a], _ => simp [List.range, List.range.loop, termF, lineF]
  | [a, b], _ => simp [List.range, List.range.loop, termF, lineF]; omega
  | [a, b, c], _ => simp [List.range, List.range.loop, termF, lineF]; omega
theorem lineF_lt {vs : List Int} (hb : ∀ b ∈ vs, Bit b) (h : vs.length ≤ 3) : 0 ≤ lineF vs ∧ lineF vs < 8 := by
  obtain ⟨h1, h2⟩ := lineF_bound hb
  refine ⟨h1, ?_⟩
  rcases (by omega : vs.length = 0 ∨ vs.length = 1 ∨ vs.length = 2 ∨ vs.length = 3) with e | e | e | e <;> rw [e] at h2 <;> omega
theorem pow_small {x : Int} (h0 : 0 ≤ x) (h : x < 8) : 0 < (2 : Int) ^ x.toNat ∧ (2 : Int) ^ x.toNat < 2 ^ 62 := by
  rcases (by omega : x = 0 ∨ x = 1 ∨ x = 2 ∨ x = 3 ∨ x = 4 ∨ x = 5 ∨ x = 6 ∨ x = 7) with rfl | rfl | rfl | rfl | rfl | rfl | rfl | rfl <;> decide
structure ValOk (k : Nat) (t : Int) (vs : List Int) : Prop where
  k10 : k ≤ 10
  t0 : 0 ≤ t
  len : vs.length ≤ 3
  gate : k ≤ 5 → vs.length = 2
  mux : k = 6 → vs.length = 3
  one : k = 9 ∨ k = 10 → vs.length = 1
  bit : ∀ b ∈ vs, Bit b
noncomputable abbrev retK (Q : PV) : PS := fun fl _ H' => (match fl with
          | .ret d => Q d H'
          | .next => Q .none H'
          | .brk => False)
noncomputable def lvTab : Ss := (.cons (.asg 42 (.ite (.cmp .Eq (.var 40) (.cstr 7)) (.var 47) (.sub (.var 47) (.cint 1))))
    (.cons (.asg 57 (.bcall .sum (.cons (.comp (.bin .Mult (.sub (.var 43) (.var 69)) (.bin .Pow (.cint 2) (.var 69))) 69 (.bcall .range (.cons (.bcall .len (.cons (.var 43) .nil)) .nil)) [43]) .nil)))
    (.cons (.ret (.bin .Mod (.bin .FloorDiv (.var 42) (.bin .Pow (.cint 2) (.var 57))) (.cint 2)))
    .nil)))
noncomputable def lvTab2 : Ss := (.cons (.asg 57 (.bcall .sum (.cons (.comp (.bin .Mult (.sub (.var 43) (.var 69)) (.bin .Pow (.cint 2) (.var 69))) 69 (.bcall .range (.cons (.bcall .len (.cons (.var 43) .nil)) .nil)) [43]) .nil)))
    (.cons (.ret (.bin .Mod (.bin .FloorDiv (.var 42) (.bin .Pow (.cint 2) (.var 57))) (.cint 2)))
    .nil))
noncomputable def lvEnd : Ss := (.cons (.asg 52 (.bcall .sum (.cons (.var 43) .nil)))
    (.cons (.asg 53 (.dctS [0, 1, 2, 3, 4, 5] (.cons (.cmp .Eq (.var 52) (.cint 2)) (.cons (.cmp .Gt (.var 52) (.cint 0)) (.cons (.cmp .Eq (.var 52) (.cint 1)) (.cons (.cmp .Lt (.var 52) (.cint 2)) (.cons (.cmp .Eq (.var 52) (.cint 0)) (.cons (.cmp .NotEq (.var 52) (.cint 1)) .nil))))))))
    (.cons (.ret (.ite (.sub (.var 53) (.var 40)) (.cint 1) (.cint 0)))
    .nil)))
theorem lvTab2_ok {C : CallT} {i : Nat} {t : Int} {vs : List Int} {ρ : Rho} {H : Hp} {K : PS} (t0 : 0 ≤ t) (hb : ∀ b ∈ vs, Bit b) (hl : vs.length ≤ 3) (hi : H[i]? = some (.list (vs.map V.int))) (e1 : look 42 ρ = some (.int t)) (e2 : look 43 ρ = some (.ref i))
    (h : ∀ ρ' H', Keep [] H H' → K (.ret (.int (t / 2 ^ (lineF vs).toNat % 2))) ρ' H') : Ss.wp C lvTab2 ρ H K := by
  have hL := lineF_lt hb hl
  have hp := pow_small hL.1 hL.2
  dsimp only [lvTab2, wZ_nil, wZ_cons, wS_asg, wS_asgC, wS_asgT, wS_asgA, wS_asgI, wS_aug, wS_augA, wS_for, wS_forT, wS_while, wS_if, wS_ret, wS_expr, wS_brk, wE_cint, wE_cneg, wE_cstr, wE_cbool, wE_cnone, wE_var, wE_bin, wE_cmp, wE_or2, wE_ite, wE_tup, wE_lst, wE_dctI, wE_dctS, wE_sub, wE_slTo, wE_slFrom, wE_attr, wE_call, wE_new, wE_meth, wE_bcall, wE_bmeth, wE_comp, wE_compIf, wE_comp2, wL_nil, wL_cons, wT_not, wT_tand, wT_tor, wT_cmp, wT_var, wT_bin, wT_sub, wT_call, wA_nil, wA_cons, wO_nil, wO_cons, onSome, onInt, onRef, onInst, List.zip_cons_cons, List.zip_nil_right, look_c, Nat.reduceBEq, cond_true, cond_false]
  refine w_look e2 (f_lenL hi (by rw [List.length_map]; omega) (f_rng (by omega) (by rw [List.length_map]; omega) ?_))
  rw [List.length_map, Int.toNat_natCast]
  refine And.intro (by show (rngV vs.length).length ≤ _; rw [rngV_len]; omega) ?_
  refine compW_fold (vs := rngV vs.length) (fun m H' acc => Keep [] H H' ∧ acc = ((List.range m).map fun (j : Nat) => V.int (termF vs j))) (fun _ _ _ _ => trivial) ?_ ⟨.refl, rfl⟩ ?_
  · rintro m v H' acc hm hv ⟨k₁, rfl⟩ K' hK'
    obtain ⟨hj, rfl⟩ := rngV_at hv
    have hx : Bit (vs.getD m 0) := hb _ (by rw [List.getD_eq_getElem?_getD, List.getElem?_eq_getElem hj]; exact List.getElem_mem hj)
    have hn : (vs.getD m 0).natAbs < 2 ^ 63 := by rcases hx with e | e <;> rw [e] <;> decide
    refine w_look (lk rfl e2) (s_l (k₁.at hi) (by omega) (by omega) (nth_at hj) (b_pow (by omega) (by omega) (b_mul (.inl hn) (hK' _ _ ⟨k₁, ?_⟩))))
    rw [List.range_succ, List.map_append]; rfl
  · rintro H' acc ⟨k₁, rfl⟩
    rw [rngV_len]
    have e3 : ((List.range vs.length).map fun (j : Nat) => V.int (termF vs j)) = (((List.range vs.length).map fun (j : Nat) => termF vs j)).map V.int := by rw [List.map_map]; rfl
    rw [e3]
    refine f_sum get_last asInts_map (by rw [List.length_map, List.length_map, List.length_range]; omega) ?_
    rw [line_sum hl]
    exact w_look e1 (b_pow hL.1 (by omega) (b_div hp.1 hp.2 (b_mod (by decide) (h _ _ (k₁.trans Keep.push)))))
theorem lvTab_ok {C : CallT} {k i : Nat} {t : Int} {vs : List Int} {ρ : Rho} {H : Hp} {K : PS} (h78 : k = 7 ∨ k = 8) (t0 : 0 ≤ t) (hb : ∀ b ∈ vs, Bit b) (hl : vs.length ≤ 3) (hi : H[i]? = some (.list (vs.map V.int))) (e0 : look 40 ρ = some (.str k)) (e1 : look 47 ρ = some (paramV k t)) (e2 : look 43 ρ = some (.ref i))
    (h : ∀ ρ' H', Keep [] H H' → K (.ret (.int (t / 2 ^ (lineF vs).toNat % 2))) ρ' H') : Ss.wp C lvTab ρ H K := by
  show Ss.wp C (.cons (.asg 42 (.ite (.cmp .Eq (.var 40) (.cstr 7)) (.var 47) (.sub (.var 47) (.cint 1)))) lvTab2) ρ H K
  dsimp only [wZ_nil, wZ_cons, wS_asg, wS_asgC, wS_asgT, wS_asgA, wS_asgI, wS_aug, wS_augA, wS_for, wS_forT, wS_while, wS_if, wS_ret, wS_expr, wS_brk, wE_cint, wE_cneg, wE_cstr, wE_cbool, wE_cnone, wE_var, wE_bin, wE_cmp, wE_or2, wE_ite, wE_tup, wE_lst, wE_dctI, wE_dctS, wE_sub, wE_slTo, wE_slFrom, wE_attr, wE_call, wE_new, wE_meth, wE_bcall, wE_bmeth, wE_comp, wE_compIf, wE_comp2, wL_nil, wL_cons, wT_not, wT_tand, wT_tor, wT_cmp, wT_var, wT_bin, wT_sub, wT_call, wA_nil, wA_cons, wO_nil, wO_cons, onSome, onInt, onRef, onInst, List.zip_cons_cons, List.zip_nil_right, look_c, Nat.reduceBEq, cond_true, cond_false]
  refine w_look e0 (c_eqs (w_dec (fun q => ?_) fun q => ?_))
  · subst q
    exact w_look e1 (lvTab2_ok t0 hb hl hi (by rw [look_cons, if_pos rfl]; rfl) (by rw [look_cons, if_neg (by decide)]; exact e2) h)
  · have q8 : k = 8 := h78.resolve_left q
    subst q8
    exact w_look e1 (s_t1 (lvTab2_ok t0 hb hl hi (by rw [look_cons, if_pos rfl]) (by rw [look_cons, if_neg (by decide)]; exact e2) h))
theorem lvEnd_ok {C : CallT} {k i : Nat} {t : Int} {vs : List Int} {ρ : Rho} {H : Hp} {Q : PV} (hk : k ≤ 5) (hl : vs.length = 2) (hi : H[i]? = some (.list (vs.map V.int))) (e0 : look 40 ρ = some (.str k)) (e2 : look 43 ρ = some (.ref i))
    (h : ∀ H', Keep [] H H' → Q (.int (lawVal k t vs)) H') : Ss.wp C lvEnd ρ H (retK Q) := by
  dsimp only [lvEnd, wZ_nil, wZ_cons, wS_asg, wS_asgC, wS_asgT, wS_asgA, wS_asgI, wS_aug, wS_augA, wS_for, wS_forT, wS_while, wS_if, wS_ret, wS_expr, wS_brk, wE_cint, wE_cneg, wE_cstr, wE_cbool, wE_cnone, wE_var, wE_bin, wE_cmp, wE_or2, wE_ite, wE_tup, wE_lst, wE_dctI, wE_dctS, wE_sub, wE_slTo, wE_slFrom, wE_attr, wE_call, wE_new, wE_meth, wE_bcall, wE_bmeth, wE_comp, wE_compIf, wE_comp2, wL_nil, wL_cons, wT_not, wT_tand, wT_tor, wT_cmp, wT_var, wT_bin, wT_sub, wT_call, wA_nil, wA_cons, wO_nil, wO_cons, onSome, onInt, onRef, onInst, List.zip_cons_cons, List.zip_nil_right, look_c, Nat.reduceBEq, cond_true, cond_false]
  refine w_look e2 (f_sum hi asInts_map (by rw [List.length_map]; omega) (c_eqi (c_gt (c_eqi (c_lt (c_eqi (c_nei (w_look e0 ?_))))))))
  have h := h _ (Keep.push (o := .sdict ([0, 1, 2, 3, 4, 5].zip [V.bool (decide (vs.sum = 2)), V.bool (decide (0 < vs.sum)), V.bool (decide (vs.sum = 1)), V.bool (decide (vs.sum < 2)), V.bool (decide (vs.sum = 0)), V.bool (!decide (vs.sum = 1))]).reverse))
  unfold lawVal at h
  rw [if_neg (by omega), if_neg (by omega), if_neg (by omega), if_neg (by omega)] at h
  rcases (by omega : k = 0 ∨ k = 1 ∨ k = 2 ∨ k = 3 ∨ k = 4 ∨ k = 5) with rfl | rfl | rfl | rfl | rfl | rfl
  · refine s_s get_last rfl (t_b (w_dec (fun q => ?_) fun q => ?_))
    · rw [if_pos rfl, if_pos q] at h; exact h
    · rw [if_pos rfl, if_neg q] at h; exact h
  · refine s_s get_last rfl (t_b (w_dec (fun q => ?_) fun q => ?_))
    · rw [if_neg (by decide), if_pos rfl, if_pos q] at h; exact h
    · rw [if_neg (by decide), if_pos rfl, if_neg q] at h; exact h
  · refine s_s get_last rfl (t_b (w_dec (fun q => ?_) fun q => ?_))
    · rw [if_neg (by decide), if_neg (by decide), if_pos rfl, if_pos q] at h; exact h
    · rw [if_neg (by decide), if_neg (by decide), if_pos rfl, if_neg q] at h; exact h
  · refine s_s get_last rfl (t_b (w_dec (fun q => ?_) fun q => ?_))
    · rw [if_neg (by decide), if_neg (by decide), if_neg (by decide), if_pos rfl, if_pos q] at h; exact h
    · rw [if_neg (by decide), if_neg (by decide), if_neg (by decide), if_pos rfl, if_neg q] at h; exact h
  · refine s_s get_last rfl (t_b (w_dec (fun q => ?_) fun q => ?_))
    · rw [if_neg (by decide), if_neg (by decide), if_neg (by decide), if_neg (by decide), if_pos rfl, if_pos q] at h; exact h
    · rw [if_neg (by decide), if_neg (by decide), if_neg (by decide), if_neg (by decide), if_pos rfl, if_neg q] at h; exact h
  · rw [if_neg (by decide), if_neg (by decide), if_neg (by decide), if_neg (by decide), if_neg (by decide)] at h
    refine s_s get_last rfl (t_b (w_nd (fun q => ?_) fun q => ?_))
    · rw [if_pos q] at h; exact h
    · rw [if_neg q] at h; exact h
theorem nth_zero {a : Int} {r : List Int} : nth ((a :: r).map V.int) 0 = some (.int a) := rfl
theorem law_value_ok {n k i : Nat} {t : Int} {vs : List Int} {H : Hp} {Q : PV} (c : ValOk k t vs) (hi : H[i]? = some (.list (vs.map V.int))) (h : ∀ H', Keep [] H H' → Q (.int (lawVal k t vs)) H') : CN FT (n + 1) 100 [.str k, paramV k t, .ref i] H Q := by
  refine CN_step rfl rfl ?_
  show Ss.wp (CN FT n) (.cons (.if_ (.tor (.cons (.cmp .Eq (.var 40) (.cstr 7)) (.cons (.cmp .Eq (.var 40) (.cstr 8)) .nil))) lvTab .nil)
    (.cons (.if_ (.cmp .Eq (.var 40) (.cstr 10)) (.cons (.ret (.sub (.var 43) (.cint 0)))
    .nil) .nil)
    (.cons (.if_ (.cmp .Eq (.var 40) (.cstr 9)) (.cons (.ret (.bin .Sub (.cint 1) (.sub (.var 43) (.cint 0))))
    .nil) .nil)
    (.cons (.if_ (.cmp .Eq (.var 40) (.cstr 6)) (.cons (.ret (.sub (.var 43) (.bin .Add (.cint 1) (.sub (.var 43) (.cint 0)))))
    .nil) .nil) lvEnd)))) [(40, .str k), (47, paramV k t), (43, .ref i)] H (retK Q)
  dsimp only [wZ_nil, wZ_cons, wS_asg, wS_asgC, wS_asgT, wS_asgA, wS_asgI, wS_aug, wS_augA, wS_for, wS_forT, wS_while, wS_if, wS_ret, wS_expr, wS_brk, wE_cint, wE_cneg, wE_cstr, wE_cbool, wE_cnone, wE_var, wE_bin, wE_cmp, wE_or2, wE_ite, wE_tup, wE_lst, wE_dctI, wE_dctS, wE_sub, wE_slTo, wE_slFrom, wE_attr, wE_call, wE_new, wE_meth, wE_bcall, wE_bmeth, wE_comp, wE_compIf, wE_comp2, wL_nil, wL_cons, wT_not, wT_tand, wT_tor, wT_cmp, wT_var, wT_bin, wT_sub, wT_call, wA_nil, wA_cons, wO_nil, wO_cons, onSome, onInt, onRef, onInst, List.zip_cons_cons, List.zip_nil_right, look_c, Nat.reduceBEq, cond_true, cond_false]
  have hL : k = 7 ∨ k = 8 → lawVal k t vs = t / 2 ^ (lineF vs).toNat % 2 := fun h78 => by unfold lawVal; rw [if_pos h78]
  refine c_eqs (w_dec (fun q => w_t ?_) fun q7 => c_eqs (w_dec (fun q => w_t ?_) fun q8 => w_f ?_))
  · rw [hL (.inl q)] at h
    exact lvTab_ok (.inl q) c.t0 c.bit c.len hi rfl rfl rfl fun _ H' kk => h H' kk
  · rw [hL (.inr q)] at h
    exact lvTab_ok (.inr q) c.t0 c.bit c.len hi rfl rfl rfl fun _ H' kk => h H' kk
  have h78 : ¬ (k = 7 ∨ k = 8) := fun q => q.elim q7 q8
  refine c_eqs (w_dec (fun q => ?_) fun q10 => c_eqs (w_dec (fun q => ?_) fun q9 => c_eqs (w_dec (fun q => ?_) fun q6 => ?_)))
  · subst q
    obtain ⟨a, rfl⟩ := len1 (c.one (.inr rfl))
    exact s_l hi (by decide) (by decide) nth_zero (h H .refl)
  · subst q
    obtain ⟨a, rfl⟩ := len1 (c.one (.inl rfl))
    exact s_l hi (by decide) (by decide) nth_zero (b_sub (h H .refl))
  · subst q
    obtain ⟨a, b, d, rfl⟩ := len3 (c.mux rfl)
    have ha := c.bit a List.mem_cons_self
    have h := h H .refl
    refine s_l hi (by decide) (by decide) nth_zero (b_add ?_)
    rcases ha with rfl | rfl
    · exact s_l hi (by decide) (by decide) (d := .int b) rfl h
    · exact s_l hi (by decide) (by decide) (d := .int d) rfl h
  · have hk : k ≤ 5 := by have := c.k10; omega
    exact lvEnd_ok hk (c.gate hk) hi rfl rfl h
end Mine

namespace Mine
open PySem PySem.W PyProof.Rows

noncomputable def lcEnd : Ss := (.cons (.asg 47 .cnone)
    (.cons (.if_ (.cmp .Eq (.var 40) (.cstr 7)) (.cons (.asg 47 (.var 42))
    .nil) .nil)
    (.cons (.if_ (.cmp .Eq (.var 40) (.cstr 8)) (.cons (.asg 47 (.tup (.cons (.cstr 11) (.cons (.var 42) .nil))))
    .nil) .nil)
    (.cons (.ret (.tup (.cons (.var 40) (.cons (.cint 90) (.cons (.var 43) (.cons (.var 47) .nil))))))
    .nil))))
noncomputable def lcTab : Ss := .cons (.asg 42 (.bcall .sum (.cons (.comp (.bin .Mult (.call 99 (.cons (.var 50) (.cons (.cint 2) .nil))) (.bin .Pow (.cint 2) (.var 57))) 57 (.bcall .range (.cons (.bin .Pow (.cint 2) (.var 54)) .nil)) [50]) .nil))) lcEnd
noncomputable def lcIns : Ss := .cons (.asg 43 (.bcall .tuple (.cons (.comp (.sub (.var 45) (.call 99 (.cons (.var 50) (.cons (.bcall .len (.cons (.var 45) .nil)) .nil)))) 69 (.bcall .range (.cons (.var 54) .nil)) [45, 50]) .nil))) lcTab
noncomputable def menuL : List Int := [0, 1, 2, 3, 4, 5, 6, 2, 5]

theorem lcEnd_ok {C : CallT} {k : Nat} {ins : List Int} {t : Int} {ρ : Rho} {H : Hp} {Q : PV} (e0 : look 40 ρ = some (.str k)) (e1 : look 42 ρ = some (.int t)) (e2 : look 43 ρ = some (.tup (ins.map V.int)))
    (h : Q (cellV k ins t) H) : Ss.wp C lcEnd ρ H (retK Q) := by
  dsimp only [lcEnd, wZ_nil, wZ_cons, wS_asg, wS_asgC, wS_asgT, wS_asgA, wS_asgI, wS_aug, wS_augA, wS_for, wS_forT, wS_while, wS_if, wS_ret, wS_expr, wS_brk, wE_cint, wE_cneg, wE_cstr, wE_cbool, wE_cnone, wE_var, wE_bin, wE_cmp, wE_or2, wE_ite, wE_tup, wE_lst, wE_dctI, wE_dctS, wE_sub, wE_slTo, wE_slFrom, wE_attr, wE_call, wE_new, wE_meth, wE_bcall, wE_bmeth, wE_comp, wE_compIf, wE_comp2, wL_nil, wL_cons, wT_not, wT_tand, wT_tor, wT_cmp, wT_var, wT_bin, wT_sub, wT_call, wA_nil, wA_cons, wO_nil, wO_cons, onSome, onInt, onRef, onInst, List.zip_cons_cons, List.zip_nil_right, look_c, Nat.reduceBEq, cond_true, cond_false]
  unfold cellV paramV at h
  refine w_look e0 (c_eqs (w_dec (fun q => w_look e1 (w_look e0 (c_eqs (w_dec (fun q8 => ?_) fun q8 => ?_)))) fun q => w_look e0 (c_eqs (w_dec (fun q8 => ?_) fun q8 => ?_))))
  · omega
  · rw [if_pos q] at h
    exact w_look e0 (w_look e2 h)
  · rw [if_neg q, if_pos q8] at h
    exact w_look e1 (w_look e0 (w_look e2 h))
  · rw [if_neg q, if_neg q8] at h
    exact w_look e0 (w_look e2 h)
theorem sum_nonneg : ∀ {l : List Int}, (∀ x ∈ l, 0 ≤ x) → 0 ≤ l.sum
  | [], _ => by decide
  | a :: r, h => by
    have h1 := h a List.mem_cons_self
    have h2 := sum_nonneg (l := r) fun x hx => h x (List.mem_cons_of_mem _ hx)
    rw [List.sum_cons]; omega
theorem lcTab_ok {n k i : Nat} {w : Int} {ins : List Int} {ρ : Rho} {H : Hp} {Q : PV} (hb : BoxAt H i) (w0 : 0 ≤ w) (w3 : w ≤ 3) (e0 : look 40 ρ = some (.str k)) (e1 : look 54 ρ = some (.int w)) (e2 : look 43 ρ = some (.tup (ins.map V.int))) (e3 : look 50 ρ = some (.ref i))
    (h : ∀ t H', 0 ≤ t → Keep [i] H H' → BoxAt H' i → Q (cellV k ins t) H') : Ss.wp (CN FT (n + 1)) lcTab ρ H (retK Q) := by
  unfold lcTab
  rw [wZ_cons, wS_asg]
  obtain ⟨P, hP⟩ : ∃ P : Nat, (2 : Int) ^ w.toNat = P ∧ P ≤ 8 := by
    rcases cases4 w0 w3 with rfl | rfl | rfl | rfl
    · exact ⟨1, by decide⟩
    · exact ⟨2, by decide⟩
    · exact ⟨4, by decide⟩
    · exact ⟨8, by decide⟩
  dsimp only [wE_cint, wE_cneg, wE_cstr, wE_cbool, wE_cnone, wE_var, wE_bin, wE_cmp, wE_or2, wE_ite, wE_tup, wE_lst, wE_dctI, wE_dctS, wE_sub, wE_slTo, wE_slFrom, wE_attr, wE_call, wE_new, wE_meth, wE_bcall, wE_bmeth, wE_comp, wE_compIf, wE_comp2, wL_nil, wL_cons]
  refine w_look e1 (b_pow w0 (by omega) (f_rng (by omega) (by omega) ?_))
  rw [hP.1, Int.toNat_natCast]
  refine And.intro (by show (rngV P).length ≤ _; rw [rngV_len]; omega) ?_
  refine compW_fold (vs := rngV P) (fun m H' acc => Keep [i] H H' ∧ BoxAt H' i ∧ ∃ l : List Int, acc = l.map V.int ∧ l.length = m ∧ ∀ x ∈ l, 0 ≤ x) (fun _ _ _ _ => trivial) ?_ ⟨.refl, hb, [], rfl, rfl, (fun _ h => nomatch h)⟩ ?_
  · rintro m v H' acc hm hv ⟨k₁, b₁, l, rfl, hl, hx⟩ K' hK'
    obtain ⟨hj, rfl⟩ := rngV_at hv
    dsimp only [wZ_nil, wZ_cons, wS_asg, wS_asgC, wS_asgT, wS_asgA, wS_asgI, wS_aug, wS_augA, wS_for, wS_forT, wS_while, wS_if, wS_ret, wS_expr, wS_brk, wE_cint, wE_cneg, wE_cstr, wE_cbool, wE_cnone, wE_var, wE_bin, wE_cmp, wE_or2, wE_ite, wE_tup, wE_lst, wE_dctI, wE_dctS, wE_sub, wE_slTo, wE_slFrom, wE_attr, wE_call, wE_new, wE_meth, wE_bcall, wE_bmeth, wE_comp, wE_compIf, wE_comp2, wL_nil, wL_cons, wT_not, wT_tand, wT_tor, wT_cmp, wT_var, wT_bin, wT_sub, wT_call, wA_nil, wA_cons, wO_nil, wO_cons, onSome, onInt, onRef, onInst, List.zip_cons_cons, List.zip_nil_right, look_c, Nat.reduceBEq, cond_true, cond_false]
    refine w_look (lk rfl e3) (law_of_ok b₁ (by decide) fun r H'' r0 r2 k₂ b₂ => ?_)
    have hp : (0 : Int) < 2 ^ m := Int.pow_pos (by decide)
    refine b_pow (by omega) (by omega) (b_mul (.inl (by omega)) (hK' _ _ ⟨k₁.trans k₂, b₂, l ++ [r * 2 ^ m], by rw [List.map_append]; rfl, by rw [List.length_append, hl]; rfl, ?_⟩))
    intro x hxm
    rcases List.mem_append.mp hxm with q | q
    · exact hx x q
    · rw [List.mem_singleton.mp q]; exact Int.mul_nonneg r0 (Int.le_of_lt hp)
  · rintro H' acc ⟨k₁, b₁, l, rfl, hl, hx⟩
    rw [rngV_len] at hl
    refine f_sum get_last asInts_map (by rw [List.length_map]; omega) ?_
    exact lcEnd_ok (by rw [look_cons, if_neg (by decide)]; exact e0) (by rw [look_cons, if_pos rfl]) (by rw [look_cons, if_neg (by decide)]; exact e2) (h _ _ (sum_nonneg hx) (k₁.trans Keep.push) (b₁.keep Keep.push))
theorem menu_at {r : Int} (h0 : 0 ≤ r) (h : r < 9) : ∃ x : Int, nth (menuL.map V.int) r = some (.int x) ∧ 0 ≤ x ∧ x ≤ 6 := by
  rcases (by omega : r = 0 ∨ r = 1 ∨ r = 2 ∨ r = 3 ∨ r = 4 ∨ r = 5 ∨ r = 6 ∨ r = 7 ∨ r = 8) with rfl | rfl | rfl | rfl | rfl | rfl | rfl | rfl | rfl
  all_goals exact ⟨_, rfl, by decide, by decide⟩
theorem lcIns_ok {n k i j : Nat} {w : Int} {ρ : Rho} {H : Hp} {Q : PV} (hb : BoxAt H i) (hj : H[j]? = some (.list (menuL.map V.int))) (hij : j ≠ i) (w0 : 0 ≤ w) (w3 : w ≤ 3) (e0 : look 40 ρ = some (.str k)) (e1 : look 54 ρ = some (.int w)) (e2 : look 45 ρ = some (.ref j)) (e3 : look 50 ρ = some (.ref i))
    (h : ∀ ins t H', (ins.length : Int) = w → (∀ x ∈ ins, 0 ≤ x ∧ x ≤ 6) → 0 ≤ t → Keep [i] H H' → BoxAt H' i → Q (cellV k ins t) H') : Ss.wp (CN FT (n + 1)) lcIns ρ H (retK Q) := by
  unfold lcIns
  rw [wZ_cons, wS_asg]
  dsimp only [wE_cint, wE_cneg, wE_cstr, wE_cbool, wE_cnone, wE_var, wE_bin, wE_cmp, wE_or2, wE_ite, wE_tup, wE_lst, wE_dctI, wE_dctS, wE_sub, wE_slTo, wE_slFrom, wE_attr, wE_call, wE_new, wE_meth, wE_bcall, wE_bmeth, wE_comp, wE_compIf, wE_comp2, wL_nil, wL_cons]
  refine w_look e1 (f_rng w0 (by omega) ?_)
  refine And.intro (by show (rngV w.toNat).length ≤ _; rw [rngV_len]; omega) ?_
  refine compW_fold (vs := rngV w.toNat) (fun m H' acc => Keep [i] H H' ∧ BoxAt H' i ∧ ∃ l : List Int, acc = l.map V.int ∧ l.length = m ∧ ∀ x ∈ l, 0 ≤ x ∧ x ≤ 6) (fun _ _ _ _ => trivial) ?_ ⟨.refl, hb, [], rfl, rfl, (fun _ h => nomatch h)⟩ ?_
  · rintro m v H' acc hm hv ⟨k₁, b₁, l, rfl, hl, hx⟩ K' hK'
    obtain ⟨_, rfl⟩ := rngV_at hv
    have hj' := k₁.2 j _ (n1 hij) hj
    dsimp only [wZ_nil, wZ_cons, wS_asg, wS_asgC, wS_asgT, wS_asgA, wS_asgI, wS_aug, wS_augA, wS_for, wS_forT, wS_while, wS_if, wS_ret, wS_expr, wS_brk, wE_cint, wE_cneg, wE_cstr, wE_cbool, wE_cnone, wE_var, wE_bin, wE_cmp, wE_or2, wE_ite, wE_tup, wE_lst, wE_dctI, wE_dctS, wE_sub, wE_slTo, wE_slFrom, wE_attr, wE_call, wE_new, wE_meth, wE_bcall, wE_bmeth, wE_comp, wE_compIf, wE_comp2, wL_nil, wL_cons, wT_not, wT_tand, wT_tor, wT_cmp, wT_var, wT_bin, wT_sub, wT_call, wA_nil, wA_cons, wO_nil, wO_cons, onSome, onInt, onRef, onInst, List.zip_cons_cons, List.zip_nil_right, look_c, Nat.reduceBEq, cond_true, cond_false]
    refine w_look (lk rfl e2) (w_look (lk rfl e3) (w_look (lk rfl e2) (f_lenL hj' (by decide) ?_)))
    show CN FT (n + 1) 99 [.ref i, .int 9] H' _
    refine law_of_ok b₁ (by decide) fun r H'' r0 r2 k₂ b₂ => ?_
    have hj2 := k₂.2 j _ (n1 hij) hj'
    obtain ⟨x, hx1, hx2⟩ := menu_at r0 r2
    refine s_l hj2 (by omega) (by omega) hx1 (hK' _ _ ⟨k₁.trans k₂, b₂, l ++ [x], by rw [List.map_append]; rfl, by rw [List.length_append, hl]; rfl, ?_⟩)
    intro y hy
    rcases List.mem_append.mp hy with q | q
    · exact hx y q
    · rw [List.mem_singleton.mp q]; exact hx2
  · rintro H' acc ⟨k₁, b₁, l, rfl, hl, hx⟩
    rw [rngV_len] at hl
    refine f_tupL get_last (by rw [List.length_map]; omega) ?_
    refine lcTab_ok (n := n) (ins := l) (w := w) (b₁.keep Keep.push) w0 w3 (by rw [look_cons, if_neg (by decide)]; exact e0) (by rw [look_cons, if_neg (by decide)]; exact e1) (by rw [look_cons, if_pos rfl]) (by rw [look_cons, if_neg (by decide)]; exact e3) fun t H'' t0 k₂ b₂ => ?_
    exact h l t H'' (by omega) hx t0 ((k₁.trans Keep.push).trans k₂) b₂
noncomputable def lcMid : Ss := .cons (.if_ (.tor (.cons (.cmp .Eq (.var 40) (.cstr 7)) (.cons (.cmp .Eq (.var 40) (.cstr 8)) .nil))) (.cons (.asg 54 (.call 99 (.cons (.var 50) (.cons (.cint 4) .nil)))) .nil) .nil) lcIns
theorem law_cell_ok {n i j : Nat} {H : Hp} {Q : PV} (hb : BoxAt H i) (hj : H[j]? = some (.list (menuL.map V.int))) (hij : j ≠ i)
    (h : ∀ k ins t H', CellOk k ins t → Keep [i] H H' → BoxAt H' i → Q (cellV k ins t) H') : CN FT (n + 2) 101 [.ref i, .ref j] H Q := by
  refine CN_step rfl rfl ?_
  show Ss.wp (CN FT (n + 1)) (.cons (.asg 40 (.sub (.lst (.cons (.cstr 0) (.cons (.cstr 1) (.cons (.cstr 2) (.cons (.cstr 3) (.cons (.cstr 4) (.cons (.cstr 5) (.cons (.cstr 6) (.cons (.cstr 7) (.cons (.cstr 8) (.cons (.cstr 9) (.cons (.cstr 10) .nil)))))))))))) (.call 99 (.cons (.var 50) (.cons (.cint 11) .nil)))))
    (.cons (.asg 54 (.cint 2))
    (.cons (.if_ (.cmp .Eq (.var 40) (.cstr 6)) (.cons (.asg 54 (.cint 3))
    .nil) .nil)
    (.cons (.if_ (.tor (.cons (.cmp .Eq (.var 40) (.cstr 9)) (.cons (.cmp .Eq (.var 40) (.cstr 10)) .nil))) (.cons (.asg 54 (.cint 1))
    .nil) .nil)
    lcMid)))) [(50, .ref i), (45, .ref j)] H (retK Q)
  dsimp only [wZ_nil, wZ_cons, wS_asg, wS_asgC, wS_asgT, wS_asgA, wS_asgI, wS_aug, wS_augA, wS_for, wS_forT, wS_while, wS_if, wS_ret, wS_expr, wS_brk, wE_cint, wE_cneg, wE_cstr, wE_cbool, wE_cnone, wE_var, wE_bin, wE_cmp, wE_or2, wE_ite, wE_tup, wE_lst, wE_dctI, wE_dctS, wE_sub, wE_slTo, wE_slFrom, wE_attr, wE_call, wE_new, wE_meth, wE_bcall, wE_bmeth, wE_comp, wE_compIf, wE_comp2, wL_nil, wL_cons, wT_not, wT_tand, wT_tor, wT_cmp, wT_var, wT_bin, wT_sub, wT_call, wA_nil, wA_cons, wO_nil, wO_cons, onSome, onInt, onRef, onInst, List.zip_cons_cons, List.zip_nil_right, look_c, Nat.reduceBEq, cond_true, cond_false]
  refine law_of_ok (hb.keep Keep.push) (by decide) fun r H₁ r0 r11 k₁ b₁ => ?_
  have hm := k₁.2 _ _ (n1 (Nat.ne_of_gt hb.lt)) (get_last (H := H) (o := .list [.str 0, .str 1, .str 2, .str 3, .str 4, .str 5, .str 6, .str 7, .str 8, .str 9, .str 10]))
  obtain ⟨k, hk, rfl⟩ : ∃ k : Nat, k ≤ 10 ∧ r = k := ⟨r.toNat, by omega, by omega⟩
  have hn : nth [.str 0, .str 1, .str 2, .str 3, .str 4, .str 5, .str 6, .str 7, .str 8, .str 9, .str 10] (k : Int) = some (.str k) := by
    rcases (by omega : k = 0 ∨ k = 1 ∨ k = 2 ∨ k = 3 ∨ k = 4 ∨ k = 5 ∨ k = 6 ∨ k = 7 ∨ k = 8 ∨ k = 9 ∨ k = 10) with rfl | rfl | rfl | rfl | rfl | rfl | rfl | rfl | rfl | rfl | rfl <;> rfl
  have kk : Keep [i] H H₁ := (Keep.push).trans k₁
  have hj₁ := kk.2 j _ (n1 hij) hj
  have go : ∀ (w : Int) (ρ : Rho) (H₂ : Hp), 0 ≤ w → w ≤ 3 → (k ≤ 5 → w = 2) → (k = 6 → w = 3) → (k = 9 ∨ k = 10 → w = 1) → Keep [i] H₁ H₂ → BoxAt H₂ i → look 40 ρ = some (.str k) → look 54 ρ = some (.int w) → look 45 ρ = some (.ref j) → look 50 ρ = some (.ref i) → Ss.wp (CN FT (n + 1)) lcIns ρ H₂ (retK Q) :=
    fun w ρ H₂ w0 w3 g5 g6 g9 k₂ b₂ e0 e1 e2 e3 => lcIns_ok b₂ (k₂.2 j _ (n1 hij) hj₁) hij w0 w3 e0 e1 e2 e3 fun ins t H' hl hx t0 k₃ b₃ =>
      h k ins t H' ⟨hk, t0, by omega, fun q => by have := g5 q; omega, fun q => by have := g6 q; omega, fun q => by have := g9 q; omega, hx⟩ ((kk.trans k₂).trans k₃) b₃
  refine s_l hm (by omega) (by omega) hn ?_
  have f : ∀ {x : Nat} {a : Nat} {ρ : Rho} {v d : V}, a ≠ x → look x ρ = some d → look x ((a, v) :: ρ) = some d := fun q e => by rw [look_cons, if_neg q]; exact e
  have tail : ∀ (w : Int) (ρ : Rho), 0 ≤ w → w ≤ 3 → (k ≤ 5 → w = 2) → (k = 6 → w = 3) → (k = 9 ∨ k = 10 → w = 1) → look 40 ρ = some (.str k) → look 54 ρ = some (.int w) → look 45 ρ = some (.ref j) → look 50 ρ = some (.ref i) →
      Ss.wp (CN FT (n + 1)) lcMid ρ H₁ (retK Q) := by
    intro w ρ w0 w3 g5 g6 g9 e0 e1 e2 e3
    dsimp only [lcMid, wZ_nil, wZ_cons, wS_asg, wS_asgC, wS_asgT, wS_asgA, wS_asgI, wS_aug, wS_augA, wS_for, wS_forT, wS_while, wS_if, wS_ret, wS_expr, wS_brk, wE_cint, wE_cneg, wE_cstr, wE_cbool, wE_cnone, wE_var, wE_bin, wE_cmp, wE_or2, wE_ite, wE_tup, wE_lst, wE_dctI, wE_dctS, wE_sub, wE_slTo, wE_slFrom, wE_attr, wE_call, wE_new, wE_meth, wE_bcall, wE_bmeth, wE_comp, wE_compIf, wE_comp2, wL_nil, wL_cons, wT_not, wT_tand, wT_tor, wT_cmp, wT_var, wT_bin, wT_sub, wT_call, wA_nil, wA_cons, wO_nil, wO_cons, onSome, onInt, onRef, onInst, List.zip_cons_cons, List.zip_nil_right, look_c, Nat.reduceBEq, cond_true, cond_false]
    have call : k = 7 ∨ k = 8 → ∀ P : PV, (∀ x H', 0 ≤ x → x ≤ 3 → Keep [i] H₁ H' → BoxAt H' i → P (.int x) H') → CN FT (n + 1) 99 [.ref i, .int 4] H₁ P := fun _ P hP =>
      law_of_ok b₁ (by decide) fun x H₂ x0 x4 k₂ b₂ => hP x H₂ x0 (by omega) k₂ b₂
    refine w_look e0 (c_eqs (w_dec (fun q => w_t (w_look e3 ?_)) fun q7 => w_look e0 (c_eqs (w_dec (fun q => w_t (w_look e3 ?_)) fun q8 => w_f ?_))))
    · exact call (.inl q) _ fun x H₂ x0 x3 k₂ b₂ => go x _ _ x0 x3 (by omega) (by omega) (by omega) k₂ b₂ (f (by decide) e0) (by rw [look_cons, if_pos rfl]) (f (by decide) e2) (f (by decide) e3)
    · exact call (.inr q) _ fun x H₂ x0 x3 k₂ b₂ => go x _ _ x0 x3 (by omega) (by omega) (by omega) k₂ b₂ (f (by decide) e0) (by rw [look_cons, if_pos rfl]) (f (by decide) e2) (f (by decide) e3)
    · exact go w ρ H₁ w0 w3 g5 g6 g9 .refl b₁ e0 e1 e2 e3
  refine c_eqs (w_dec (fun q6 => ?_) fun q6 => ?_)
  · refine c_eqs (w_dec (fun q => w_t ?_) fun q9 => c_eqs (w_dec (fun q => w_t ?_) fun q10 => w_f ?_))
    · omega
    · omega
    · exact tail 3 _ (by decide) (by decide) (by omega) (by omega) (by omega) rfl rfl rfl rfl
  · refine c_eqs (w_dec (fun q => w_t ?_) fun q9 => c_eqs (w_dec (fun q => w_t ?_) fun q10 => w_f ?_))
    · exact tail 1 _ (by decide) (by decide) (by omega) (by omega) (by omega) rfl rfl rfl rfl
    · exact tail 1 _ (by decide) (by decide) (by omega) (by omega) (by omega) rfl rfl rfl rfl
    · exact tail 2 _ (by decide) (by decide) (by omega) (by omega) (by omega) rfl rfl rfl rfl
end Mine

namespace Mine
open PySem PySem.W PyProof.Rows

theorem compIfW_fold {c : V → Hp → (Bool → Hp → Prop) → Prop} {f : V → Hp → PV → Prop} {st : Hp → Prop} {K : List V → Hp → Prop} (Inv : Nat → Hp → List V → Prop) {vs : List V} {H : Hp}
    (hst : ∀ j H acc, Inv j H acc → st H)
    (hstep : ∀ j v H acc, j < vs.length → vs[j]? = some v → Inv j H acc → ∀ K' : List V → Hp → Prop, (∀ acc' H', Inv (j + 1) H' acc' → K' acc' H') → c v H fun b H₁ => (b = true → f v H₁ fun y H' => K' (acc ++ [y]) H') ∧ (b = false → K' acc H₁))
    (h0 : Inv 0 H []) (hK : ∀ H' acc, Inv vs.length H' acc → K acc H') : compIfW c f st vs H [] K := by
  have key : ∀ (us : List V) (j : Nat) (H : Hp) (acc : List V), us = vs.drop j → j ≤ vs.length → Inv j H acc → compIfW c f st us H acc K := by
    intro us
    induction us with
    | nil =>
      intro j H acc h3 h4 hI
      have hj : j = vs.length := by
        have := congrArg List.length h3
        simp at this; omega
      subst hj
      exact ⟨hst _ H acc hI, hK H acc hI⟩
    | cons v us ih =>
      intro j H acc h3 h4 hI
      have hj : j < vs.length := by
        have := congrArg List.length h3
        simp at this; omega
      rw [List.drop_eq_getElem_cons hj] at h3
      obtain ⟨e1, e2⟩ := List.cons.inj h3
      exact ⟨hst _ H acc hI, hstep j v H acc hj (by rw [e1]; exact List.getElem?_eq_getElem hj) hI (fun acc H => compIfW c f st us H acc K) fun acc' H' hI' => ih (j + 1) H' acc' e2 hj hI'⟩
  exact key vs 0 H [] rfl (Nat.zero_le _) h0

noncomputable def pairsV (PL : List (Int × Int)) : List V := PL.map fun p => V.tup [.int p.1, .int p.2]
noncomputable def freeF (PL : List (Int × Int)) : List Int := [2, 3, 4, 5, 6].filter fun x => !decide (x ∈ PL.map (·.2))
noncomputable def PairsOk (PL : List (Int × Int)) : Prop := PL = [] ∨ PL = [(2, 5)] ∨ PL = [(3, 6)] ∨ PL = [(2, 5), (3, 6)]
theorem free_len {PL} (h : PairsOk PL) : 3 ≤ (freeF PL).length ∧ (freeF PL).length ≤ 5 := by
  rcases h with rfl | rfl | rfl | rfl <;> decide
noncomputable def st1 (PL : List (Int × Int)) (line : Int) (D : List (Int × Int)) : V → List (Int × Int)
  | .int s => ((freeF PL).getD s.toNat 0, line / 2 ^ s.toNat % 2) :: D
  | _ => D
noncomputable def st2 (D : List (Int × Int)) : V → List (Int × Int)
  | .tup [.int a, .int b] => (b, 1 - (lookI a D).getD 0) :: D
  | _ => D
noncomputable def held1 (PL : List (Int × Int)) (line : Int) : List (Int × Int) := (rngV (freeF PL).length).foldl (st1 PL line) [(1, 1), (0, 0)]
noncomputable def heldD (PL : List (Int × Int)) (line : Int) : List (Int × Int) := (pairsV PL).foldl st2 (held1 PL line)
structure HeldOk (D PL : List (Int × Int)) : Prop where
  bits : ∀ x : Int, 0 ≤ x → x ≤ 6 → ∃ b, lookI x D = some b ∧ Bit b
  zero : lookI 0 D = some 0
  one : lookI 1 D = some 1
  pairs : ∀ p ∈ PL, ∃ b, lookI p.1 D = some b ∧ lookI p.2 D = some (1 - b)
  rest : ∀ x b, lookI x D = some b → Bit b
theorem bit_mod (x : Int) : Bit (x % 2) := by unfold Bit; omega
theorem bit_not {x : Int} (h : Bit x) : Bit (1 - x) := by unfold Bit at *; omega
theorem held_all {D : List (Int × Int)} (h : ∀ p ∈ D, Bit p.2) : ∀ x b, lookI x D = some b → Bit b := by
  induction D with
  | nil => intro x b e; simp [lookI] at e
  | cons p r ih =>
    intro x b e
    obtain ⟨a, c⟩ := p
    simp only [lookI] at e
    split at e
    · cases e; exact h _ List.mem_cons_self
    · exact ih (fun p hp => h p (List.mem_cons_of_mem _ hp)) x b e
theorem held_ok {PL : List (Int × Int)} (h : PairsOk PL) (line : Int) : HeldOk (heldD PL line) PL := by
  have c7 : ∀ x : Int, 0 ≤ x → x ≤ 6 → x = 0 ∨ x = 1 ∨ x = 2 ∨ x = 3 ∨ x = 4 ∨ x = 5 ∨ x = 6 := by omega
  have go : ∀ D : List (Int × Int), (∀ p ∈ D, Bit p.2) → lookI 0 D = some 0 → lookI 1 D = some 1 → (∃ a b c d e, lookI 2 D = some a ∧ lookI 3 D = some b ∧ lookI 4 D = some c ∧ lookI 5 D = some d ∧ lookI 6 D = some e) →
      (∀ p ∈ PL, ∃ b, lookI p.1 D = some b ∧ lookI p.2 D = some (1 - b)) → HeldOk D PL := fun D hb h0 h1 ⟨a, b, c, d, e, h2, h3, h4, h5, h6⟩ hp => by
    have hr := held_all hb
    refine ⟨fun x x0 x6 => ?_, h0, h1, hp, hr⟩
    rcases c7 x x0 x6 with rfl | rfl | rfl | rfl | rfl | rfl | rfl
    · exact ⟨_, h0, hr _ _ h0⟩
    · exact ⟨_, h1, hr _ _ h1⟩
    · exact ⟨_, h2, hr _ _ h2⟩
    · exact ⟨_, h3, hr _ _ h3⟩
    · exact ⟨_, h4, hr _ _ h4⟩
    · exact ⟨_, h5, hr _ _ h5⟩
    · exact ⟨_, h6, hr _ _ h6⟩
  have b0 : Bit 0 := .inl rfl
  have b1 : Bit 1 := .inr rfl
  rcases h with rfl | rfl | rfl | rfl
  · have e : heldD [] line = [(6, line / 2 ^ 4 % 2), (5, line / 2 ^ 3 % 2), (4, line / 2 ^ 2 % 2), (3, line / 2 ^ 1 % 2), (2, line / 2 ^ 0 % 2), (1, 1), (0, 0)] := rfl
    rw [e]
    refine go _ ?_ rfl rfl ⟨_, _, _, _, _, rfl, rfl, rfl, rfl, rfl⟩ (by simp)
    intro p hp
    simp only [List.mem_cons, List.not_mem_nil, or_false] at hp
    rcases hp with rfl | rfl | rfl | rfl | rfl | rfl | rfl <;> first | exact bit_mod _ | exact b0 | exact b1
  · have e : heldD [(2, 5)] line = [(5, 1 - line / 2 ^ 0 % 2), (6, line / 2 ^ 3 % 2), (4, line / 2 ^ 2 % 2), (3, line / 2 ^ 1 % 2), (2, line / 2 ^ 0 % 2), (1, 1), (0, 0)] := rfl
    rw [e]
    refine go _ ?_ rfl rfl ⟨_, _, _, _, _, rfl, rfl, rfl, rfl, rfl⟩ ?_
    · intro p hp
      simp only [List.mem_cons, List.not_mem_nil, or_false] at hp
      rcases hp with rfl | rfl | rfl | rfl | rfl | rfl | rfl <;> first | exact bit_mod _ | exact bit_not (bit_mod _) | exact b0 | exact b1
    · intro p hp
      simp only [List.mem_cons, List.not_mem_nil, or_false] at hp
      subst hp
      exact ⟨_, rfl, rfl⟩
  · have e : heldD [(3, 6)] line = [(6, 1 - line / 2 ^ 1 % 2), (5, line / 2 ^ 3 % 2), (4, line / 2 ^ 2 % 2), (3, line / 2 ^ 1 % 2), (2, line / 2 ^ 0 % 2), (1, 1), (0, 0)] := rfl
    rw [e]
    refine go _ ?_ rfl rfl ⟨_, _, _, _, _, rfl, rfl, rfl, rfl, rfl⟩ ?_
    · intro p hp
      simp only [List.mem_cons, List.not_mem_nil, or_false] at hp
      rcases hp with rfl | rfl | rfl | rfl | rfl | rfl | rfl <;> first | exact bit_mod _ | exact bit_not (bit_mod _) | exact b0 | exact b1
    · intro p hp
      simp only [List.mem_cons, List.not_mem_nil, or_false] at hp
      subst hp
      exact ⟨_, rfl, rfl⟩
  · have e : heldD [(2, 5), (3, 6)] line = [(6, 1 - line / 2 ^ 1 % 2), (5, 1 - line / 2 ^ 0 % 2), (4, line / 2 ^ 2 % 2), (3, line / 2 ^ 1 % 2), (2, line / 2 ^ 0 % 2), (1, 1), (0, 0)] := rfl
    rw [e]
    refine go _ ?_ rfl rfl ⟨_, _, _, _, _, rfl, rfl, rfl, rfl, rfl⟩ ?_
    · intro p hp
      simp only [List.mem_cons, List.not_mem_nil, or_false] at hp
      rcases hp with rfl | rfl | rfl | rfl | rfl | rfl | rfl <;> first | exact bit_mod _ | exact bit_not (bit_mod _) | exact b0 | exact b1
    · intro p hp
      simp only [List.mem_cons, List.not_mem_nil, or_false] at hp
      rcases hp with rfl | rfl <;> exact ⟨_, rfl, rfl⟩
end Mine

namespace Mine
open PySem PySem.W PyProof.Rows

noncomputable def lsFree : S := (.asgC 56 (.compIf (.var 30) 30 (.bcall .range (.cons (.cint 2) (.cons (.cint 7) .nil))) (.cmp .NotIn (.var 30) (.comp2 (.var 73) 72 73 (.var 55) [])) [55]))
noncomputable def lsFor1 : S := (.for_ 69 (.bcall .range (.cons (.bcall .len (.cons (.var 56) .nil)) .nil)) (.cons (.asgI (.var 68) (.sub (.var 56) (.var 69)) (.bin .Mod (.bin .FloorDiv (.var 57) (.bin .Pow (.cint 2) (.var 69))) (.cint 2)))
    .nil))
noncomputable def lsFor2 : S := (.forT [72, 73] (.var 55) (.cons (.asgI (.var 68) (.var 73) (.bin .Sub (.cint 1) (.sub (.var 68) (.var 72))))
    .nil))
noncomputable def lsOld : S := (.asg 70 (.call 100 (.cons (.sub (.var 8) (.cint 0)) (.cons (.sub (.var 8) (.cint 3)) (.cons (.comp (.sub (.var 68) (.var 30)) 30 (.sub (.var 8) (.cint 2)) [68]) .nil)))))
noncomputable def lsNew : S := (.asg 71 (.call 100 (.cons (.sub (.var 39) (.cint 0)) (.cons (.sub (.var 39) (.cint 2)) (.cons (.comp (.sub (.var 68) (.var 30)) 30 (.sub (.var 39) (.cint 1)) [68]) .nil)))))
noncomputable def lsTurn : Ss := (.cons (.asg 68 (.dctI [0, 1] (.cons (.cint 0) (.cons (.cint 1) .nil)))) (.cons lsFor1 (.cons lsFor2 (.cons lsOld (.cons lsNew
    (.cons (.if_ (.cmp .NotEq (.var 70) (.var 71)) (.cons (.ret (.cbool false))
    .nil) .nil)
    .nil))))))

theorem take_snoc' {α β : Type} (f : α → β) {l : List α} {m : Nat} (hm : m < l.length) : (l.take m).map f ++ [f l[m]] = (l.take (m + 1)).map f := by
  rw [List.take_add_one, List.getElem?_eq_getElem hm, List.map_append]; rfl
theorem lsFree_ok {C : CallT} {p : Nat} {PL : List (Int × Int)} {ρ : Rho} {H : Hp} {K : PS} (hp : H[p]? = some (.list (pairsV PL))) (hz : PL.length ≤ 10) (e : look 55 ρ = some (.ref p))
    (h : ∀ H' r, Keep [] H H' → H.length ≤ r → H'[r]? = some (.list ((freeF PL).map V.int)) → K .next ((56, .ref r) :: ρ) H') : S.wp C lsFree ρ H K := by
  unfold lsFree
  dsimp only [wZ_nil, wZ_cons, wS_asg, wS_asgC, wS_asgT, wS_asgA, wS_asgI, wS_aug, wS_augA, wS_for, wS_forT, wS_while, wS_if, wS_ret, wS_expr, wS_brk, wE_cint, wE_cneg, wE_cstr, wE_cbool, wE_cnone, wE_var, wE_bin, wE_cmp, wE_or2, wE_ite, wE_tup, wE_lst, wE_dctI, wE_dctS, wE_sub, wE_slTo, wE_slFrom, wE_attr, wE_call, wE_new, wE_meth, wE_bcall, wE_bmeth, wE_comp, wE_compIf, wE_comp2, wL_nil, wL_cons, wT_not, wT_tand, wT_tor, wT_cmp, wT_var, wT_bin, wT_sub, wT_call, wA_nil, wA_cons, wO_nil, wO_cons, onSome, onInt, onRef, onInst, List.zip_cons_cons, List.zip_nil_right, look_c, Nat.reduceBEq, cond_true, cond_false]
  refine .inr (show -1000000 ≤ (2 : Int) ∧ (2 : Int) ≤ 7 ∧ (7 : Int) ≤ 1000000 ∧ _ from And.intro (by decide) (And.intro (by decide) (And.intro (by decide) (And.intro (by decide) ?_))))
  have h25 : ((List.range (7 - 2 : Int).toNat).map fun (k : Nat) => V.int (2 + (k : Int))) = ([2, 3, 4, 5, 6] : List Int).map V.int := rfl
  rw [h25]
  refine compIfW_fold (fun j H' acc => Keep [] H H' ∧ acc = (([2, 3, 4, 5, 6].take j).filter fun x => !decide (x ∈ PL.map (·.2))).map V.int) (fun _ _ _ _ => trivial) ?_ ⟨.refl, rfl⟩ ?_
  · rintro j v H' acc hj hv ⟨k₁, rfl⟩ K' hK'
    have hj : j < ([2, 3, 4, 5, 6] : List Int).length := by rw [List.length_map] at hj; exact hj
    rw [int_at hj] at hv
    cases hv
    have hp₁ := k₁.at hp
    refine w_look (lk rfl e) ⟨⟨p, rfl⟩, i_ref hp₁ (And.intro (by rw [pairsV, List.length_map]; omega) ?_)⟩
    refine compW_fold (fun m H'' acc => Keep [] H' H'' ∧ acc = ((PL.take m).map (·.2)).map V.int) (fun _ H'' _ hI => hI.1.at hp₁) ?_ ⟨.refl, rfl⟩ ?_
    · rintro m v H'' acc hm hv ⟨k₂, rfl⟩ K'' hK''
      have hm : m < PL.length := by rw [pairsV, List.length_map] at hm; exact hm
      have hv' : (pairsV PL)[m]? = some (.tup [.int PL[m].1, .int PL[m].2]) := by rw [pairsV, List.getElem?_map, List.getElem?_eq_getElem hm]; rfl
      rw [hv'] at hv
      cases hv
      refine hK'' _ _ ⟨k₂, ?_⟩
      rw [List.map_map, List.map_map]
      exact take_snoc' (V.int ∘ fun x => x.2) hm
    · rintro H'' acc ⟨k₂, rfl⟩
      have e5 : (pairsV PL).length = PL.length := by rw [pairsV, List.length_map]
      rw [e5, List.take_of_length_le (Nat.le_refl _)]
      refine c_niL get_last allInts_map ?_
      rw [any_ints]
      refine ⟨fun hb => ?_, fun hb => ?_⟩
      · refine hK' _ _ ⟨k₁.trans (k₂.trans Keep.push), ?_⟩
        have e6 : ([2, 3, 4, 5, 6] : List Int).take (j + 1) = [2, 3, 4, 5, 6].take j ++ [[2, 3, 4, 5, 6].getD j 0] := by
          rw [List.take_add_one, List.getElem?_eq_getElem hj, List.getD_eq_getElem?_getD, List.getElem?_eq_getElem hj]; rfl
        rw [e6, List.filter_append, List.map_append, List.filter_cons, if_pos hb]
        rfl
      · refine hK' _ _ ⟨k₁.trans (k₂.trans Keep.push), ?_⟩
        have e6 : ([2, 3, 4, 5, 6] : List Int).take (j + 1) = [2, 3, 4, 5, 6].take j ++ [[2, 3, 4, 5, 6].getD j 0] := by
          rw [List.take_add_one, List.getElem?_eq_getElem hj, List.getD_eq_getElem?_getD, List.getElem?_eq_getElem hj]; rfl
        rw [e6, List.filter_append, List.map_append, List.filter_cons, if_neg (by rw [hb]; decide)]
        exact (List.append_nil _).symm
  · rintro H' acc ⟨k₁, rfl⟩
    exact h _ _ (k₁.trans Keep.push) k₁.1 get_last
theorem lsFor1_ok {C : CallT} {fr d : Nat} {PL : List (Int × Int)} {line : Int} {ρ : Rho} {H : Hp} {K : PS} (hl : (freeF PL).length ≤ 5) (hf : H[fr]? = some (.list ((freeF PL).map V.int))) (hd : H[d]? = some (dictV [(1, 1), (0, 0)])) (hfd : fr ≠ d)
    (e1 : look 56 ρ = some (.ref fr)) (e2 : look 57 ρ = some (.int line)) (e3 : look 68 ρ = some (.ref d))
    (h : ∀ ρ' H', (∀ x, x ≠ 69 → look x ρ' = look x ρ) → Keep [d] H H' → H'[d]? = some (dictV (held1 PL line)) → K .next ρ' H') : S.wp C lsFor1 ρ H K := by
  unfold lsFor1
  dsimp only [wZ_nil, wZ_cons, wS_asg, wS_asgC, wS_asgT, wS_asgA, wS_asgI, wS_aug, wS_augA, wS_for, wS_forT, wS_while, wS_if, wS_ret, wS_expr, wS_brk, wE_cint, wE_cneg, wE_cstr, wE_cbool, wE_cnone, wE_var, wE_bin, wE_cmp, wE_or2, wE_ite, wE_tup, wE_lst, wE_dctI, wE_dctS, wE_sub, wE_slTo, wE_slFrom, wE_attr, wE_call, wE_new, wE_meth, wE_bcall, wE_bmeth, wE_comp, wE_compIf, wE_comp2, wL_nil, wL_cons, wT_not, wT_tand, wT_tor, wT_cmp, wT_var, wT_bin, wT_sub, wT_call, wA_nil, wA_cons, wO_nil, wO_cons, onSome, onInt, onRef, onInst, List.zip_cons_cons, List.zip_nil_right, look_c, Nat.reduceBEq, cond_true, cond_false]
  refine w_look e1 (f_lenL hf (by rw [List.length_map]; omega) (f_rng (by omega) (by rw [List.length_map]; omega) ?_))
  rw [List.length_map, Int.toNat_natCast]
  refine forW_fold (σ := List (Int × Int)) (vs := rngV (freeF PL).length) (step := st1 PL line) (s₀ := [(1, 1), (0, 0)])
    (fun j D ρ' H' => (∀ x, x ≠ 69 → look x ρ' = look x ρ) ∧ Keep [d] H H' ∧ H'[d]? = some (dictV D) ∧ D.length = j + 2) ?_ ?_ ⟨fun _ _ => rfl, .refl, hd, rfl⟩ ?_
  · exact fun _ _ _ _ _ => trivial
  · rintro j D v ρ' H' hj hv ⟨hρ, k₁, hD, hz⟩
    obtain ⟨hj, rfl⟩ := rngV_at hv
    refine ⟨_, rfl, fun K' hK => ?_⟩
    dsimp only [wZ_nil, wZ_cons, wS_asg, wS_asgC, wS_asgT, wS_asgA, wS_asgI, wS_aug, wS_augA, wS_for, wS_forT, wS_while, wS_if, wS_ret, wS_expr, wS_brk, wE_cint, wE_cneg, wE_cstr, wE_cbool, wE_cnone, wE_var, wE_bin, wE_cmp, wE_or2, wE_ite, wE_tup, wE_lst, wE_dctI, wE_dctS, wE_sub, wE_slTo, wE_slFrom, wE_attr, wE_call, wE_new, wE_meth, wE_bcall, wE_bmeth, wE_comp, wE_compIf, wE_comp2, wL_nil, wL_cons, wT_not, wT_tand, wT_tor, wT_cmp, wT_var, wT_bin, wT_sub, wT_call, wA_nil, wA_cons, wO_nil, wO_cons, onSome, onInt, onRef, onInst, List.zip_cons_cons, List.zip_nil_right, look_c, Nat.reduceBEq, cond_true, cond_false]
    have hf' := k₁.2 fr _ (n1 hfd) hf
    have hx := pow_small (x := (j : Int)) (by omega) (by omega)
    rw [Int.toNat_natCast] at hx
    refine w_look ((hρ 57 (by decide)).trans e2) (b_pow (by omega) (by omega) ?_)
    rw [Int.toNat_natCast]
    refine b_div hx.1 hx.2 (b_mod (by decide) (w_look ((hρ 68 (by decide)).trans e3) (w_look ((hρ 56 (by decide)).trans e1) (s_l hf' (by omega) (by omega) (nth_at hj) (w_dct hD ⟨by rw [List.length_map]; omega, hK _ _ ⟨fun x hx => ?_, k₁.trans (Keep.set List.mem_cons_self), set_get hD, Nat.succ_le_succ (Nat.le_of_eq hz) |> fun _ => ?_⟩⟩)))))
    · rw [look_cons, if_neg (Ne.symm hx)]; exact hρ x hx
    · show D.length + 1 = _
      omega
  · rintro ρ' H' ⟨hρ, k₁, hD, hz⟩
    exact h ρ' H' hρ k₁ hD
theorem lsFor2_ok {C : CallT} {p d : Nat} {PL D₀ : List (Int × Int)} {ρ : Rho} {H : Hp} {K : PS} (hz : PL.length ≤ 10) (hp : H[p]? = some (.list (pairsV PL))) (hd : H[d]? = some (dictV D₀)) (hD0 : D₀.length ≤ 100) (hpd : p ≠ d) (hin : ∀ q ∈ PL, (lookI q.1 D₀).isSome = true)
    (e1 : look 55 ρ = some (.ref p)) (e3 : look 68 ρ = some (.ref d))
    (h : ∀ ρ' H', (∀ x, x ≠ 72 → x ≠ 73 → look x ρ' = look x ρ) → Keep [d] H H' → H'[d]? = some (dictV ((pairsV PL).foldl st2 D₀)) → K .next ρ' H') : S.wp C lsFor2 ρ H K := by
  unfold lsFor2
  dsimp only [wZ_nil, wZ_cons, wS_asg, wS_asgC, wS_asgT, wS_asgA, wS_asgI, wS_aug, wS_augA, wS_for, wS_forT, wS_while, wS_if, wS_ret, wS_expr, wS_brk, wE_cint, wE_cneg, wE_cstr, wE_cbool, wE_cnone, wE_var, wE_bin, wE_cmp, wE_or2, wE_ite, wE_tup, wE_lst, wE_dctI, wE_dctS, wE_sub, wE_slTo, wE_slFrom, wE_attr, wE_call, wE_new, wE_meth, wE_bcall, wE_bmeth, wE_comp, wE_compIf, wE_comp2, wL_nil, wL_cons, wT_not, wT_tand, wT_tor, wT_cmp, wT_var, wT_bin, wT_sub, wT_call, wA_nil, wA_cons, wO_nil, wO_cons, onSome, onInt, onRef, onInst, List.zip_cons_cons, List.zip_nil_right, look_c, Nat.reduceBEq, cond_true, cond_false]
  refine w_look e1 ⟨⟨p, rfl⟩, i_ref hp ?_⟩
  have e5 : (pairsV PL).length = PL.length := by rw [pairsV, List.length_map]
  refine forW_fold (σ := List (Int × Int)) (step := st2) (s₀ := D₀)
    (fun j D ρ' H' => (∀ x, x ≠ 72 → x ≠ 73 → look x ρ' = look x ρ) ∧ Keep [d] H H' ∧ H'[d]? = some (dictV D) ∧ D.length ≤ 100 + j ∧ ∀ q ∈ PL, (lookI q.1 D).isSome = true) ?_ ?_ ⟨fun _ _ _ => rfl, .refl, hd, by omega, hin⟩ ?_
  · rintro j D ρ' H' ⟨_, k₁, _⟩
    exact k₁.2 p _ (n1 hpd) hp
  · rintro j D v ρ' H' hj hv ⟨hρ, k₁, hD, hlen, hi⟩
    have hj : j < PL.length := by rw [e5] at hj; exact hj
    have hv' : (pairsV PL)[j]? = some (.tup [.int PL[j].1, .int PL[j].2]) := by rw [pairsV, List.getElem?_map, List.getElem?_eq_getElem hj]; rfl
    rw [hv'] at hv
    cases hv
    refine ⟨_, rfl, fun K' hK => ?_⟩
    dsimp only [wZ_nil, wZ_cons, wS_asg, wS_asgC, wS_asgT, wS_asgA, wS_asgI, wS_aug, wS_augA, wS_for, wS_forT, wS_while, wS_if, wS_ret, wS_expr, wS_brk, wE_cint, wE_cneg, wE_cstr, wE_cbool, wE_cnone, wE_var, wE_bin, wE_cmp, wE_or2, wE_ite, wE_tup, wE_lst, wE_dctI, wE_dctS, wE_sub, wE_slTo, wE_slFrom, wE_attr, wE_call, wE_new, wE_meth, wE_bcall, wE_bmeth, wE_comp, wE_compIf, wE_comp2, wL_nil, wL_cons, wT_not, wT_tand, wT_tor, wT_cmp, wT_var, wT_bin, wT_sub, wT_call, wA_nil, wA_cons, wO_nil, wO_cons, onSome, onInt, onRef, onInst, List.zip_cons_cons, List.zip_nil_right, look_c, Nat.reduceBEq, cond_true, cond_false]
    obtain ⟨b, hb⟩ := Option.isSome_iff_exists.mp (hi PL[j] (List.getElem_mem hj))
    have e6 := (hρ 68 (by decide) (by decide)).trans e3
    have e7 : (lookI PL[j].1 D).getD 0 = b := by rw [hb]; rfl
    refine w_look e6 (s_d (d := .int b) hD (by rw [lookI_map, hb]; rfl) (b_sub (w_look e6 (w_dct hD ⟨by rw [List.length_map]; omega, hK _ _ ⟨fun x h1 h2 => ?_, k₁.trans (Keep.set List.mem_cons_self), ?_, ?_, fun q hq => ?_⟩⟩))))
    · rw [look_cons, if_neg (Ne.symm h2), look_cons, if_neg (Ne.symm h1)]; exact hρ x h1 h2
    · rw [set_get hD, ← e7]; rfl
    · show D.length + 1 ≤ _
      omega
    · show (if PL[j].2 = q.1 then _ else lookI q.1 D).isSome = true
      split
      · rfl
      · exact hi q hq
  · rintro ρ' H' ⟨hρ, k₁, hD, _, _⟩
    exact h ρ' H' hρ k₁ hD
end Mine

namespace Mine
open PySem PySem.W PyProof.Rows

noncomputable def hvD (D : List (Int × Int)) (x : Int) : Int := (lookI x D).getD 0
theorem hvD_bit {D PL} (h : HeldOk D PL) (x : Int) : Bit (hvD D x) := by
  unfold hvD
  cases e : lookI x D with
  | none => exact .inl rfl
  | some b => exact h.rest x b e
theorem held_comp {C : CallT} {d : Nat} {D PL : List (Int × Int)} {ins : List Int} {ρ : Rho} {H : Hp} {K : List V → Hp → Prop} (hh : HeldOk D PL) (e : look 68 ρ = some (.ref d)) (hD : H[d]? = some (dictV D)) (hn : ∀ x ∈ ins, 0 ≤ x ∧ x ≤ 6)
    (h : K ((ins.map (hvD D)).map V.int) H) : compW (fun v H K => E.wp C (.sub (.var 68) (.var 30)) ((30, v) :: keepV [68] ρ) H K) (fun _ => True) (ins.map V.int) H [] K := by
  refine compW_fold (fun m H' acc => H' = H ∧ acc = ((ins.take m).map (hvD D)).map V.int) (fun _ _ _ _ => trivial) ?_ ⟨rfl, rfl⟩ ?_
  · rintro m v H' acc hm hv ⟨rfl, rfl⟩ K'' hK''
    have hm : m < ins.length := by rw [List.length_map] at hm; exact hm
    rw [int_at hm] at hv
    cases hv
    have hx : ins.getD m 0 ∈ ins := by rw [List.getD_eq_getElem?_getD, List.getElem?_eq_getElem hm]; exact List.getElem_mem hm
    obtain ⟨b, hb, _⟩ := hh.bits _ (hn _ hx).1 (hn _ hx).2
    have hb' : hvD D (ins.getD m 0) = b := by unfold hvD; rw [hb]; rfl
    dsimp only [wZ_nil, wZ_cons, wS_asg, wS_asgC, wS_asgT, wS_asgA, wS_asgI, wS_aug, wS_augA, wS_for, wS_forT, wS_while, wS_if, wS_ret, wS_expr, wS_brk, wE_cint, wE_cneg, wE_cstr, wE_cbool, wE_cnone, wE_var, wE_bin, wE_cmp, wE_or2, wE_ite, wE_tup, wE_lst, wE_dctI, wE_dctS, wE_sub, wE_slTo, wE_slFrom, wE_attr, wE_call, wE_new, wE_meth, wE_bcall, wE_bmeth, wE_comp, wE_compIf, wE_comp2, wL_nil, wL_cons, wT_not, wT_tand, wT_tor, wT_cmp, wT_var, wT_bin, wT_sub, wT_call, wA_nil, wA_cons, wO_nil, wO_cons, onSome, onInt, onRef, onInst, List.zip_cons_cons, List.zip_nil_right, look_c, Nat.reduceBEq, cond_true, cond_false]
    refine w_look (lk rfl e) (s_d (d := .int b) hD (by rw [lookI_map, hb]; rfl) (hK'' _ _ ⟨rfl, ?_⟩))
    rw [← hb', List.map_map, List.map_map]
    exact take_snoc (V.int ∘ hvD D) hm
  · rintro H' acc ⟨rfl, rfl⟩
    rw [List.length_map, List.take_of_length_le (Nat.le_refl _)]
    exact h
theorem valOk {k : Nat} {ins : List Int} {t : Int} {D PL} (c : CellOk k ins t) (h : HeldOk D PL) : ValOk k t (ins.map (hvD D)) :=
  ⟨c.k10, c.t0, by simpa using c.len, fun q => by simpa using c.gate q, fun q => by simpa using c.mux q, fun q => by simpa using c.one q, fun b hb => by
    obtain ⟨x, _, rfl⟩ := List.mem_map.mp hb
    exact hvD_bit h x⟩
theorem lsOld_ok {n k d : Nat} {ins : List Int} {t : Int} {D PL : List (Int × Int)} {ρ : Rho} {H : Hp} {K : PS} (c : CellOk k ins t) (hh : HeldOk D PL) (e : look 68 ρ = some (.ref d)) (e8 : look 8 ρ = some (cellV k ins t)) (hD : H[d]? = some (dictV D))
    (h : ∀ H', Keep [] H H' → K .next ((70, .int (lawVal k t (ins.map (hvD D)))) :: ρ) H') : S.wp (CN FT (n + 1)) lsOld ρ H K := by
  unfold lsOld
  dsimp only [wS_asg, wS_asgC, wS_asgT, wS_asgA, wS_asgI, wS_aug, wS_augA, wS_for, wS_forT, wS_while, wS_if, wS_ret, wS_expr, wS_brk, wE_cint, wE_cneg, wE_cstr, wE_cbool, wE_cnone, wE_var, wE_bin, wE_cmp, wE_or2, wE_ite, wE_tup, wE_lst, wE_dctI, wE_dctS, wE_sub, wE_slTo, wE_slFrom, wE_attr, wE_call, wE_new, wE_meth, wE_bcall, wE_bmeth, wE_comp, wE_compIf, wE_comp2, wL_nil, wL_cons]
  have e8 : look 8 ρ = some (.tup [.str k, .int 90, .tup (ins.map V.int), paramV k t]) := e8
  have hlen := c.len
  refine w_look e8 (s_t0 (w_look e8 (s_t3 (w_look e8 (s_t2 (And.intro (by show (ins.map V.int).length ≤ _; rw [List.length_map]; omega) ?_))))))
  refine held_comp (C := CN FT (n + 1)) hh e hD c.nets ?_
  exact law_value_ok (valOk c hh) get_last fun H' k₁ => h H' (Keep.push.trans k₁)
theorem lsNew_ok {n d : Nat} {f : Nat × List Int × V} {D PL : List (Int × Int)} {ρ : Rho} {H : Hp} {K : PS} (c : CellOk f.1 f.2.1 (pT f.2.2)) (hp : f.2.2 = paramV f.1 (pT f.2.2)) (hh : HeldOk D PL) (e : look 68 ρ = some (.ref d)) (e8 : look 39 ρ = some (formV f)) (hD : H[d]? = some (dictV D))
    (h : ∀ H', Keep [] H H' → K .next ((71, .int (fVal f (hvD D))) :: ρ) H') : S.wp (CN FT (n + 1)) lsNew ρ H K := by
  unfold lsNew
  dsimp only [wS_asg, wS_asgC, wS_asgT, wS_asgA, wS_asgI, wS_aug, wS_augA, wS_for, wS_forT, wS_while, wS_if, wS_ret, wS_expr, wS_brk, wE_cint, wE_cneg, wE_cstr, wE_cbool, wE_cnone, wE_var, wE_bin, wE_cmp, wE_or2, wE_ite, wE_tup, wE_lst, wE_dctI, wE_dctS, wE_sub, wE_slTo, wE_slFrom, wE_attr, wE_call, wE_new, wE_meth, wE_bcall, wE_bmeth, wE_comp, wE_compIf, wE_comp2, wL_nil, wL_cons]
  have e8 : look 39 ρ = some (.tup [.str f.1, .tup (f.2.1.map V.int), f.2.2]) := e8
  have hlen := c.len
  refine w_look e8 (s_t0 (w_look e8 (s_t2 (w_look e8 (s_t1 (And.intro (by show (f.2.1.map V.int).length ≤ _; rw [List.length_map]; omega) ?_))))))
  refine held_comp (C := CN FT (n + 1)) hh e hD c.nets ?_
  show CN FT (n + 1) 100 [.str f.1, f.2.2, _] _ _
  rw [hp]
  exact law_value_ok (valOk c hh) get_last fun H' k₁ => h H' (Keep.push.trans k₁)
theorem held1_len {PL : List (Int × Int)} (h : PairsOk PL) (line : Int) : (held1 PL line).length ≤ 100 := by
  rcases h with rfl | rfl | rfl | rfl
  · exact (show 7 ≤ 100 by decide)
  · exact (show 6 ≤ 100 by decide)
  · exact (show 6 ≤ 100 by decide)
  · exact (show 5 ≤ 100 by decide)
theorem law_same_ok {n k p : Nat} {ins : List Int} {t : Int} {f : Nat × List Int × V} {PL : List (Int × Int)} {H : Hp} {Q : PV} (hPL : PairsOk PL) (hp : H[p]? = some (.list (pairsV PL))) (c : CellOk k ins t) (cf : CellOk f.1 f.2.1 (pT f.2.2)) (hpar : f.2.2 = paramV f.1 (pT f.2.2))
    (sem : ∀ hv : Int → Int, hv 0 = 0 → hv 1 = 1 → (∀ x, Bit (hv x)) → (∀ q ∈ PL, hv q.2 = 1 - hv q.1) → fVal f hv = lawVal k t (ins.map hv))
    (h : ∀ H', Keep [] H H' → Q (.bool true) H') : CN FT (n + 2) 102 [cellV k ins t, formV f, .ref p] H Q := by
  refine CN_step rfl rfl ?_
  have hl : PL.length ≤ 10 := by rcases hPL with rfl | rfl | rfl | rfl <;> decide
  have hfl := free_len hPL
  show Ss.wp (CN FT (n + 1)) (.cons lsFree (.cons (.for_ 57 (.bcall .range (.cons (.bin .Pow (.cint 2) (.bcall .len (.cons (.var 56) .nil))) .nil)) lsTurn) (.cons (.ret (.cbool true)) .nil))) [(8, cellV k ins t), (39, formV f), (55, .ref p)] H (retK Q)
  rw [wZ_cons]
  refine lsFree_ok hp hl rfl fun H₁ fr k₁ hfr hg => ?_
  have hp₁ := k₁.at hp
  have hlt := lt_of_get hp
  obtain ⟨P, hP⟩ : ∃ P : Nat, (2 : Int) ^ (freeF PL).length = P ∧ P ≤ 32 := by
    rcases hPL with rfl | rfl | rfl | rfl
    · exact ⟨32, by decide⟩
    · exact ⟨16, by decide⟩
    · exact ⟨16, by decide⟩
    · exact ⟨8, by decide⟩
  show Ss.wp (CN FT (n + 1)) (.cons (.for_ 57 (.bcall .range (.cons (.bin .Pow (.cint 2) (.bcall .len (.cons (.var 56) .nil))) .nil)) lsTurn) (.cons (.ret (.cbool true)) .nil)) ((56, .ref fr) :: [(8, cellV k ins t), (39, formV f), (55, .ref p)]) H₁ (retK Q)
  dsimp only [wZ_nil, wZ_cons, wS_asg, wS_asgC, wS_asgT, wS_asgA, wS_asgI, wS_aug, wS_augA, wS_for, wS_forT, wS_while, wS_if, wS_ret, wS_expr, wS_brk, wE_cint, wE_cneg, wE_cstr, wE_cbool, wE_cnone, wE_var, wE_bin, wE_cmp, wE_or2, wE_ite, wE_tup, wE_lst, wE_dctI, wE_dctS, wE_sub, wE_slTo, wE_slFrom, wE_attr, wE_call, wE_new, wE_meth, wE_bcall, wE_bmeth, wE_comp, wE_compIf, wE_comp2, wL_nil, wL_cons, look_c, Nat.reduceBEq, cond_true, cond_false]
  refine f_lenL hg (by rw [List.length_map]; omega) (b_pow (by omega) (by rw [List.length_map]; omega) ?_)
  rw [List.length_map, Int.toNat_natCast, hP.1]
  refine f_rng (by omega) (by omega) ?_
  refine forW_fold (σ := Unit) (vs := rngV P) (step := fun _ _ => ()) (s₀ := ())
    (fun j _ ρ H' => look 56 ρ = some (.ref fr) ∧ look 8 ρ = some (cellV k ins t) ∧ look 39 ρ = some (formV f) ∧ look 55 ρ = some (.ref p) ∧ Keep [] H₁ H') ?_ ?_ ⟨rfl, rfl, rfl, rfl, .refl⟩ ?_
  · exact fun _ _ _ _ _ => trivial
  · rintro j _ v ρ H' hj hv ⟨e1, e2, e3, e4, k₂⟩
    obtain ⟨hj, rfl⟩ := rngV_at hv
    refine ⟨_, rfl, fun K' hK => ?_⟩
    unfold lsTurn
    rw [wZ_cons, wS_asg]
    dsimp only [wE_cint, wE_cneg, wE_cstr, wE_cbool, wE_cnone, wE_var, wE_bin, wE_cmp, wE_or2, wE_ite, wE_tup, wE_lst, wE_dctI, wE_dctS, wE_sub, wE_slTo, wE_slFrom, wE_attr, wE_call, wE_new, wE_meth, wE_bcall, wE_bmeth, wE_comp, wE_compIf, wE_comp2, wL_nil, wL_cons]
    show Ss.wp (CN FT (n + 1)) (.cons lsFor1 _) ((68, .ref H'.length) :: (57, .int j) :: ρ) (H' ++ [dictV [(1, 1), (0, 0)]]) _
    have hfr' : (H' ++ [dictV [(1, 1), (0, 0)]])[fr]? = some (.list ((freeF PL).map V.int)) := Keep.push.at (k₂.at hg)
    have hp' : (H' ++ [dictV [(1, 1), (0, 0)]])[p]? = some (.list (pairsV PL)) := Keep.push.at (k₂.at hp₁)
    have nfr : fr ≠ H'.length := Nat.ne_of_lt (lt_of_get (k₂.at hg))
    have np : p ≠ H'.length := Nat.ne_of_lt (lt_of_get (k₂.at hp₁))
    rw [wZ_cons]
    refine lsFor1_ok (line := (j : Int)) hfl.2 hfr' get_last nfr (lc rfl (lc rfl e1)) rfl rfl fun ρ₁ H₂ hρ₁ k₃ hd₁ => ?_
    have hp₂ := k₃.2 p _ (by simpa using np) hp'
    show Ss.wp (CN FT (n + 1)) (.cons lsFor2 _) ρ₁ H₂ _
    rw [wZ_cons]
    have hin : ∀ q ∈ PL, (lookI q.1 (held1 PL j)).isSome = true := by
      rcases hPL with rfl | rfl | rfl | rfl <;> intro q hq <;> simp at hq
      · subst hq; rfl
      · subst hq; rfl
      · rcases hq with rfl | rfl <;> rfl
    have hlen1 := held1_len hPL (j : Int)
    refine lsFor2_ok hl hp₂ hd₁ hlen1 np hin (by rw [hρ₁ 55 (by decide)]; simp [look_cons, e4]) (by rw [hρ₁ 68 (by decide)]; simp [look_cons]) fun ρ₂ H₃ hρ₂ k₄ hd₂ => ?_
    have hh : HeldOk (heldD PL j) PL := held_ok hPL j
    have e68 : look 68 ρ₂ = some (.ref H'.length) := by rw [hρ₂ 68 (by decide) (by decide), hρ₁ 68 (by decide)]; simp [look_cons]
    have e8 : look 8 ρ₂ = some (cellV k ins t) := by rw [hρ₂ 8 (by decide) (by decide), hρ₁ 8 (by decide)]; simp [look_cons, e2]
    have e39 : look 39 ρ₂ = some (formV f) := by rw [hρ₂ 39 (by decide) (by decide), hρ₁ 39 (by decide)]; simp [look_cons, e3]
    have e56 : look 56 ρ₂ = some (.ref fr) := by rw [hρ₂ 56 (by decide) (by decide), hρ₁ 56 (by decide)]; simp [look_cons, e1]
    have e55 : look 55 ρ₂ = some (.ref p) := by rw [hρ₂ 55 (by decide) (by decide), hρ₁ 55 (by decide)]; simp [look_cons, e4]
    show Ss.wp (CN FT (n + 1)) (.cons lsOld _) ρ₂ H₃ _
    rw [wZ_cons]
    refine lsOld_ok c hh e68 e8 hd₂ fun H₄ k₅ => ?_
    show Ss.wp (CN FT (n + 1)) (.cons lsNew _) _ H₄ _
    rw [wZ_cons]
    refine lsNew_ok cf hpar hh (by simp [look_cons, e68]) (by simp [look_cons, e39]) (k₅.at hd₂) fun H₅ k₆ => ?_
    have hs := sem (hvD (heldD PL j)) (by unfold hvD; rw [hh.zero]; rfl) (by unfold hvD; rw [hh.one]; rfl) (hvD_bit hh) (fun q hq => by
      obtain ⟨b, h1, h2⟩ := hh.pairs q hq
      unfold hvD; rw [h1, h2]; rfl)
    have kk : Keep [] H₁ H₅ := by
      have a1 : Keep [H'.length] H' H₅ := ((Keep.push.trans k₃).trans k₄).trans ((k₅.trans k₆).nil)
      refine ⟨Nat.le_trans k₂.1 a1.1, fun x o _ eo => a1.2 x o ?_ (k₂.at eo)⟩
      have := lt_of_get (k₂.at eo)
      simp; omega
    dsimp only [wZ_nil, wZ_cons, wS_asg, wS_asgC, wS_asgT, wS_asgA, wS_asgI, wS_aug, wS_augA, wS_for, wS_forT, wS_while, wS_if, wS_ret, wS_expr, wS_brk, wE_cint, wE_cneg, wE_cstr, wE_cbool, wE_cnone, wE_var, wE_bin, wE_cmp, wE_or2, wE_ite, wE_tup, wE_lst, wE_dctI, wE_dctS, wE_sub, wE_slTo, wE_slFrom, wE_attr, wE_call, wE_new, wE_meth, wE_bcall, wE_bmeth, wE_comp, wE_compIf, wE_comp2, wL_nil, wL_cons, wT_not, wT_tand, wT_tor, wT_cmp, wT_var, wT_bin, wT_sub, wT_call, wA_nil, wA_cons, wO_nil, wO_cons, onSome, onInt, onRef, onInst, List.zip_cons_cons, List.zip_nil_right, look_c, Nat.reduceBEq, cond_true, cond_false]
    exact c_nei (w_nd (fun _ => hK _ _ ⟨lc rfl (lc rfl e56), lc rfl (lc rfl e8), lc rfl (lc rfl e39), lc rfl (lc rfl e55), kk⟩) fun q => absurd hs.symm q)
  · rintro ρ' H' ⟨_, _, _, _, k₂⟩
    simp only [wZ_nil, wZ_cons, wS_asg, wS_asgC, wS_asgT, wS_asgA, wS_asgI, wS_aug, wS_augA, wS_for, wS_forT, wS_while, wS_if, wS_ret, wS_expr, wS_brk, wE_cint, wE_cneg, wE_cstr, wE_cbool, wE_cnone, wE_var, wE_bin, wE_cmp, wE_or2, wE_ite, wE_tup, wE_lst, wE_dctI, wE_dctS, wE_sub, wE_slTo, wE_slFrom, wE_attr, wE_call, wE_new, wE_meth, wE_bcall, wE_bmeth, wE_comp, wE_compIf, wE_comp2, wL_nil, wL_cons, wT_not, wT_tand, wT_tor, wT_cmp, wT_var, wT_bin, wT_sub, wT_call, wA_nil, wA_cons, wO_nil, wO_cons, onSome, onInt, onRef, onInst, List.zip_cons_cons, List.zip_nil_right, look_cons, Nat.reduceEqDiff, if_true, if_false, eq_self, true_implies, false_implies, reduceCtorEq, and_true, true_and]
    exact h H' (k₁.trans k₂)
end Mine

namespace Mine
open PySem PySem.W PyProof.Rows

noncomputable def plOf (a b : Bool) : List (Int × Int) := (if a = true then [(2, 5)] else []) ++ (if b = true then [(3, 6)] else [])
noncomputable def invOf (a b : Bool) : List (Int × Int) := (if b = true then [(6, 3), (3, 6)] else []) ++ (if a = true then [(5, 2), (2, 5)] else [])
theorem pl_ok {a b : Bool} : PairsOk (plOf a b) := by
  unfold PairsOk
  cases a <;> cases b <;> decide
theorem lookI_mem {β : Type} {x : Int} {y : β} : ∀ {D : List (Int × β)}, lookI x D = some y → (x, y) ∈ D
  | [], h => by simp [lookI] at h
  | (a, c) :: r, h => by
    simp only [lookI] at h
    split at h
    · rename_i e; subst e; cases h; exact List.mem_cons_self
    · exact List.mem_cons_of_mem _ (lookI_mem h)
theorem inv_mem {a b : Bool} {x y : Int} (h : lookI x (invOf a b) = some y) : (b = true ∧ ((x = 6 ∧ y = 3) ∨ (x = 3 ∧ y = 6))) ∨ (a = true ∧ ((x = 5 ∧ y = 2) ∨ (x = 2 ∧ y = 5))) := by
  have h := lookI_mem h
  unfold invOf at h
  rcases List.mem_append.mp h with h | h
  · split at h
    · rename_i e; simp at h; exact .inl ⟨e, h⟩
    · cases h
  · split at h
    · rename_i e; simp at h; exact .inr ⟨e, h⟩
    · cases h
theorem inv_ok {a b : Bool} : InvOk (invOf a b) := by
  intro x y h
  rcases inv_mem h with ⟨_, h | h⟩ | ⟨_, h | h⟩ <;> omega
theorem inv_held {a b : Bool} {hv : Int → Int} (h0 : hv 0 = 0) (h1 : hv 1 = 1) (hb : ∀ x, Bit (hv x)) (hp : ∀ q ∈ plOf a b, hv q.2 = 1 - hv q.1) : Held hv (invOf a b) := by
  refine ⟨h0, h1, hb, fun x y h => ⟨?_, inv_ok x y h⟩⟩
  have p1 : a = true → hv 5 = 1 - hv 2 := fun e => hp (2, 5) (by subst e; simp [plOf])
  have p2 : b = true → hv 6 = 1 - hv 3 := fun e => hp (3, 6) (by subst e; simp [plOf])
  rcases inv_mem h with ⟨e, ⟨rfl, rfl⟩ | ⟨rfl, rfl⟩⟩ | ⟨e, ⟨rfl, rfl⟩ | ⟨rfl, rfl⟩⟩
  · have := p2 e; omega
  · exact p2 e
  · have := p1 e; omega
  · exact p1 e

noncomputable def lwFor1 : S := (.forT [72, 73] (.lst (.cons (.tup (.cons (.cint 2) (.cons (.cint 5) .nil))) (.cons (.tup (.cons (.cint 3) (.cons (.cint 6) .nil))) .nil))) (.cons (.if_ (.cmp .Eq (.call 99 (.cons (.var 50) (.cons (.cint 2) .nil))) (.cint 1)) (.cons (.expr (.bmeth (.var 55) .append (.cons (.tup (.cons (.var 72) (.cons (.var 73) .nil))) .nil)))
    (.cons (.asgI (.var 46) (.var 72) (.var 73))
    (.cons (.asgI (.var 46) (.var 73) (.var 72))
    .nil))) .nil)
    .nil))
noncomputable def lwTurn : Ss := (.cons (.asg 8 (.call 101 (.cons (.var 50) (.cons (.lst (.cons (.cint 0) (.cons (.cint 1) (.cons (.cint 2) (.cons (.cint 3) (.cons (.cint 4) (.cons (.cint 5) (.cons (.cint 6) (.cons (.cint 2) (.cons (.cint 5) .nil)))))))))) .nil))))
    (.cons (.asg 39 (.call 97 (.cons (.var 8) (.cons (.sub (.var 8) (.cint 2)) (.cons (.bcall .dict (.cons (.var 46) .nil)) .nil)))))
    (.cons (.if_ (.tor (.cons (.cmp .NotEq (.bcall .len (.cons (.var 39) .nil)) (.cint 3)) (.cons (.cmp .Gt (.bcall .len (.cons (.sub (.var 39) (.cint 1)) .nil)) (.bcall .max (.cons (.cint 1) (.cons (.bcall .len (.cons (.sub (.var 8) (.cint 2)) .nil)) .nil)))) (.cons (.not (.call 102 (.cons (.var 8) (.cons (.var 39) (.cons (.var 55) .nil))))) .nil)))) (.cons (.ret (.cbool false))
    .nil) .nil)
    (.cons (.if_ (.tand (.cons (.cmp .Eq (.sub (.var 39) (.cint 0)) (.cstr 9)) (.cons (.cmp .In (.sub (.sub (.var 39) (.cint 1)) (.cint 0)) (.tup (.cons (.cint 0) (.cons (.cint 1) .nil)))) .nil))) (.cons (.ret (.cbool false))
    .nil) .nil)
    .nil))))

/-- what stands while the law runs -/
structure LawAt (H : Hp) (b p v : Nat) (x y : Bool) : Prop where
  box : BoxAt H b
  pairs : H[p]? = some (.list (pairsV (plOf x y)))
  inv : H[v]? = some (dictV (invOf x y))
  bp : b ≠ p
  bv : b ≠ v
  pv : p ≠ v
theorem LawAt.keep {H H' b p v x y} (h : LawAt H b p v x y) (k : Keep [b] H H') (hb : BoxAt H' b) : LawAt H' b p v x y :=
  ⟨hb, k.2 p _ (by simpa using h.bp.symm) h.pairs, k.2 v _ (by simpa using h.bv.symm) h.inv, h.bp, h.bv, h.pv⟩
theorem LawAt.keep0 {H H' b p v x y} (h : LawAt H b p v x y) (k : Keep [] H H') : LawAt H' b p v x y :=
  ⟨h.box.keep k, k.at h.pairs, k.at h.inv, h.bp, h.bv, h.pv⟩

theorem lwFor1_ok {n b p v : Nat} {ρ : Rho} {H : Hp} {K : PS} (hl : LawAt H b p v false false) (e1 : look 50 ρ = some (.ref b)) (e2 : look 55 ρ = some (.ref p)) (e3 : look 46 ρ = some (.ref v))
    (h : ∀ x y ρ' H', (∀ z, z ≠ 72 → z ≠ 73 → look z ρ' = look z ρ) → LawAt H' b p v x y → K .next ρ' H') : S.wp (CN FT (n + 1)) lwFor1 ρ H K := by
  unfold lwFor1
  dsimp only [wS_asg, wS_asgC, wS_asgT, wS_asgA, wS_asgI, wS_aug, wS_augA, wS_for, wS_forT, wS_while, wS_if, wS_ret, wS_expr, wS_brk, wE_cint, wE_cneg, wE_cstr, wE_cbool, wE_cnone, wE_var, wE_bin, wE_cmp, wE_or2, wE_ite, wE_tup, wE_lst, wE_dctI, wE_dctS, wE_sub, wE_slTo, wE_slFrom, wE_attr, wE_call, wE_new, wE_meth, wE_bcall, wE_bmeth, wE_comp, wE_compIf, wE_comp2, wL_nil, wL_cons]
  refine ⟨⟨_, rfl⟩, i_ref get_last ?_⟩
  have hi : ∀ j v', ([V.tup [.int 2, .int 5], V.tup [.int 3, .int 6]] : List V)[j]? = some v' → (j = 0 ∧ v' = .tup [.int 2, .int 5]) ∨ (j = 1 ∧ v' = .tup [.int 3, .int 6]) := by
    intro j v' e
    match j with
    | 0 => cases e; exact .inl ⟨rfl, rfl⟩
    | 1 => cases e; exact .inr ⟨rfl, rfl⟩
    | j + 2 => simp at e
  refine forW_fold (σ := Unit) (step := fun _ _ => ()) (s₀ := ())
    (fun j _ ρ' H' => (∀ z, z ≠ 72 → z ≠ 73 → look z ρ' = look z ρ) ∧ H'[H.length]? = some (.list [.tup [.int 2, .int 5], .tup [.int 3, .int 6]]) ∧ ∃ x y, LawAt H' b p v x y ∧ (j = 0 → x = false) ∧ (j ≤ 1 → y = false)) ?_ ?_ ⟨fun _ _ _ => rfl, get_last, false, false, hl.keep0 Keep.push, fun _ => rfl, fun _ => rfl⟩ ?_
  · rintro j _ ρ' H' ⟨_, k, _⟩
    exact k
  · rintro j _ w ρ' H' hj hv ⟨hρ, k, x, y, L, hx, hy⟩
    have nb : b ≠ H.length := Nat.ne_of_lt hl.box.lt
    have np : p ≠ H.length := Nat.ne_of_lt (lt_of_get hl.pairs)
    have nv : v ≠ H.length := Nat.ne_of_lt (lt_of_get hl.inv)
    have step : ∀ (a c : Int) (x' y' : Bool), pairsV (plOf x' y') = pairsV (plOf x y) ++ [.tup [.int a, .int c]] → invOf x' y' = (c, a) :: (a, c) :: invOf x y → ((j + 1 = 0 → x' = false) ∧ (j + 1 ≤ 1 → y' = false)) → ((j + 1 = 0 → x = false) ∧ (j + 1 ≤ 1 → y = false)) →
        ∃ ρ₁, bindT [72, 73] [.int a, .int c] ρ' = some ρ₁ ∧ ∀ K' : PS, (∀ ρ₂ H₂, ((∀ z, z ≠ 72 → z ≠ 73 → look z ρ₂ = look z ρ) ∧ H₂[H.length]? = some (.list [.tup [.int 2, .int 5], .tup [.int 3, .int 6]]) ∧ ∃ x y, LawAt H₂ b p v x y ∧ (j + 1 = 0 → x = false) ∧ (j + 1 ≤ 1 → y = false)) → K' .next ρ₂ H₂) →
          Ss.wp (CN FT (n + 1)) (.cons (.if_ (.cmp .Eq (.call 99 (.cons (.var 50) (.cons (.cint 2) .nil))) (.cint 1)) (.cons (.expr (.bmeth (.var 55) .append (.cons (.tup (.cons (.var 72) (.cons (.var 73) .nil))) .nil)))
            (.cons (.asgI (.var 46) (.var 72) (.var 73))
            (.cons (.asgI (.var 46) (.var 73) (.var 72))
            .nil))) .nil) .nil) ρ₁ H' K' := by
      intro a c x' y' ep ei c1 c2
      refine ⟨_, rfl, fun K' hK => ?_⟩
      have r' : ∀ z, z ≠ 72 → z ≠ 73 → look z ((73, V.int c) :: (72, V.int a) :: ρ') = look z ρ := fun z h1 h2 => by
        rw [look_cons, if_neg (Ne.symm h2), look_cons, if_neg (Ne.symm h1)]; exact hρ z h1 h2
      dsimp only [wZ_nil, wZ_cons, wS_asg, wS_asgC, wS_asgT, wS_asgA, wS_asgI, wS_aug, wS_augA, wS_for, wS_forT, wS_while, wS_if, wS_ret, wS_expr, wS_brk, wE_cint, wE_cneg, wE_cstr, wE_cbool, wE_cnone, wE_var, wE_bin, wE_cmp, wE_or2, wE_ite, wE_tup, wE_lst, wE_dctI, wE_dctS, wE_sub, wE_slTo, wE_slFrom, wE_attr, wE_call, wE_new, wE_meth, wE_bcall, wE_bmeth, wE_comp, wE_compIf, wE_comp2, wL_nil, wL_cons, wT_not, wT_tand, wT_tor, wT_cmp, wT_var, wT_bin, wT_sub, wT_call, wA_nil, wA_cons, wO_nil, wO_cons, onSome, onInt, onRef, onInst, List.zip_cons_cons, List.zip_nil_right, look_c, Nat.reduceBEq, cond_true, cond_false]
      refine w_look ((hρ 50 (by decide) (by decide)).trans e1) ?_
      refine law_of_ok L.box (by decide) fun r H₁ _ _ k₁ b₁ => ?_
      have L₁ := L.keep k₁ b₁
      have i₁ := k₁.2 _ _ (by simpa using nb.symm) k
      refine c_eqi (w_dec (fun _ => ?_) fun _ => hK _ _ ⟨r', i₁, x, y, L₁, c2⟩)
      have f46 := (hρ 46 (by decide) (by decide)).trans e3
      have hs : (H₁.set p (.list (pairsV (plOf x y) ++ [.tup [.int a, .int c]])))[v]? = some (dictV (invOf x y)) := by rw [List.getElem?_set_ne L.pv]; exact L₁.inv
      refine w_look ((hρ 55 (by decide) (by decide)).trans e2) ⟨h_app L₁.pairs, m_app L₁.pairs ?_ ⟨rfl, w_look f46 (w_dct hs ⟨?_, w_look f46 (w_dct (set_get hs) ⟨?_, hK _ _ ⟨r', ?_, x', y', ⟨?_, ?_, ?_, L.bp, L.bv, L.pv⟩, c1⟩⟩)⟩)⟩⟩
      · cases x <;> cases y <;> decide
      · cases x <;> cases y <;> decide
      · cases x <;> cases y <;> simp [invOf]
      · rw [List.getElem?_set_ne nv, List.getElem?_set_ne nv, List.getElem?_set_ne np]; exact i₁
      · obtain ⟨l, hl1, hl2⟩ := L₁.box
        refine ⟨l, ?_, hl2⟩
        rw [List.getElem?_set_ne L.bv.symm, List.getElem?_set_ne L.bv.symm, List.getElem?_set_ne L.bp.symm]; exact hl1
      · rw [List.getElem?_set_ne L.pv.symm, List.getElem?_set_ne L.pv.symm, set_get L₁.pairs, ep]
      · rw [set_get (set_get hs), ei]; rfl
    rcases hi j w hv with ⟨rfl, rfl⟩ | ⟨rfl, rfl⟩
    · have hx := hx rfl
      have hy := hy (by decide)
      subst hx hy
      exact step 2 5 true false rfl rfl ⟨by decide, fun _ => rfl⟩ ⟨by decide, fun _ => rfl⟩
    · have hy := hy (by decide)
      subst hy
      exact step 3 6 x true (by cases x <;> rfl) (by cases x <;> rfl) ⟨fun h => absurd h (by decide), fun h => absurd h (by decide)⟩ ⟨fun h => absurd h (by decide), fun _ => rfl⟩
  · rintro ρ' H' ⟨hρ, _, x, y, L, _⟩
    exact h x y ρ' H' hρ L
end Mine

namespace Mine
open PySem PySem.W PyProof.Rows

noncomputable def lwIf1 : S := (.if_ (.tor (.cons (.cmp .NotEq (.bcall .len (.cons (.var 39) .nil)) (.cint 3)) (.cons (.cmp .Gt (.bcall .len (.cons (.sub (.var 39) (.cint 1)) .nil)) (.bcall .max (.cons (.cint 1) (.cons (.bcall .len (.cons (.sub (.var 8) (.cint 2)) .nil)) .nil)))) (.cons (.not (.call 102 (.cons (.var 8) (.cons (.var 39) (.cons (.var 55) .nil))))) .nil)))) (.cons (.ret (.cbool false))
    .nil) .nil)
noncomputable def lwIf2 : S := (.if_ (.tand (.cons (.cmp .Eq (.sub (.var 39) (.cint 0)) (.cstr 9)) (.cons (.cmp .In (.sub (.sub (.var 39) (.cint 1)) (.cint 0)) (.tup (.cons (.cint 0) (.cons (.cint 1) .nil)))) .nil))) (.cons (.ret (.cbool false))
    .nil) .nil)
theorem lwIf1_ok {n k p : Nat} {ins : List Int} {t : Int} {f : Nat × List Int × V} {PL : List (Int × Int)} {ρ : Rho} {H : Hp} {K : PS} (e8 : look 8 ρ = some (cellV k ins t)) (e39 : look 39 ρ = some (formV f)) (e55 : look 55 ρ = some (.ref p))
    (hPL : PairsOk PL) (hp : H[p]? = some (.list (pairsV PL))) (c : CellOk k ins t) (fo : FOk ins.length f) (sem : ∀ hv : Int → Int, hv 0 = 0 → hv 1 = 1 → (∀ x, Bit (hv x)) → (∀ q ∈ PL, hv q.2 = 1 - hv q.1) → fVal f hv = lawVal k t (ins.map hv))
    (h : ∀ H', Keep [] H H' → K .next ρ H') : S.wp (CN FT (n + 2)) lwIf1 ρ H K := by
  unfold lwIf1
  have hlen : f.2.1.length ≤ 3 := fo.ok.len
  have hlen2 := c.len
  have ef : formV f = .tup [.str f.1, .tup (f.2.1.map V.int), f.2.2] := rfl
  have ec : cellV k ins t = .tup [.str k, .int 90, .tup (ins.map V.int), paramV k t] := rfl
  have call : ∀ Q : PV, (∀ H', Keep [] H H' → Q (.bool true) H') → CN FT (n + 2) 102 [.tup [.str k, .int 90, .tup (ins.map V.int), paramV k t], .tup [.str f.1, .tup (f.2.1.map V.int), f.2.2], .ref p] H Q := fun Q hq => law_same_ok hPL hp c fo.ok fo.par sem hq
  rw [ef] at e39
  rw [ec] at e8
  dsimp only [wZ_nil, wZ_cons, wS_asg, wS_asgC, wS_asgT, wS_asgA, wS_asgI, wS_aug, wS_augA, wS_for, wS_forT, wS_while, wS_if, wS_ret, wS_expr, wS_brk, wE_cint, wE_cneg, wE_cstr, wE_cbool, wE_cnone, wE_var, wE_bin, wE_cmp, wE_or2, wE_ite, wE_tup, wE_lst, wE_dctI, wE_dctS, wE_sub, wE_slTo, wE_slFrom, wE_attr, wE_call, wE_new, wE_meth, wE_bcall, wE_bmeth, wE_comp, wE_compIf, wE_comp2, wL_nil, wL_cons, wT_not, wT_tand, wT_tor, wT_cmp, wT_var, wT_bin, wT_sub, wT_call, wA_nil, wA_cons, wO_nil, wO_cons, onSome, onInt, onRef, onInst, List.zip_cons_cons, List.zip_nil_right, look_c, Nat.reduceBEq, cond_true, cond_false]
  refine w_look e39 (f_lenT (by show 3 ≤ 1000000; decide) (c_nei (w_nd (fun _ => ?_) fun q => absurd rfl q)))
  refine w_look e39 (s_t1 (f_lenT (by rw [List.length_map]; omega) (w_look e8 (s_t2 (f_lenT (by rw [List.length_map]; omega) (f_max ?_))))))
  show cmpW .Gt (.int _) (.int _) H _
  rw [List.length_map, List.length_map]
  refine c_gt (w_dec (fun q => ?_) fun _ => ?_)
  · have := fo.len
    exfalso
    split at q <;> omega
  · exact w_look e8 (w_look e39 (w_look e55 (call _ fun H' kk => t_b (w_f (w_f (h H' kk))))))
theorem lwIf2_ok {C : CallT} {f : Nat × List Int × V} {m : Nat} {ρ : Rho} {H : Hp} {K : PS} (e39 : look 39 ρ = some (formV f)) (fo : FOk m f) (fn : f.1 = 9 → f.2.1.getD 0 0 ≠ 0 ∧ f.2.1.getD 0 0 ≠ 1)
    (h : K .next ρ H) : S.wp C lwIf2 ρ H K := by
  unfold lwIf2
  rw [wS_if]
  have ef : formV f = .tup [.str f.1, .tup (f.2.1.map V.int), f.2.2] := rfl
  rw [ef] at e39
  dsimp only [wZ_nil, wZ_cons, wS_asg, wS_asgC, wS_asgT, wS_asgA, wS_asgI, wS_aug, wS_augA, wS_for, wS_forT, wS_while, wS_if, wS_ret, wS_expr, wS_brk, wE_cint, wE_cneg, wE_cstr, wE_cbool, wE_cnone, wE_var, wE_bin, wE_cmp, wE_or2, wE_ite, wE_tup, wE_lst, wE_dctI, wE_dctS, wE_sub, wE_slTo, wE_slFrom, wE_attr, wE_call, wE_new, wE_meth, wE_bcall, wE_bmeth, wE_comp, wE_compIf, wE_comp2, wL_nil, wL_cons, wT_not, wT_tand, wT_tor, wT_cmp, wT_var, wT_bin, wT_sub, wT_call, wA_nil, wA_cons, wO_nil, wO_cons, onSome, onInt, onRef, onInst, List.zip_cons_cons, List.zip_nil_right, look_c, Nat.reduceBEq, cond_true, cond_false]
  refine w_look e39 (s_t0 (c_eqs (w_dec (fun q => ?_) fun q => w_f h)))
  have q := fn q
  obtain ⟨x, hx⟩ := len1 (fo.ok.one (.inl ‹f.1 = 9›))
  rw [hx] at q e39
  have hn : x ≠ 0 ∧ x ≠ 1 := q
  refine w_look e39 (s_t1 (s_t0 ?_))
  refine .inl ⟨fun d hd => ?_, ?_⟩
  · rcases List.mem_cons.mp hd with rfl | hd
    · exact ⟨0, rfl⟩
    · exact ⟨1, List.mem_singleton.mp hd⟩
  have ea : [V.int 0, V.int 1].any (isInt x) = false := by
    simp only [List.any_cons, List.any_nil, isInt, Bool.or_false, Bool.or_eq_false_iff]
    exact ⟨decide_eq_false (Ne.symm hn.1), decide_eq_false (Ne.symm hn.2)⟩
  rw [ea]
  exact w_f (w_f h)
theorem lwTurn_ok {n b p v : Nat} {x y : Bool} {ρ : Rho} {H : Hp} {K : PS} (hl : LawAt H b p v x y) (e1 : look 50 ρ = some (.ref b)) (e2 : look 55 ρ = some (.ref p)) (e3 : look 46 ρ = some (.ref v))
    (h : ∀ ρ' H', look 50 ρ' = some (.ref b) → look 55 ρ' = some (.ref p) → look 46 ρ' = some (.ref v) → LawAt H' b p v x y → K .next ρ' H') : Ss.wp (CN FT (n + 9)) lwTurn ρ H K := by
  unfold lwTurn
  first | rw [wZ_cons] | rw [wZ_nil]
  dsimp only [wS_asg, wS_asgC, wS_asgT, wS_asgA, wS_asgI, wS_aug, wS_augA, wS_for, wS_forT, wS_while, wS_if, wS_ret, wS_expr, wS_brk, wE_cint, wE_cneg, wE_cstr, wE_cbool, wE_cnone, wE_var, wE_bin, wE_cmp, wE_or2, wE_ite, wE_tup, wE_lst, wE_dctI, wE_dctS, wE_sub, wE_slTo, wE_slFrom, wE_attr, wE_call, wE_new, wE_meth, wE_bcall, wE_bmeth, wE_comp, wE_compIf, wE_comp2, wL_nil, wL_cons]
  refine w_look e1 ?_
  show CN FT (n + 9) 101 [.ref b, .ref H.length] (H ++ [.list (menuL.map V.int)]) _
  have L0 := hl.keep0 (Keep.push (o := .list (menuL.map V.int)))
  refine law_cell_ok (n := n + 7) L0.box get_last (Nat.ne_of_gt hl.box.lt) fun k ins t H₁ c k₁ b₁ => ?_
  have L₁ := L0.keep k₁ b₁
  first | rw [wZ_cons] | rw [wZ_nil]
  dsimp only [wS_asg, wS_asgC, wS_asgT, wS_asgA, wS_asgI, wS_aug, wS_augA, wS_for, wS_forT, wS_while, wS_if, wS_ret, wS_expr, wS_brk, wE_cint, wE_cneg, wE_cstr, wE_cbool, wE_cnone, wE_var, wE_bin, wE_cmp, wE_or2, wE_ite, wE_tup, wE_lst, wE_dctI, wE_dctS, wE_sub, wE_slTo, wE_slFrom, wE_attr, wE_call, wE_new, wE_meth, wE_bcall, wE_bmeth, wE_comp, wE_compIf, wE_comp2, wL_nil, wL_cons, look_c, Nat.reduceBEq, cond_true, cond_false]
  refine s_t2 (w_look e3 (f_dict L₁.inv (by rw [List.length_map]; cases x <;> cases y <;> decide) ?_))
  show CN FT (n + 9) 97 [cellV k ins t, .tup (ins.map V.int), .ref H₁.length] (H₁ ++ [dictV (invOf x y)]) _
  have L₂ := L₁.keep0 (Keep.push (o := dictV (invOf x y)))
  refine simple_form_ok c get_last fun H₃ k₃ => ?_
  have L₃ := L₂.keep0 k₃
  obtain ⟨fo, fn⟩ := simp_fok (inv := invOf x y) inv_ok c
  have sem := fun hv h0 h1 hb hp => simp_sem (inv := invOf x y) (hv := hv) (inv_held h0 h1 hb hp) c
  generalize simpF k ins t (invOf x y) = f at fo fn sem ⊢
  have fin : ∀ H', LawAt H' b p v x y → K .next ((39, formV f) :: (8, cellV k ins t) :: ρ) H' := fun H' L => h _ H' (lc rfl (lc rfl e1)) (lc rfl (lc rfl e2)) (lc rfl (lc rfl e3)) L
  show Ss.wp (CN FT (n + 9)) (.cons lwIf1 (.cons lwIf2 .nil)) ((39, formV f) :: (8, cellV k ins t) :: ρ) H₃ K
  first | rw [wZ_cons] | rw [wZ_nil]
  refine lwIf1_ok (n := n + 7) rfl rfl (lc rfl (lc rfl e2)) pl_ok L₃.pairs c fo sem fun H₄ k₄ => ?_
  show Ss.wp (CN FT (n + 9)) (.cons lwIf2 .nil) ((39, formV f) :: (8, cellV k ins t) :: ρ) H₄ K
  first | rw [wZ_cons] | rw [wZ_nil]
  refine lwIf2_ok rfl fo fn ?_
  show Ss.wp (CN FT (n + 9)) .nil ((39, formV f) :: (8, cellV k ins t) :: ρ) H₄ K
  first | rw [wZ_cons] | rw [wZ_nil]
  exact fin H₄ (L₃.keep0 k₄)

theorem law_ok_of (reb : ∀ (H : Hp) (b : Nat) (Q : PV), BoxAt H b → (∀ H', Q (.bool true) H') → CN FT 11 103 [.ref b] H Q) (ns : List Int) (hn : ns.length ≤ 63) : CN FT 12 104 [.frz ns] [] fun d _ => d = .bool true := by
  refine CN_step rfl rfl ?_
  show Ss.wp (CN FT 11) (.cons (.asg 50 (.call 98 (.cons (.var 48) .nil)))
    (.cons (.asg 55 (.lst .nil))
    (.cons (.asg 46 (.dctI [] .nil))
    (.cons lwFor1
    (.cons (.for_ 58 (.bcall .range (.cons (.cint 3) .nil)) lwTurn)
    (.cons (.ret (.call 103 (.cons (.var 50) .nil)))
    .nil)))))) [(48, .frz ns)] [] (retK fun d _ => d = .bool true)
  first | rw [wZ_cons] | rw [wZ_nil]
  dsimp only [wS_asg, wS_asgC, wS_asgT, wS_asgA, wS_asgI, wS_aug, wS_augA, wS_for, wS_forT, wS_while, wS_if, wS_ret, wS_expr, wS_brk, wE_cint, wE_cneg, wE_cstr, wE_cbool, wE_cnone, wE_var, wE_bin, wE_cmp, wE_or2, wE_ite, wE_tup, wE_lst, wE_dctI, wE_dctS, wE_sub, wE_slTo, wE_slFrom, wE_attr, wE_call, wE_new, wE_meth, wE_bcall, wE_bmeth, wE_comp, wE_compIf, wE_comp2, wL_nil, wL_cons, look_c, Nat.reduceBEq, cond_true, cond_false]
  refine law_box_ok hn fun b H₁ _ _ hb => ?_
  first | rw [wZ_cons] | rw [wZ_nil]
  dsimp only [wS_asg, wS_asgC, wS_asgT, wS_asgA, wS_asgI, wS_aug, wS_augA, wS_for, wS_forT, wS_while, wS_if, wS_ret, wS_expr, wS_brk, wE_cint, wE_cneg, wE_cstr, wE_cbool, wE_cnone, wE_var, wE_bin, wE_cmp, wE_or2, wE_ite, wE_tup, wE_lst, wE_dctI, wE_dctS, wE_sub, wE_slTo, wE_slFrom, wE_attr, wE_call, wE_new, wE_meth, wE_bcall, wE_bmeth, wE_comp, wE_compIf, wE_comp2, wL_nil, wL_cons]
  first | rw [wZ_cons] | rw [wZ_nil]
  dsimp only [wS_asg, wS_asgC, wS_asgT, wS_asgA, wS_asgI, wS_aug, wS_augA, wS_for, wS_forT, wS_while, wS_if, wS_ret, wS_expr, wS_brk, wE_cint, wE_cneg, wE_cstr, wE_cbool, wE_cnone, wE_var, wE_bin, wE_cmp, wE_or2, wE_ite, wE_tup, wE_lst, wE_dctI, wE_dctS, wE_sub, wE_slTo, wE_slFrom, wE_attr, wE_call, wE_new, wE_meth, wE_bcall, wE_bmeth, wE_comp, wE_compIf, wE_comp2, wL_nil, wL_cons]
  show Ss.wp (CN FT 11) (.cons lwFor1 _) ((46, .ref (H₁ ++ [O.list []]).length) :: (55, .ref H₁.length) :: (50, .ref b) :: (48, .frz ns) :: []) (H₁ ++ [O.list []] ++ [O.dict []]) _
  first | rw [wZ_cons] | rw [wZ_nil]
  have L : LawAt (H₁ ++ [O.list []] ++ [O.dict []]) b H₁.length (H₁ ++ [O.list []]).length false false := by
    refine ⟨hb.keep (Keep.push.trans Keep.push), Keep.push.at get_last, get_last, Nat.ne_of_lt hb.lt, ?_, ?_⟩
    · have := hb.lt; simp; omega
    · simp
  refine lwFor1_ok L rfl rfl rfl fun x y ρ₁ H₂ hρ L₂ => ?_
  show Ss.wp (CN FT 11) (.cons (.for_ 58 (.bcall .range (.cons (.cint 3) .nil)) lwTurn) _) ρ₁ H₂ _
  first | rw [wZ_cons] | rw [wZ_nil]
  dsimp only [wS_asg, wS_asgC, wS_asgT, wS_asgA, wS_asgI, wS_aug, wS_augA, wS_for, wS_forT, wS_while, wS_if, wS_ret, wS_expr, wS_brk, wE_cint, wE_cneg, wE_cstr, wE_cbool, wE_cnone, wE_var, wE_bin, wE_cmp, wE_or2, wE_ite, wE_tup, wE_lst, wE_dctI, wE_dctS, wE_sub, wE_slTo, wE_slFrom, wE_attr, wE_call, wE_new, wE_meth, wE_bcall, wE_bmeth, wE_comp, wE_compIf, wE_comp2, wL_nil, wL_cons]
  refine f_rng (by decide) (by decide) ?_
  refine forW_fold (σ := Unit) (vs := rngV 3) (step := fun _ _ => ()) (s₀ := ())
    (fun _ _ ρ' H' => look 50 ρ' = some (.ref b) ∧ look 55 ρ' = some (.ref H₁.length) ∧ look 46 ρ' = some (.ref (H₁ ++ [O.list []]).length) ∧ LawAt H' b H₁.length (H₁ ++ [O.list []]).length x y) ?_ ?_ ⟨?_, ?_, ?_, L₂⟩ ?_
  · exact fun _ _ _ _ _ => trivial
  · rintro j _ w ρ' H' _ _ ⟨e1, e2, e3, L'⟩
    refine ⟨_, rfl, fun K' hK => ?_⟩
    exact lwTurn_ok (n := 2) L' (lc rfl e1) (lc rfl e2) (lc rfl e3) fun ρ'' H'' a1 a2 a3 a4 => hK ρ'' H'' ⟨a1, a2, a3, a4⟩
  · rw [hρ 50 (by decide) (by decide)]; rfl
  · rw [hρ 55 (by decide) (by decide)]; rfl
  · rw [hρ 46 (by decide) (by decide)]; rfl
  · rintro ρ' H' ⟨e1, _, _, L'⟩
    first | rw [wZ_cons] | rw [wZ_nil]
    dsimp only [wS_asg, wS_asgC, wS_asgT, wS_asgA, wS_asgI, wS_aug, wS_augA, wS_for, wS_forT, wS_while, wS_if, wS_ret, wS_expr, wS_brk, wE_cint, wE_cneg, wE_cstr, wE_cbool, wE_cnone, wE_var, wE_bin, wE_cmp, wE_or2, wE_ite, wE_tup, wE_lst, wE_dctI, wE_dctS, wE_sub, wE_slTo, wE_slFrom, wE_attr, wE_call, wE_new, wE_meth, wE_bcall, wE_bmeth, wE_comp, wE_compIf, wE_comp2, wL_nil, wL_cons]
    refine w_look e1 ?_
    exact reb _ _ _ L'.box fun H'' => rfl
end Mine

namespace Mine
open PySem PySem.W PyProof.Rows

/-- a netlist's dict -/
structure NsOf (l : List (Nat × V)) (cnt : Int) (ii oi ci n : Nat) : Prop where
  name : look 64 l = some (.str 12)
  count : look 33 l = some (.int cnt)
  ins : look 34 l = some (.ref ii)
  outs : look 35 l = some (.ref oi)
  cells : look 32 l = some (.ref ci)
  meth : ∀ m ∈ methL, look m l = none
  few : l.length ≤ n
structure NetAt (H : Hp) (a : Nat) (cnt : Int) (ii oi ci n : Nat) : Prop where
  ns : ∃ l, H[a]? = some (.ns l) ∧ NsOf l cnt ii oi ci n
  ai : a ≠ ii
  ao : a ≠ oi
  ac : a ≠ ci
  io : ii ≠ oi
  ic : ii ≠ ci
  oc : oi ≠ ci
theorem NetAt.keep {H H' : Hp} {W : List Nat} {a cnt ii oi ci n} (x : NetAt H a cnt ii oi ci n) (k : Keep W H H') (h : a ∉ W) : NetAt H' a cnt ii oi ci n :=
  ⟨let ⟨l, e, r⟩ := x.ns; ⟨l, k.2 a _ h e, r⟩, x.ai, x.ao, x.ac, x.io, x.ic, x.oc⟩
theorem NsOf.tick {l cnt ii oi ci n} (x : NsOf l cnt ii oi ci n) (d : Int) : NsOf ((33, .int d) :: l) d ii oi ci (n + 1) :=
  ⟨by rw [look_cons, if_neg (by decide)]; exact x.name, by rw [look_cons, if_pos rfl], by rw [look_cons, if_neg (by decide)]; exact x.ins, by rw [look_cons, if_neg (by decide)]; exact x.outs, by rw [look_cons, if_neg (by decide)]; exact x.cells,
   fun m hm => by
    rw [look_cons, if_neg (fun q => by subst q; revert hm; decide)]; exact x.meth m hm, by simp; exact x.few⟩
theorem keep_to {W H H'} (k : Keep W H H') {j : Nat} {o : O} (e : H[j]? = some o) (h : j ∉ W) : H'[j]? = some o := k.2 j o h e

theorem new_net_ok {k a ii oi ci n : Nat} {cnt : Int} {H : Hp} {Q : PV} (x : NetAt H a cnt ii oi ci n) (hn : n < 100) (h : ∀ H', Keep [a] H H' → NetAt H' a (cnt + 1) ii oi ci (n + 1) → Q (.int cnt) H') : CN FT (k + 1) 106 [.inst a] H Q := by
  refine CN_step rfl rfl ?_
  obtain ⟨l, e, r⟩ := x.ns
  dsimp only [fn_m_new_net, wZ_nil, wZ_cons, wS_asg, wS_asgC, wS_asgT, wS_asgA, wS_asgI, wS_aug, wS_augA, wS_for, wS_forT, wS_while, wS_if, wS_ret, wS_expr, wS_brk, wE_cint, wE_cneg, wE_cstr, wE_cbool, wE_cnone, wE_var, wE_bin, wE_cmp, wE_or2, wE_ite, wE_tup, wE_lst, wE_dctI, wE_dctS, wE_sub, wE_slTo, wE_slFrom, wE_attr, wE_call, wE_new, wE_meth, wE_bcall, wE_bmeth, wE_comp, wE_compIf, wE_comp2, wL_nil, wL_cons, wT_not, wT_tand, wT_tor, wT_cmp, wT_var, wT_bin, wT_sub, wT_call, wA_nil, wA_cons, wO_nil, wO_cons, onSome, onInt, onRef, onInst, List.zip_cons_cons, List.zip_nil_right, look_c, Nat.reduceBEq, cond_true, cond_false]
  exact w_ns e (w_look r.count (w_ns e (w_look r.count (a_add (w_ns e ⟨by have := r.few; omega, h _ (Keep.set List.mem_cons_self) ⟨⟨_, set_get e, r.tick _⟩, x.ai, x.ao, x.ac, x.io, x.ic, x.oc⟩⟩)))))
theorem new_nets_ok {k a ii oi ci n : Nat} {cnt : Int} {H : Hp} {Q : PV} (x : NetAt H a cnt ii oi ci n) (hn : n < 90)
    (h : ∀ H' r, Keep [a] H H' → H.length ≤ r → H'[r]? = some (.list [.int cnt, .int (cnt + 1)]) → NetAt H' a (cnt + 2) ii oi ci (n + 2) → Q (.ref r) H') : CN FT (k + 2) 107 [.inst a, .int 2] H Q := by
  refine CN_step rfl rfl ?_
  dsimp only [fn_m_new_nets, wZ_nil, wZ_cons, wS_asg, wS_asgC, wS_asgT, wS_asgA, wS_asgI, wS_aug, wS_augA, wS_for, wS_forT, wS_while, wS_if, wS_ret, wS_expr, wS_brk, wE_cint, wE_cneg, wE_cstr, wE_cbool, wE_cnone, wE_var, wE_bin, wE_cmp, wE_or2, wE_ite, wE_tup, wE_lst, wE_dctI, wE_dctS, wE_sub, wE_slTo, wE_slFrom, wE_attr, wE_call, wE_new, wE_meth, wE_bcall, wE_bmeth, wE_comp, wE_compIf, wE_comp2, wL_nil, wL_cons, wT_not, wT_tand, wT_tor, wT_cmp, wT_var, wT_bin, wT_sub, wT_call, wA_nil, wA_cons, wO_nil, wO_cons, onSome, onInt, onRef, onInst, List.zip_cons_cons, List.zip_nil_right, look_c, Nat.reduceBEq, cond_true, cond_false]
  refine f_rng (by decide) (by decide) (And.intro (by show 2 ≤ 100000; decide) ?_)
  refine compW_fold (vs := rngV 2) (fun m H' acc => Keep [a] H H' ∧ NetAt H' a (cnt + m) ii oi ci (n + m) ∧ acc = (List.range m).map fun (j : Nat) => V.int (cnt + j)) (fun _ _ _ _ => trivial) ?_ ⟨.refl, by simpa using x, rfl⟩ ?_
  · rintro m v H' acc hm hv ⟨k₁, x₁, rfl⟩ K' hK'
    have hm : m < 2 := by rw [rngV_len] at hm; exact hm
    obtain ⟨l, e, r⟩ := x₁.ns
    have hmeth := r.meth 106 (by decide)
    refine w_ns e ⟨hmeth, new_net_ok x₁ (by omega) fun H'' k₂ x₂ => hK' _ _ ⟨k₁.trans k₂, ?_, ?_⟩⟩
    · have e1 : cnt + (m : Int) + 1 = cnt + ((m + 1 : Nat) : Int) := by omega
      rw [e1] at x₂; exact x₂
    · rw [List.range_succ, List.map_append]; rfl
  · rintro H' acc ⟨k₁, x₁, rfl⟩
    refine h _ _ (k₁.trans Keep.push) k₁.1 ?_ (x₁.keep Keep.push (by simp : a ∉ []))
    rw [get_last]
    simp [rngV, List.range, List.range.loop]
theorem add_input_ok {k a ii oi ci n : Nat} {cnt : Int} {L : List V} {H : Hp} {Q : PV} (x : NetAt H a cnt ii oi ci n) (hn : n < 90) (hi : H[ii]? = some (.list L)) (hL : L.length ≤ 100)
    (h : ∀ H' r q, Keep [a, ii] H H' → H.length ≤ r → H.length ≤ q → r ≠ q → H'[r]? = some (.list [.int cnt, .int (cnt + 1)]) → H'[q]? = some (.list [.int cnt, .int (cnt + 1)]) → H'[ii]? = some (.list (L ++ [.tup [.str 13, .ref q]])) → NetAt H' a (cnt + 2) ii oi ci (n + 2) → Q (.ref r) H') :
    CN FT (k + 3) 108 [.inst a, .str 13, .int 2] H Q := by
  refine CN_step rfl rfl ?_
  obtain ⟨l, e, r⟩ := x.ns
  have hmeth := r.meth 107 (by decide)
  dsimp only [fn_m_add_input, wZ_nil, wZ_cons, wS_asg, wS_asgC, wS_asgT, wS_asgA, wS_asgI, wS_aug, wS_augA, wS_for, wS_forT, wS_while, wS_if, wS_ret, wS_expr, wS_brk, wE_cint, wE_cneg, wE_cstr, wE_cbool, wE_cnone, wE_var, wE_bin, wE_cmp, wE_or2, wE_ite, wE_tup, wE_lst, wE_dctI, wE_dctS, wE_sub, wE_slTo, wE_slFrom, wE_attr, wE_call, wE_new, wE_meth, wE_bcall, wE_bmeth, wE_comp, wE_compIf, wE_comp2, wL_nil, wL_cons, wT_not, wT_tand, wT_tor, wT_cmp, wT_var, wT_bin, wT_sub, wT_call, wA_nil, wA_cons, wO_nil, wO_cons, onSome, onInt, onRef, onInst, List.zip_cons_cons, List.zip_nil_right, look_c, Nat.reduceBEq, cond_true, cond_false]
  refine w_ns e ⟨hmeth, new_nets_ok x hn fun H₁ rr k₁ hr hg x₁ => ?_⟩
  obtain ⟨l₁, e₁, r₁⟩ := x₁.ns
  have hi₁ := keep_to k₁ hi (by simpa using x.ai.symm)
  have hil := lt_of_get hi
  have hi₂ : (H₁ ++ [O.list [.int cnt, .int (cnt + 1)]])[ii]? = some (.list L) := Keep.push.at hi₁
  refine w_ns e₁ (w_look r₁.ins ⟨h_app hi₁, f_lst hg (by show 2 ≤ 10000; decide) (m_app hi₂ (by omega) ⟨rfl, ?_⟩)⟩)
  have hne : rr ≠ H₁.length := Nat.ne_of_lt (lt_of_get hg)
  refine h _ rr H₁.length ?_ hr k₁.1 hne ?_ ?_ (set_get hi₂) ?_
  · exact ((k₁.mono (by simp)).trans Keep.push).trans (Keep.set (by simp))
  · rw [List.getElem?_set_ne (by omega)]; exact Keep.push.at hg
  · rw [List.getElem?_set_ne (by have := k₁.1; omega)]; exact get_last
  · exact (x₁.keep Keep.push (by simp : a ∉ [])).keep (Keep.set (W := [ii]) (by simp)) (by simpa using x.ai)
theorem drive_tup {k a ii oi ci n : Nat} {cnt out : Int} {kind : Nat} {ins : List V} {p : V} {L : List V} {H : Hp} {Q : PV} (x : NetAt H a cnt ii oi ci n) (hc : H[ci]? = some (.list L)) (hL : L.length ≤ 100)
    (h : ∀ H', Keep [ci] H H' → H'[ci]? = some (.list (L ++ [.tup [.str kind, .int out, .tup ins, p]])) → Q .none H') : CN FT (k + 1) 111 [.inst a, .int out, .str kind, .tup ins, p] H Q := by
  refine CN_step rfl rfl ?_
  obtain ⟨l, e, r⟩ := x.ns
  dsimp only [fn_m_drive, wZ_nil, wZ_cons, wS_asg, wS_asgC, wS_asgT, wS_asgA, wS_asgI, wS_aug, wS_augA, wS_for, wS_forT, wS_while, wS_if, wS_ret, wS_expr, wS_brk, wE_cint, wE_cneg, wE_cstr, wE_cbool, wE_cnone, wE_var, wE_bin, wE_cmp, wE_or2, wE_ite, wE_tup, wE_lst, wE_dctI, wE_dctS, wE_sub, wE_slTo, wE_slFrom, wE_attr, wE_call, wE_new, wE_meth, wE_bcall, wE_bmeth, wE_comp, wE_compIf, wE_comp2, wL_nil, wL_cons, wT_not, wT_tand, wT_tor, wT_cmp, wT_var, wT_bin, wT_sub, wT_call, wA_nil, wA_cons, wO_nil, wO_cons, onSome, onInt, onRef, onInst, List.zip_cons_cons, List.zip_nil_right, look_c, Nat.reduceBEq, cond_true, cond_false]
  exact w_ns e (w_look r.cells ⟨h_app hc, f_tupT (m_app hc (by omega) ⟨rfl, h _ (Keep.set List.mem_cons_self) (set_get hc)⟩)⟩)
theorem drive_ref {k a ii oi ci n q : Nat} {cnt out : Int} {kind : Nat} {ins : List V} {p : V} {L : List V} {H : Hp} {Q : PV} (x : NetAt H a cnt ii oi ci n) (hc : H[ci]? = some (.list L)) (hL : L.length ≤ 100) (hq : H[q]? = some (.list ins)) (hz : ins.length ≤ 100)
    (h : ∀ H', Keep [ci] H H' → H'[ci]? = some (.list (L ++ [.tup [.str kind, .int out, .tup ins, p]])) → Q .none H') : CN FT (k + 1) 111 [.inst a, .int out, .str kind, .ref q, p] H Q := by
  refine CN_step rfl rfl ?_
  obtain ⟨l, e, r⟩ := x.ns
  dsimp only [fn_m_drive, wZ_nil, wZ_cons, wS_asg, wS_asgC, wS_asgT, wS_asgA, wS_asgI, wS_aug, wS_augA, wS_for, wS_forT, wS_while, wS_if, wS_ret, wS_expr, wS_brk, wE_cint, wE_cneg, wE_cstr, wE_cbool, wE_cnone, wE_var, wE_bin, wE_cmp, wE_or2, wE_ite, wE_tup, wE_lst, wE_dctI, wE_dctS, wE_sub, wE_slTo, wE_slFrom, wE_attr, wE_call, wE_new, wE_meth, wE_bcall, wE_bmeth, wE_comp, wE_compIf, wE_comp2, wL_nil, wL_cons, wT_not, wT_tand, wT_tor, wT_cmp, wT_var, wT_bin, wT_sub, wT_call, wA_nil, wA_cons, wO_nil, wO_cons, onSome, onInt, onRef, onInst, List.zip_cons_cons, List.zip_nil_right, look_c, Nat.reduceBEq, cond_true, cond_false]
  exact w_ns e (w_look r.cells ⟨h_app hc, f_tupL hq (by omega) (m_app hc (by omega) ⟨rfl, h _ (Keep.set List.mem_cons_self) (set_get hc)⟩)⟩)
theorem add_cell_ok {k a ii oi ci n : Nat} {cnt : Int} {ins : List V} {L : List V} {H : Hp} {Q : PV} (x : NetAt H a cnt ii oi ci n) (hn : n < 90) (hc : H[ci]? = some (.list L)) (hL : L.length ≤ 100)
    (h : ∀ H', Keep [a, ci] H H' → NetAt H' a (cnt + 1) ii oi ci (n + 1) → H'[ci]? = some (.list (L ++ [.tup [.str 0, .int cnt, .tup ins, .none]])) → Q (.int cnt) H') : CN FT (k + 2) 110 [.inst a, .str 0, .tup ins] H Q := by
  refine CN_step rfl rfl ?_
  obtain ⟨l, e, r⟩ := x.ns
  have hmeth := r.meth 106 (by decide)
  dsimp only [fn_m_add_cell, List.cons_append, List.nil_append, wZ_nil, wZ_cons, wS_asg, wS_asgC, wS_asgT, wS_asgA, wS_asgI, wS_aug, wS_augA, wS_for, wS_forT, wS_while, wS_if, wS_ret, wS_expr, wS_brk, wE_cint, wE_cneg, wE_cstr, wE_cbool, wE_cnone, wE_var, wE_bin, wE_cmp, wE_or2, wE_ite, wE_tup, wE_lst, wE_dctI, wE_dctS, wE_sub, wE_slTo, wE_slFrom, wE_attr, wE_call, wE_new, wE_meth, wE_bcall, wE_bmeth, wE_comp, wE_compIf, wE_comp2, wL_nil, wL_cons, wT_not, wT_tand, wT_tor, wT_cmp, wT_var, wT_bin, wT_sub, wT_call, wA_nil, wA_cons, wO_nil, wO_cons, onSome, onInt, onRef, onInst, List.zip_cons_cons, List.zip_nil_right, look_c, Nat.reduceBEq, cond_true, cond_false]
  refine w_ns e ⟨hmeth, new_net_ok x (by omega) fun H₁ k₁ x₁ => ?_⟩
  obtain ⟨l₁, e₁, r₁⟩ := x₁.ns
  have hmeth₁ := r₁.meth 111 (by decide)
  have hc₁ := keep_to k₁ hc (by simpa using x.ac.symm)
  refine w_ns e₁ ⟨hmeth₁, drive_tup x₁ hc₁ hL fun H₂ k₂ hc₂ => ?_⟩
  refine ⟨rfl, h _ ((k₁.mono (by simp)).trans (k₂.mono (by simp))) (x₁.keep k₂ (by simpa using x.ac)) hc₂⟩
theorem add_output_ok {k a ii oi ci n q : Nat} {cnt : Int} {nm : Nat} {L O' : List V} {H : Hp} {Q : PV} (x : NetAt H a cnt ii oi ci n) (ho : H[oi]? = some (.list O')) (hO : O'.length ≤ 100) (hq : H[q]? = some (.list L)) (hL : L.length ≤ 100)
    (h : ∀ H' q', Keep [oi] H H' → H.length ≤ q' → H'[q']? = some (.list L) → H'[oi]? = some (.list (O' ++ [.tup [.str nm, .ref q']])) → Q .none H') : CN FT (k + 1) 109 [.inst a, .str nm, .ref q] H Q := by
  refine CN_step rfl rfl ?_
  obtain ⟨l, e, r⟩ := x.ns
  have ho₂ : (H ++ [O.list L])[oi]? = some (.list O') := Keep.push.at ho
  dsimp only [fn_m_add_output, wZ_nil, wZ_cons, wS_asg, wS_asgC, wS_asgT, wS_asgA, wS_asgI, wS_aug, wS_augA, wS_for, wS_forT, wS_while, wS_if, wS_ret, wS_expr, wS_brk, wE_cint, wE_cneg, wE_cstr, wE_cbool, wE_cnone, wE_var, wE_bin, wE_cmp, wE_or2, wE_ite, wE_tup, wE_lst, wE_dctI, wE_dctS, wE_sub, wE_slTo, wE_slFrom, wE_attr, wE_call, wE_new, wE_meth, wE_bcall, wE_bmeth, wE_comp, wE_compIf, wE_comp2, wL_nil, wL_cons, wT_not, wT_tand, wT_tor, wT_cmp, wT_var, wT_bin, wT_sub, wT_call, wA_nil, wA_cons, wO_nil, wO_cons, onSome, onInt, onRef, onInst, List.zip_cons_cons, List.zip_nil_right, look_c, Nat.reduceBEq, cond_true, cond_false]
  have := lt_of_get ho
  refine w_ns e (w_look r.outs ⟨h_app ho, f_lst hq (by omega) (m_app ho₂ (by omega) ⟨rfl, h _ H.length (Keep.push.trans (Keep.set List.mem_cons_self)) (Nat.le_refl _) ?_ (set_get ho₂)⟩)⟩)
  rw [List.getElem?_set_ne (by omega)]; exact get_last
end Mine

namespace Mine
open PySem PySem.W PyProof.Rows

theorem init_ok {k a : Nat} {H : Hp} {Q : PV} (e : H[a]? = some (.ns [])) (h : ∀ H' ii oi ci, Keep [a] H H' → H.length ≤ ii → H.length ≤ oi → H.length ≤ ci → NetAt H' a 2 ii oi ci 5 → H'[ii]? = some (.list []) → H'[oi]? = some (.list []) → H'[ci]? = some (.list []) → Q .none H') :
    CN FT (k + 1) cInit [.inst a, .str 12] H Q := by
  refine CN_step rfl rfl ?_
  have ha := lt_of_get e
  have st : ∀ {H₁ : Hp} {l : List (Nat × V)} (x : Nat × V), H₁[a]? = some (.ns l) → (H₁.set a (.ns (x :: l)))[a]? = some (.ns (x :: l)) ∧ Keep [a] H₁ (H₁.set a (.ns (x :: l))) ∧ (H₁.set a (.ns (x :: l))).length = H₁.length := fun x q => ⟨set_get q, Keep.set List.mem_cons_self, List.length_set⟩
  have sl : ∀ {H₁ : Hp} {l : List (Nat × V)} (x : Nat × V), H₁[a]? = some (.ns l) → (H₁ ++ [O.list []])[a]? = some (.ns l) ∧ ((H₁ ++ [O.list []]).set a (.ns (x :: l)))[a]? = some (.ns (x :: l)) ∧ ((H₁ ++ [O.list []]).set a (.ns (x :: l)))[H₁.length]? = some (.list []) ∧ Keep [a] H₁ ((H₁ ++ [O.list []]).set a (.ns (x :: l))) ∧ ((H₁ ++ [O.list []]).set a (.ns (x :: l))).length = H₁.length + 1 := fun x q => by
    have q' := (Keep.push (W := []) (o := .list [])).at q
    refine ⟨q', set_get q', ?_, Keep.push.trans (Keep.set List.mem_cons_self), by rw [List.length_set, List.length_append]; rfl⟩
    have := lt_of_get q
    rw [List.getElem?_set_ne (by omega)]; exact get_last
  dsimp only [fn_m_init, wZ_nil, wZ_cons, wS_asg, wS_asgC, wS_asgT, wS_asgA, wS_asgI, wS_aug, wS_augA, wS_for, wS_forT, wS_while, wS_if, wS_ret, wS_expr, wS_brk, wE_cint, wE_cneg, wE_cstr, wE_cbool, wE_cnone, wE_var, wE_bin, wE_cmp, wE_or2, wE_ite, wE_tup, wE_lst, wE_dctI, wE_dctS, wE_sub, wE_slTo, wE_slFrom, wE_attr, wE_call, wE_new, wE_meth, wE_bcall, wE_bmeth, wE_comp, wE_compIf, wE_comp2, wL_nil, wL_cons, wT_not, wT_tand, wT_tor, wT_cmp, wT_var, wT_bin, wT_sub, wT_call, wA_nil, wA_cons, wO_nil, wO_cons, onSome, onInt, onRef, onInst, List.zip_cons_cons, List.zip_nil_right, look_c, Nat.reduceBEq, cond_true, cond_false]
  obtain ⟨e1, k1, l1⟩ := st (64, .str 12) e
  refine w_ns e ⟨by decide, ?_⟩
  generalize H.set a (.ns [(64, .str 12)]) = H₁ at e1 k1 l1 ⊢
  obtain ⟨e2, k2, l2⟩ := st (33, .int 2) e1
  refine w_ns e1 ⟨by show 1 ≤ 100; decide, ?_⟩
  generalize H₁.set a (.ns [(33, .int 2), (64, .str 12)]) = H₂ at e2 k2 l2 ⊢
  obtain ⟨f3, e3, i3, k3, l3⟩ := sl (34, .ref H₂.length) e2
  refine w_ns f3 ⟨by show 2 ≤ 100; decide, ?_⟩
  generalize (H₂ ++ [O.list []]).set a (.ns [(34, .ref H₂.length), (33, .int 2), (64, .str 12)]) = H₃ at e3 i3 k3 l3 ⊢
  obtain ⟨f4, e4, i4, k4, l4⟩ := sl (35, .ref H₃.length) e3
  refine w_ns f4 ⟨by show 3 ≤ 100; decide, ?_⟩
  generalize (H₃ ++ [O.list []]).set a (.ns [(35, .ref H₃.length), (34, .ref H₂.length), (33, .int 2), (64, .str 12)]) = H₄ at e4 i4 k4 l4 ⊢
  obtain ⟨f5, e5, i5, k5, l5⟩ := sl (32, .ref H₄.length) e4
  refine w_ns f5 ⟨by show 4 ≤ 100; decide, ?_⟩
  generalize (H₄ ++ [O.list []]).set a (.ns [(32, .ref H₄.length), (35, .ref H₃.length), (34, .ref H₂.length), (33, .int 2), (64, .str 12)]) = H₅ at e5 i5 k5 l5 ⊢
  refine h H₅ H₂.length H₃.length H₄.length ((((k1.trans k2).trans k3).trans k4).trans k5) (by omega) (by omega) (by omega) ⟨⟨_, e5, rfl, rfl, rfl, rfl, rfl, ?_, Nat.le_refl 5⟩, by omega, by omega, by omega, by omega, by omega, by omega⟩ ?_ ?_ i5
  · intro m hm
    rcases List.mem_cons.mp hm with rfl | hm
    · rfl
    rcases List.mem_cons.mp hm with rfl | hm
    · rfl
    rcases List.mem_cons.mp hm with rfl | hm
    · rfl
    rcases List.mem_cons.mp hm with rfl | hm
    · rfl
    rcases List.mem_cons.mp hm with rfl | hm
    · rfl
    rw [List.mem_singleton.mp hm]; rfl
  · exact k5.2 _ _ (n1 (by omega)) (k4.2 _ _ (n1 (by omega)) i3)
  · exact k5.2 _ _ (n1 (by omega)) i4

/-! the chain of replaced nets -/
noncomputable def ROk (R : List (Int × Int)) : Prop := ∀ x y, lookI x R = some y → 0 ≤ y ∧ y < x
noncomputable def finN (R : List (Int × Int)) : Nat → Int → Int
  | 0, x => x
  | k + 1, x => match lookI x R with
    | some y => finN R k y
    | none => x
noncomputable def lastF (R : List (Int × Int)) (x : Int) : Int := finN R x.toNat x
theorem finN_none {R k x} (h : lookI x R = none) : finN R k x = x := by
  cases k with
  | zero => rfl
  | succ k => simp only [finN, h]
theorem finN_some {R k x y} (h : lookI x R = some y) : finN R (k + 1) x = finN R k y := by simp only [finN, h]
theorem finN_same {R} (hR : ROk R) : ∀ (k j : Nat) (x : Int), x.toNat ≤ k → x.toNat ≤ j → finN R k x = finN R j x := by
  intro k
  induction k with
  | zero =>
    intro j x h1 h2
    have : lookI x R = none := by
      cases e : lookI x R with
      | none => rfl
      | some y => have := hR x y e; omega
    rw [finN_none this, finN_none this]
  | succ k ih =>
    intro j x h1 h2
    cases e : lookI x R with
    | none => rw [finN_none e, finN_none e]
    | some y =>
      have hy := hR x y e
      obtain ⟨j', rfl⟩ : ∃ j', j = j' + 1 := ⟨j - 1, by omega⟩
      rw [finN_some e, finN_some e]
      exact ih j' y (by omega) (by omega)
theorem last_some {R x y} (hR : ROk R) (h : lookI x R = some y) : lastF R x = lastF R y := by
  have hy := hR x y h
  unfold lastF
  obtain ⟨m, hm⟩ : ∃ m, x.toNat = m + 1 := ⟨x.toNat - 1, by omega⟩
  rw [hm, finN_some h]
  exact finN_same hR _ _ _ (by omega) (Nat.le_refl _)
theorem last_none {R x} (h : lookI x R = none) : lastF R x = x := finN_none h
noncomputable def fnTest : E := .cmp .In (.var 30) (.var 29)
noncomputable def fnBody : Ss := .cons (.asg 30 (.sub (.var 29) (.var 30))) .nil
theorem fn_loop {C : CallT} {ri : Nat} {R : List (Int × Int)} {H : Hp} {K : PS} (hR : ROk R) (hr : H[ri]? = some (dictV R)) : ∀ (m : Nat) (x : Int) (ρ : Rho), x.toNat < m → look 29 ρ = some (.ref ri) → look 30 ρ = some (.int x) →
    (∀ ρ', look 30 ρ' = some (.int (lastF R x)) → K .next ρ' H) → whileN (E.wt C fnTest) (Ss.wp C fnBody) m ρ H K
  | 0, x, ρ, h, _, _, _ => by omega
  | m + 1, x, ρ, h, e1, e2, hK => by
    have ih := fun x' ρ' => fn_loop (C := C) (K := K) hR hr m x' ρ'
    rw [whileN]
    generalize whileN (E.wt C fnTest) (Ss.wp C fnBody) m = W at ih ⊢
    dsimp only [fnTest, fnBody, wZ_nil, wZ_cons, wS_asg, wS_asgC, wS_asgT, wS_asgA, wS_asgI, wS_aug, wS_augA, wS_for, wS_forT, wS_while, wS_if, wS_ret, wS_expr, wS_brk, wE_cint, wE_cneg, wE_cstr, wE_cbool, wE_cnone, wE_var, wE_bin, wE_cmp, wE_or2, wE_ite, wE_tup, wE_lst, wE_dctI, wE_dctS, wE_sub, wE_slTo, wE_slFrom, wE_attr, wE_call, wE_new, wE_meth, wE_bcall, wE_bmeth, wE_comp, wE_compIf, wE_comp2, wL_nil, wL_cons, wT_not, wT_tand, wT_tor, wT_cmp, wT_var, wT_bin, wT_sub, wT_call, wA_nil, wA_cons, wO_nil, wO_cons, onSome, onInt, onRef, onInst, List.zip_cons_cons, List.zip_nil_right, look_c, Nat.reduceBEq, cond_true, cond_false]
    refine w_look e2 (w_look e1 (c_inD hr ?_))
    rw [lookI_map]
    cases e : lookI x R with
    | none => exact w_f (hK ρ (by rw [last_none e]; exact e2))
    | some y =>
      have hy := hR x y e
      exact w_t (w_look e1 (w_look e2 (s_d (d := .int y) hr (by rw [lookI_map, e]; rfl) (ih y ((30, .int y) :: ρ) (by omega) (lc rfl e1) rfl fun ρ' h' => hK ρ' (by rw [last_some hR e]; exact h')))))
theorem final_net_ok {k ri : Nat} {R : List (Int × Int)} {x : Int} {H : Hp} {Q : PV} (hR : ROk R) (hr : H[ri]? = some (dictV R)) (h : Q (.int (lastF R x)) H) : CN FT (k + 1) 83 [.ref ri, .int x] H Q := by
  refine CN_step rfl rfl ?_
  show Ss.wp (CN FT k) (.cons (.while_ fnTest fnBody) (.cons (.ret (.var 30)) .nil)) [(29, .ref ri), (30, .int x)] H (retK Q)
  rw [wZ_cons, wS_while]
  refine ⟨x.toNat + 1, fn_loop hR hr _ x _ (by omega) rfl rfl fun ρ' e => ?_⟩
  show Ss.wp (CN FT k) (.cons (.ret (.var 30)) .nil) ρ' H (retK Q)
  dsimp only [wZ_nil, wZ_cons, wS_asg, wS_asgC, wS_asgT, wS_asgA, wS_asgI, wS_aug, wS_augA, wS_for, wS_forT, wS_while, wS_if, wS_ret, wS_expr, wS_brk, wE_cint, wE_cneg, wE_cstr, wE_cbool, wE_cnone, wE_var, wE_bin, wE_cmp, wE_or2, wE_ite, wE_tup, wE_lst, wE_dctI, wE_dctS, wE_sub, wE_slTo, wE_slFrom, wE_attr, wE_call, wE_new, wE_meth, wE_bcall, wE_bmeth, wE_comp, wE_compIf, wE_comp2, wL_nil, wL_cons, wT_not, wT_tand, wT_tor, wT_cmp, wT_var, wT_bin, wT_sub, wT_call, wA_nil, wA_cons, wO_nil, wO_cons, onSome, onInt, onRef, onInst, List.zip_cons_cons, List.zip_nil_right, look_c, Nat.reduceBEq, cond_true, cond_false]
  exact w_look e h
end Mine

namespace Mine
open PySem PySem.W PyProof.Rows

noncomputable def cellsV (CL : List (Int × List Int)) : List V := CL.map fun c => V.tup [.str 0, .int c.1, .tup (c.2.map V.int), .none]
noncomputable def dueF (R : List (Int × Int)) (CL : List (Int × List Int)) : List (Int × List Int) := (CL.filter fun c => !(lookI c.1 R).isSome).map fun c => (c.1, c.2.map (lastF R))
theorem dueF_snoc {R CL c} : dueF R (CL ++ [c]) = dueF R CL ++ (if (!(lookI c.1 R).isSome) = true then [(c.1, c.2.map (lastF R))] else []) := by
  unfold dueF
  rw [List.filter_append, List.map_append]
  congr 1
  rw [List.filter_cons]
  split <;> simp
theorem cellsV_snoc {CL c} : cellsV (CL ++ [c]) = cellsV CL ++ [.tup [.str 0, .int c.1, .tup (c.2.map V.int), .none]] := by simp [cellsV]
theorem dueF_len {R CL} : (dueF R CL).length ≤ CL.length := by
  unfold dueF; rw [List.length_map]; exact List.length_filter_le _ _

noncomputable def rcFor1 : S := (.forT [64, 45] (.attr (.var 31) 34) (.cons (.expr (.bmeth (.attr (.var 28) 34) .append (.cons (.tup (.cons (.var 64) (.cons (.bcall .list (.cons (.var 45) .nil)) .nil))) .nil)))
    .nil))
noncomputable def rcFor2 : S := (.forT [40, 66, 43, 47] (.var 32) (.cons (.if_ (.cmp .NotIn (.var 66) (.var 29)) (.cons (.expr (.meth (.var 28) 111 (.cons (.var 66) (.cons (.var 40) (.cons (.comp (.call 83 (.cons (.var 29) (.cons (.var 30) .nil))) 30 (.var 43) [29]) (.cons (.var 47) .nil))))))
    .nil) .nil)
    .nil))
noncomputable def rcFor3 : S := (.forT [64, 45] (.attr (.var 31) 35) (.cons (.expr (.meth (.var 28) 109 (.cons (.var 64) (.cons (.comp (.call 83 (.cons (.var 29) (.cons (.var 30) .nil))) 30 (.var 45) [29]) .nil))))
    .nil))

/-- the comprehension of final nets -/
theorem fin_comp {k ri : Nat} {R : List (Int × Int)} {ins : List Int} {ρ : Rho} {H : Hp} {st : Hp → Prop} {K : List V → Hp → Prop} (hst : st H) (hR : ROk R) (hr : H[ri]? = some (dictV R)) (e : look 29 ρ = some (.ref ri))
    (h : K ((ins.map (lastF R)).map V.int) H) : compW (fun v H K => E.wp (CN FT (k + 1)) (.call 83 (.cons (.var 29) (.cons (.var 30) .nil))) ((30, v) :: keepV [29] ρ) H K) st (ins.map V.int) H [] K := by
  refine compW_fold (fun m H' acc => H' = H ∧ acc = ((ins.take m).map (lastF R)).map V.int) (fun _ H' _ hI => by rw [hI.1]; exact hst) ?_ ⟨rfl, rfl⟩ ?_
  · rintro m v H' acc hm hv ⟨rfl, rfl⟩ K'' hK''
    have hm : m < ins.length := by rw [List.length_map] at hm; exact hm
    rw [int_at hm] at hv
    cases hv
    dsimp only [wZ_nil, wZ_cons, wS_asg, wS_asgC, wS_asgT, wS_asgA, wS_asgI, wS_aug, wS_augA, wS_for, wS_forT, wS_while, wS_if, wS_ret, wS_expr, wS_brk, wE_cint, wE_cneg, wE_cstr, wE_cbool, wE_cnone, wE_var, wE_bin, wE_cmp, wE_or2, wE_ite, wE_tup, wE_lst, wE_dctI, wE_dctS, wE_sub, wE_slTo, wE_slFrom, wE_attr, wE_call, wE_new, wE_meth, wE_bcall, wE_bmeth, wE_comp, wE_compIf, wE_comp2, wL_nil, wL_cons, wT_not, wT_tand, wT_tor, wT_cmp, wT_var, wT_bin, wT_sub, wT_call, wA_nil, wA_cons, wO_nil, wO_cons, onSome, onInt, onRef, onInst, List.zip_cons_cons, List.zip_nil_right, look_c, Nat.reduceBEq, cond_true, cond_false]
    refine w_look (lk rfl e) (final_net_ok hR hr (hK'' _ _ ⟨rfl, ?_⟩))
    rw [List.map_map, List.map_map]
    exact take_snoc (V.int ∘ lastF R) hm
  · rintro H' acc ⟨rfl, rfl⟩
    rw [List.length_map, List.take_of_length_le (Nat.le_refl _)]
    exact h

/-- the old netlist, whole -/
structure OldAt (H : Hp) (a : Nat) (cnt : Int) (ii oi ci n iq oq : Nat) (CL : List (Int × List Int)) (OL : List Int) : Prop where
  net : NetAt H a cnt ii oi ci n
  ins : H[ii]? = some (.list [.tup [.str 13, .ref iq]])
  insL : H[iq]? = some (.list [.int 2, .int 3])
  outs : H[oi]? = some (.list [.tup [.str 14, .ref oq]])
  outsL : H[oq]? = some (.list (OL.map V.int))
  cells : H[ci]? = some (.list (cellsV CL))
theorem OldAt.keep {H H' a cnt ii oi ci n iq oq CL OL} (x : OldAt H a cnt ii oi ci n iq oq CL OL) (k : Keep [] H H') : OldAt H' a cnt ii oi ci n iq oq CL OL :=
  ⟨x.net.keep k (by simp), k.at x.ins, k.at x.insL, k.at x.outs, k.at x.outsL, k.at x.cells⟩
/-- what was there before stays, whatever is done to what is new -/
theorem Keep.old {W H₀ H H'} (x : Keep [] H₀ H) (k : Keep W H H') (h : ∀ j ∈ W, H₀.length ≤ j) : Keep [] H₀ H' :=
  ⟨Nat.le_trans x.1 k.1, fun j o _ e => k.2 j o (fun m => by have := h j m; have := lt_of_get e; omega) (x.at e)⟩

theorem rcFor1_ok {C : CallT} {a b ii oi ci n iq oq i₁ o₁ c₁ n₁ : Nat} {cnt cnt₁ : Int} {CL : List (Int × List Int)} {OL : List Int} {ρ : Rho} {H : Hp} {K : PS} (x : OldAt H a cnt ii oi ci n iq oq CL OL) (y : NetAt H b cnt₁ i₁ o₁ c₁ n₁) (hi : H[i₁]? = some (.list [])) (hne : ii ≠ i₁)
    (e1 : look 28 ρ = some (.inst b)) (e2 : look 31 ρ = some (.inst a))
    (h : ∀ ρ' H' q, (∀ z, z ≠ 64 → z ≠ 45 → look z ρ' = look z ρ) → Keep [i₁] H H' → H.length ≤ q → H'[i₁]? = some (.list [.tup [.str 13, .ref q]]) → H'[q]? = some (.list [.int 2, .int 3]) → K .next ρ' H') : S.wp C rcFor1 ρ H K := by
  unfold rcFor1
  obtain ⟨l, el, r⟩ := x.net.ns
  obtain ⟨m, em, q⟩ := y.ns
  dsimp only [wZ_nil, wZ_cons, wS_asg, wS_asgC, wS_asgT, wS_asgA, wS_asgI, wS_aug, wS_augA, wS_for, wS_forT, wS_while, wS_if, wS_ret, wS_expr, wS_brk, wE_cint, wE_cneg, wE_cstr, wE_cbool, wE_cnone, wE_var, wE_bin, wE_cmp, wE_or2, wE_ite, wE_tup, wE_lst, wE_dctI, wE_dctS, wE_sub, wE_slTo, wE_slFrom, wE_attr, wE_call, wE_new, wE_meth, wE_bcall, wE_bmeth, wE_comp, wE_compIf, wE_comp2, wL_nil, wL_cons, wT_not, wT_tand, wT_tor, wT_cmp, wT_var, wT_bin, wT_sub, wT_call, wA_nil, wA_cons, wO_nil, wO_cons, onSome, onInt, onRef, onInst, List.zip_cons_cons, List.zip_nil_right, look_c, Nat.reduceBEq, cond_true, cond_false]
  have h2 : (H ++ [O.list [.int 2, .int 3]])[i₁]? = some (.list []) := Keep.push.at hi
  have hl := lt_of_get hi
  have kk : Keep [i₁] H ((H ++ [O.list [.int 2, .int 3]]).set i₁ (.list [.tup [.str 13, .ref H.length]])) := Keep.push.trans (Keep.set (by simp))
  refine w_look e2 (w_ns el (w_look r.ins ⟨⟨_, rfl⟩, i_ref x.ins ⟨x.ins, ?_⟩⟩))
  dsimp only [bindT, wZ_nil, wZ_cons, wS_asg, wS_asgC, wS_asgT, wS_asgA, wS_asgI, wS_aug, wS_augA, wS_for, wS_forT, wS_while, wS_if, wS_ret, wS_expr, wS_brk, wE_cint, wE_cneg, wE_cstr, wE_cbool, wE_cnone, wE_var, wE_bin, wE_cmp, wE_or2, wE_ite, wE_tup, wE_lst, wE_dctI, wE_dctS, wE_sub, wE_slTo, wE_slFrom, wE_attr, wE_call, wE_new, wE_meth, wE_bcall, wE_bmeth, wE_comp, wE_compIf, wE_comp2, wL_nil, wL_cons, wT_not, wT_tand, wT_tor, wT_cmp, wT_var, wT_bin, wT_sub, wT_call, wA_nil, wA_cons, wO_nil, wO_cons, onSome, onInt, onRef, onInst, List.zip_cons_cons, List.zip_nil_right, look_c, Nat.reduceBEq, cond_true, cond_false]
  refine w_look e1 (w_ns em (w_look q.ins ⟨h_app hi, f_lst x.insL (by decide) (m_app h2 (by decide) ⟨rfl, ?_⟩)⟩))
  refine ⟨keep_to kk x.ins (n1 hne), h _ _ H.length (fun z h1 h2 => ?_) kk (Nat.le_refl _) (set_get h2) ?_⟩
  · rw [look_cons, if_neg (Ne.symm h2), look_cons, if_neg (Ne.symm h1)]
  · rw [List.getElem?_set_ne (by omega)]; exact get_last
theorem rcFor3_ok {k a b ii oi ci n iq oq i₁ o₁ c₁ n₁ ri : Nat} {cnt cnt₁ : Int} {CL : List (Int × List Int)} {OL : List Int} {R : List (Int × Int)} {ρ : Rho} {H : Hp} {K : PS} (hR : ROk R) (hr : H[ri]? = some (dictV R)) (hOL : OL.length ≤ 50) (x : OldAt H a cnt ii oi ci n iq oq CL OL) (y : NetAt H b cnt₁ i₁ o₁ c₁ n₁) (ho : H[o₁]? = some (.list [])) (hne : oi ≠ o₁) (hqe : oq ≠ o₁)
    (e1 : look 28 ρ = some (.inst b)) (e2 : look 31 ρ = some (.inst a)) (e3 : look 29 ρ = some (.ref ri))
    (h : ∀ ρ' H' q, (∀ z, z ≠ 64 → z ≠ 45 → look z ρ' = look z ρ) → Keep [o₁] H H' → H.length ≤ q → H'[o₁]? = some (.list [.tup [.str 14, .ref q]]) → H'[q]? = some (.list ((OL.map (lastF R)).map V.int)) → K .next ρ' H') : S.wp (CN FT (k + 1)) rcFor3 ρ H K := by
  unfold rcFor3
  obtain ⟨l, el, r⟩ := x.net.ns
  obtain ⟨m, em, q⟩ := y.ns
  have hm := q.meth 109 (by decide)
  dsimp only [wS_asg, wS_asgC, wS_asgT, wS_asgA, wS_asgI, wS_aug, wS_augA, wS_for, wS_forT, wS_while, wS_if, wS_ret, wS_expr, wS_brk, wE_cint, wE_cneg, wE_cstr, wE_cbool, wE_cnone, wE_var, wE_bin, wE_cmp, wE_or2, wE_ite, wE_tup, wE_lst, wE_dctI, wE_dctS, wE_sub, wE_slTo, wE_slFrom, wE_attr, wE_call, wE_new, wE_meth, wE_bcall, wE_bmeth, wE_comp, wE_compIf, wE_comp2]
  refine w_look e2 (w_ns el (w_look r.outs ⟨⟨_, rfl⟩, i_ref x.outs ⟨x.outs, ?_⟩⟩))
  dsimp only [bindT, wZ_nil, wZ_cons, wS_asg, wS_asgC, wS_asgT, wS_asgA, wS_asgI, wS_aug, wS_augA, wS_for, wS_forT, wS_while, wS_if, wS_ret, wS_expr, wS_brk, wE_cint, wE_cneg, wE_cstr, wE_cbool, wE_cnone, wE_var, wE_bin, wE_cmp, wE_or2, wE_ite, wE_tup, wE_lst, wE_dctI, wE_dctS, wE_sub, wE_slTo, wE_slFrom, wE_attr, wE_call, wE_new, wE_meth, wE_bcall, wE_bmeth, wE_comp, wE_compIf, wE_comp2, wL_nil, wL_cons, look_c, Nat.reduceBEq, cond_true, cond_false]
  refine w_look e1 (w_ns em ⟨hm, i_ref x.outsL (And.intro (by rw [List.length_map]; omega) ?_)⟩)
  refine fin_comp (ρ := (45, .ref oq) :: (64, .str 14) :: ρ) (ri := ri) x.outsL hR hr (lc rfl (lc rfl e3)) ?_
  have kp : Keep [] H (H ++ [O.list ((OL.map (lastF R)).map V.int)]) := Keep.push
  refine add_output_ok (y.keep kp (by simp)) (kp.at ho) (by decide) get_last (by rw [List.length_map, List.length_map]; omega) fun H₁ q' k₁ hq hg ho₁ => ?_
  refine ⟨rfl, ?_⟩
  have kk : Keep [o₁] H H₁ := kp.nil.trans k₁
  refine ⟨keep_to kk x.outs (n1 hne), h _ _ q' (fun z h1 h2 => ?_) kk (by rw [List.length_append] at hq; omega) ho₁ hg⟩
  rw [look_cons, if_neg (Ne.symm h2), look_cons, if_neg (Ne.symm h1)]
theorem rcFor2_ok {k b cc i₁ o₁ c₁ n₁ ri : Nat} {cnt₁ : Int} {CL : List (Int × List Int)} {R : List (Int × Int)} {ρ : Rho} {H : Hp} {K : PS} (hR : ROk R) (hr : H[ri]? = some (dictV R)) (hc : H[cc]? = some (.list (cellsV CL))) (hCL : CL.length ≤ 50) (hins : ∀ c ∈ CL, c.2.length ≤ 50) (y : NetAt H b cnt₁ i₁ o₁ c₁ n₁) (hc₁ : H[c₁]? = some (.list [])) (hne : cc ≠ c₁) (hre : ri ≠ c₁)
    (e1 : look 28 ρ = some (.inst b)) (e2 : look 32 ρ = some (.ref cc)) (e3 : look 29 ρ = some (.ref ri))
    (h : ∀ ρ' H', (∀ z, z ≠ 40 → z ≠ 66 → z ≠ 43 → z ≠ 47 → look z ρ' = look z ρ) → Keep [c₁] H H' → NetAt H' b cnt₁ i₁ o₁ c₁ n₁ → H'[c₁]? = some (.list (cellsV (dueF R CL))) → K .next ρ' H') : S.wp (CN FT (k + 1)) rcFor2 ρ H K := by
  unfold rcFor2
  dsimp only [wS_asg, wS_asgC, wS_asgT, wS_asgA, wS_asgI, wS_aug, wS_augA, wS_for, wS_forT, wS_while, wS_if, wS_ret, wS_expr, wS_brk, wE_cint, wE_cneg, wE_cstr, wE_cbool, wE_cnone, wE_var, wE_bin, wE_cmp, wE_or2, wE_ite, wE_tup, wE_lst, wE_dctI, wE_dctS, wE_sub, wE_slTo, wE_slFrom, wE_attr, wE_call, wE_new, wE_meth, wE_bcall, wE_bmeth, wE_comp, wE_compIf, wE_comp2]
  refine w_look e2 ⟨⟨_, rfl⟩, i_ref hc ?_⟩
  have e5 : (cellsV CL).length = CL.length := by rw [cellsV, List.length_map]
  refine forW_fold (σ := Unit) (step := fun _ _ => ()) (s₀ := ())
    (fun j _ ρ' H' => (∀ z, z ≠ 40 → z ≠ 66 → z ≠ 43 → z ≠ 47 → look z ρ' = look z ρ) ∧ Keep [c₁] H H' ∧ NetAt H' b cnt₁ i₁ o₁ c₁ n₁ ∧ H'[c₁]? = some (.list (cellsV (dueF R (CL.take j))))) ?_ ?_ ⟨fun _ _ _ _ _ => rfl, .refl, y, hc₁⟩ ?_
  · rintro j _ ρ' H' ⟨_, k₁, _⟩
    exact keep_to k₁ hc (n1 hne)
  · rintro j _ v ρ' H' hj hv ⟨hρ, k₁, y₁, hg⟩
    have hj : j < CL.length := by rw [e5] at hj; exact hj
    have hv' : (cellsV CL)[j]? = some (.tup [.str 0, .int CL[j].1, .tup (CL[j].2.map V.int), .none]) := by rw [cellsV, List.getElem?_map, List.getElem?_eq_getElem hj]; rfl
    rw [hv'] at hv
    cases hv
    refine ⟨_, rfl, fun K' hK => ?_⟩
    have hr₁ := keep_to k₁ hr (n1 hre)
    obtain ⟨m, em, q⟩ := y₁.ns
    have hm := q.meth 111 (by decide)
    have e4 : CL.take (j + 1) = CL.take j ++ [CL[j]] := by rw [List.take_add_one, List.getElem?_eq_getElem hj]; rfl
    have hz : (dueF R (CL.take j)).length ≤ 50 := Nat.le_trans dueF_len (by rw [List.length_take]; omega)
    have hz2 := hins CL[j] (List.getElem_mem hj)
    have hρ' : ∀ z, z ≠ 40 → z ≠ 66 → z ≠ 43 → z ≠ 47 → look z ((47, V.none) :: (43, .tup (CL[j].2.map V.int)) :: (66, .int CL[j].1) :: (40, .str 0) :: ρ') = look z ρ := fun z h1 h2 h3 h4 => by
      rw [look_cons, if_neg (Ne.symm h4), look_cons, if_neg (Ne.symm h3), look_cons, if_neg (Ne.symm h2), look_cons, if_neg (Ne.symm h1)]; exact hρ z h1 h2 h3 h4
    have hs : (lookI CL[j].1 (R.map fun p => (p.1, V.int p.2))).isSome = (lookI CL[j].1 R).isSome := by rw [lookI_map]; cases lookI CL[j].1 R <;> rfl
    have e3' := (hρ 29 (by decide) (by decide) (by decide) (by decide)).trans e3
    dsimp only [wZ_nil, wZ_cons, wS_asg, wS_asgC, wS_asgT, wS_asgA, wS_asgI, wS_aug, wS_augA, wS_for, wS_forT, wS_while, wS_if, wS_ret, wS_expr, wS_brk, wT_not, wT_tand, wT_tor, wT_cmp, wT_var, wT_bin, wT_sub, wT_call, wE_cint, wE_cneg, wE_cstr, wE_cbool, wE_cnone, wE_var, wE_bin, wE_cmp, wE_or2, wE_ite, wE_tup, wE_lst, wE_dctI, wE_dctS, wE_sub, wE_slTo, wE_slFrom, wE_attr, wE_call, wE_new, wE_meth, wE_bcall, wE_bmeth, wE_comp, wE_compIf, wE_comp2, wL_nil, wL_cons, look_c, Nat.reduceBEq, cond_true, cond_false]
    refine w_look e3' (c_niD hr₁ ?_)
    rw [hs]
    refine ⟨fun hb => ?_, fun hb => ?_⟩
    · refine w_look ((hρ 28 (by decide) (by decide) (by decide) (by decide)).trans e1) (w_ns em ⟨hm, And.intro (by show (CL[j].2.map V.int).length ≤ _; rw [List.length_map]; omega) ?_⟩)
      refine fin_comp (ρ := (47, V.none) :: (43, .tup (CL[j].2.map V.int)) :: (66, .int CL[j].1) :: (40, .str 0) :: ρ') (ri := ri) trivial hR hr₁ (lc rfl (lc rfl (lc rfl (lc rfl e3')))) ?_
      have kp : Keep [] H' (H' ++ [O.list ((CL[j].2.map (lastF R)).map V.int)]) := Keep.push
      refine drive_ref (y₁.keep kp (List.not_mem_nil)) (kp.at hg) (by rw [cellsV, List.length_map]; omega) get_last (by rw [List.length_map, List.length_map]; omega) fun H₂ k₂ hg₂ => ?_
      refine ⟨rfl, ?_⟩
      refine hK _ _ ⟨hρ', k₁.trans (kp.nil.trans k₂), (y₁.keep kp (List.not_mem_nil)).keep k₂ (n1 y.ac), ?_⟩
      rw [hg₂, e4, dueF_snoc, if_pos hb, cellsV_snoc]
    · refine hK _ _ ⟨hρ', k₁, y₁, ?_⟩
      rw [hg, e4, dueF_snoc, if_neg (by rw [hb]; decide), List.append_nil]
  · rintro ρ' H' ⟨hρ, k₁, y₁, hg⟩
    rw [e5, List.take_of_length_le (Nat.le_refl _)] at hg
    exact h ρ' H' hρ k₁ y₁ hg

theorem rebuilt_cells_ok {k a ii oi ci n iq oq ri : Nat} {cnt : Int} {CL : List (Int × List Int)} {OL : List Int} {R : List (Int × Int)} {H : Hp} {Q : PV} (x : OldAt H a cnt ii oi ci n iq oq CL OL) (hR : ROk R) (hr : H[ri]? = some (dictV R)) (hCL : CL.length ≤ 50) (hins : ∀ c ∈ CL, c.2.length ≤ 50) (hOL : OL.length ≤ 50)
    (h : ∀ H' a' ii' oi' ci' iq' oq' n', Keep [] H H' → OldAt H' a' cnt ii' oi' ci' n' iq' oq' (dueF R CL) (OL.map (lastF R)) → Q (.inst a') H') : CN FT (k + 3) 84 [.inst a, .ref ci, .ref ri] H Q := by
  refine CN_step rfl rfl ?_
  show Ss.wp (CN FT (k + 2)) (.cons (.asg 28 (.new (.cons (.attr (.var 31) 64) .nil))) (.cons (.asgA (.var 28) 33 (.attr (.var 31) 33)) (.cons rcFor1 (.cons rcFor2 (.cons rcFor3 (.cons (.ret (.var 28)) .nil)))))) [(31, .inst a), (32, .ref ci), (29, .ref ri)] H (retK Q)
  obtain ⟨l, e, r⟩ := x.net.ns
  dsimp only [wZ_nil, wZ_cons, wS_asg, wS_asgC, wS_asgT, wS_asgA, wS_asgI, wS_aug, wS_augA, wS_for, wS_forT, wS_while, wS_if, wS_ret, wS_expr, wS_brk, wE_cint, wE_cneg, wE_cstr, wE_cbool, wE_cnone, wE_var, wE_bin, wE_cmp, wE_or2, wE_ite, wE_tup, wE_lst, wE_dctI, wE_dctS, wE_sub, wE_slTo, wE_slFrom, wE_attr, wE_call, wE_new, wE_meth, wE_bcall, wE_bmeth, wE_comp, wE_compIf, wE_comp2, wL_nil, wL_cons, look_c, Nat.reduceBEq, cond_true, cond_false]
  refine w_ns e (w_look r.name (init_ok (k := k + 1) get_last fun H₁ i₁ o₁ c₁ k₁ hi₁ ho₁ hc₁ n₁ ei₁ eo₁ ec₁ => ?_))
  refine ⟨rfl, ?_⟩
  have kp : Keep [] H (H ++ [O.ns []]) := Keep.push
  have kk₁ : Keep [] H H₁ := kp.old k₁ (by simp)
  have lp : (H ++ [O.ns []]).length = H.length + 1 := by simp
  -- the count
  obtain ⟨l₁, el₁, r₁⟩ := n₁.ns
  have e' := kk₁.at e
  refine w_ns e' (w_look r.count (w_ns el₁ ⟨by have := r₁.few; omega, ?_⟩))
  have n₂ : NetAt (H₁.set H.length (.ns ((33, .int cnt) :: l₁))) H.length cnt i₁ o₁ c₁ 6 := ⟨⟨_, set_get el₁, r₁.tick cnt⟩, n₁.ai, n₁.ao, n₁.ac, n₁.io, n₁.ic, n₁.oc⟩
  have k₂ : Keep [H.length] H₁ (H₁.set H.length (.ns ((33, .int cnt) :: l₁))) := Keep.set (by simp)
  have kk₂ : Keep [] H (H₁.set H.length (.ns ((33, .int cnt) :: l₁))) := kk₁.old k₂ (by simp)
  have ei₂ := keep_to k₂ ei₁ (n1 n₁.ai.symm)
  have eo₂ := keep_to k₂ eo₁ (n1 n₁.ao.symm)
  have ec₂ := keep_to k₂ ec₁ (n1 n₁.ac.symm)
  generalize H₁.set H.length (.ns ((33, .int cnt) :: l₁)) = H₂ at n₂ kk₂ ei₂ eo₂ ec₂ ⊢
  have x₂ := x.keep kk₂
  -- inputs
  have li := lt_of_get x.ins
  have lq := lt_of_get x.insL
  have lo := lt_of_get x.outs
  have loq := lt_of_get x.outsL
  have lc := lt_of_get x.cells
  have lr := lt_of_get hr
  show Ss.wp (CN FT (k + 2)) (.cons rcFor1 (.cons rcFor2 (.cons rcFor3 (.cons (.ret (.var 28)) .nil)))) [(28, .inst H.length), (31, .inst a), (32, .ref ci), (29, .ref ri)] H₂ (retK Q)
  first | rw [wZ_cons] | rw [wZ_nil]
  refine rcFor1_ok x₂ n₂ ei₂ (by omega) rfl rfl fun ρ₁ H₃ q₁ hρ₁ k₃ hq₁ ei₃ eq₃ => ?_
  have kk₃ : Keep [] H H₃ := kk₂.old k₃ (by simp; omega)
  have x₃ := x.keep kk₃
  have n₃ := n₂.keep k₃ (n1 n₂.ai)
  have eo₃ := keep_to k₃ eo₂ (n1 n₂.io.symm)
  have ec₃ := keep_to k₃ ec₂ (n1 n₂.ic.symm)
  show Ss.wp (CN FT (k + 2)) (.cons rcFor2 (.cons rcFor3 (.cons (.ret (.var 28)) .nil))) ρ₁ H₃ (retK Q)
  first | rw [wZ_cons] | rw [wZ_nil]
  refine rcFor2_ok (k := k + 1) hR (kk₃.at hr) x₃.cells hCL hins n₃ ec₃ (by omega) (by omega) (by rw [hρ₁ 28 (by decide) (by decide)]; rfl) (by rw [hρ₁ 32 (by decide) (by decide)]; rfl) (by rw [hρ₁ 29 (by decide) (by decide)]; rfl) fun ρ₂ H₄ hρ₂ k₄ n₄ ec₄ => ?_
  have kk₄ : Keep [] H H₄ := kk₃.old k₄ (by simp; omega)
  have x₄ := x.keep kk₄
  have ei₄ := keep_to k₄ ei₃ (n1 n₂.ic)
  have l₃ : q₁ ≠ c₁ := by
    have := lt_of_get ec₂
    omega
  have eq₄ := keep_to k₄ eq₃ (n1 l₃)
  have eo₄ := keep_to k₄ eo₃ (n1 n₂.oc)
  show Ss.wp (CN FT (k + 2)) (.cons rcFor3 (.cons (.ret (.var 28)) .nil)) ρ₂ H₄ (retK Q)
  first | rw [wZ_cons] | rw [wZ_nil]
  refine rcFor3_ok (k := k + 1) hR (kk₄.at hr) hOL x₄ n₄ eo₄ (by omega) (by omega) (by rw [hρ₂ 28 (by decide) (by decide) (by decide) (by decide), hρ₁ 28 (by decide) (by decide)]; rfl) (by rw [hρ₂ 31 (by decide) (by decide) (by decide) (by decide), hρ₁ 31 (by decide) (by decide)]; rfl) (by rw [hρ₂ 29 (by decide) (by decide) (by decide) (by decide), hρ₁ 29 (by decide) (by decide)]; rfl) fun ρ₃ H₅ q₂ hρ₃ k₅ hq₂ eo₅ eq₅ => ?_
  have kk₅ : Keep [] H H₅ := kk₄.old k₅ (by simp; omega)
  have l₅ : q₁ ≠ o₁ := by
    have := lt_of_get eo₂
    omega
  show Ss.wp (CN FT (k + 2)) (.cons (.ret (.var 28)) .nil) ρ₃ H₅ (retK Q)
  have e28 : look 28 ρ₃ = some (.inst H.length) := by
    rw [hρ₃ 28 (by decide) (by decide), hρ₂ 28 (by decide) (by decide) (by decide) (by decide), hρ₁ 28 (by decide) (by decide)]; rfl
  refine w_look e28 ?_
  exact h H₅ H.length i₁ o₁ c₁ q₁ q₂ 6 kk₅ ⟨n₄.keep k₅ (n1 n₂.ao), keep_to k₅ ei₄ (n1 n₂.io), keep_to k₅ eq₄ (n1 l₅), eo₅, eq₅, keep_to k₅ ec₄ (n1 n₂.oc.symm)⟩
theorem rebuilt_ok {k a ii oi ci n iq oq ri : Nat} {cnt : Int} {CL : List (Int × List Int)} {OL : List Int} {R : List (Int × Int)} {H : Hp} {Q : PV} (x : OldAt H a cnt ii oi ci n iq oq CL OL) (hR : ROk R) (hr : H[ri]? = some (dictV R)) (hCL : CL.length ≤ 50) (hins : ∀ c ∈ CL, c.2.length ≤ 50) (hOL : OL.length ≤ 50)
    (h : ∀ H' a' ii' oi' ci' iq' oq' n', Keep [] H H' → OldAt H' a' cnt ii' oi' ci' n' iq' oq' (dueF R CL) (OL.map (lastF R)) → Q (.inst a') H') : CN FT (k + 4) 85 [.inst a, .ref ri] H Q := by
  refine CN_step rfl rfl ?_
  obtain ⟨l, e, r⟩ := x.net.ns
  dsimp only [fn_rebuilt, wZ_nil, wZ_cons, wS_asg, wS_asgC, wS_asgT, wS_asgA, wS_asgI, wS_aug, wS_augA, wS_for, wS_forT, wS_while, wS_if, wS_ret, wS_expr, wS_brk, wE_cint, wE_cneg, wE_cstr, wE_cbool, wE_cnone, wE_var, wE_bin, wE_cmp, wE_or2, wE_ite, wE_tup, wE_lst, wE_dctI, wE_dctS, wE_sub, wE_slTo, wE_slFrom, wE_attr, wE_call, wE_new, wE_meth, wE_bcall, wE_bmeth, wE_comp, wE_compIf, wE_comp2, wL_nil, wL_cons, wT_not, wT_tand, wT_tor, wT_cmp, wT_var, wT_bin, wT_sub, wT_call, wA_nil, wA_cons, wO_nil, wO_cons, onSome, onInt, onRef, onInst, List.zip_cons_cons, List.zip_nil_right, look_c, Nat.reduceBEq, cond_true, cond_false]
  exact w_ns e (w_look r.cells (rebuilt_cells_ok x hR hr hCL hins hOL h))
end Mine

namespace Mine
open PySem PySem.W PyProof.Rows

/-! data read deep -/
noncomputable def LayL (n : Nat) (ts : List PyData) : Prop := PyData.canLayAll0 ts = true ∧ PyData.depthAll ts ≤ n
theorem LayL.nil {n} : LayL n [] := ⟨by simp [PyData.canLayAll0], by simp [PyData.depthAll]⟩
theorem LayL.cons {n t ts} (h1 : PyData.canLay0 t = true ∧ PyData.depth t ≤ n) (h2 : LayL n ts) : LayL n (t :: ts) := by
  obtain ⟨a, b⟩ := h1
  obtain ⟨c, d⟩ := h2
  refine ⟨by simp [PyData.canLayAll0, a, c], ?_⟩
  simp only [PyData.depthAll]; omega
theorem LayL.map {α : Type} {n} {f : α → PyData} (h : ∀ x, PyData.canLay0 (f x) = true ∧ PyData.depth (f x) ≤ n) : ∀ l : List α, LayL n (l.map f)
  | [] => .nil
  | x :: r => .cons (h x) (LayL.map h r)
theorem LayL.list {n ts} (h : LayL n ts) : PyData.canLay0 (.list ts) = true ∧ PyData.depth (.list ts) ≤ n + 1 := by
  refine ⟨by simpa [PyData.canLay0] using h.1, ?_⟩
  have := h.2
  simp only [PyData.depth]; omega
theorem LayL.tuple {n ts} (h : LayL n ts) : PyData.canLay0 (.tuple ts) = true ∧ PyData.depth (.tuple ts) ≤ n + 1 := by
  refine ⟨by simpa [PyData.canLay0] using h.1, ?_⟩
  have := h.2
  simp only [PyData.depth]; omega
theorem lay_int (n : Nat) (x : Int) : PyData.canLay0 (.int x) = true ∧ PyData.depth (.int x) ≤ n := ⟨by simp [PyData.canLay0], by simp [PyData.depth]⟩
theorem lay_none (n : Nat) : PyData.canLay0 .none = true ∧ PyData.depth .none ≤ n := ⟨by simp [PyData.canLay0], by simp [PyData.depth]⟩
theorem lay_str (n : Nat) {k : Nat} (h : PyData.strOk (nm k) = true) : PyData.canLay0 (.str (nm k)) = true ∧ PyData.depth (.str (nm k)) ≤ n := ⟨by simpa [PyData.canLay0] using h, by simp [PyData.depth]⟩

theorem deep_map {α : Type} {H : Hp} {f : α → V} {g : α → PyData} (h : ∀ x, Deep H (f x) (g x)) : ∀ l : List α, Deep H (.tup (l.map f)) (.tuple (l.map g))
  | [] => .tupN
  | x :: r => .tupC (h x) (deep_map h r)
theorem deep_ints {H : Hp} (l : List Int) : Deep H (.tup (l.map V.int)) (.tuple (l.map PyData.int)) := deep_map (fun x => .int x) l
noncomputable def cellT (c : Int × List Int) : PyData := .tuple [.str (nm 0), .int c.1, .tuple (c.2.map PyData.int), .none]
theorem deep_cells {H : Hp} (CL : List (Int × List Int)) : Deep H (.tup (cellsV CL)) (.tuple (CL.map cellT)) :=
  deep_map (fun c => .tupC (.str 0) (.tupC (.int c.1) (.tupC (deep_ints c.2) (.tupC .none .tupN)))) CL
theorem lay_ints (n : Nat) (l : List Int) : LayL n (l.map PyData.int) := LayL.map (fun x => lay_int n x) l
theorem lay_cell (c : Int × List Int) : PyData.canLay0 (cellT c) = true ∧ PyData.depth (cellT c) ≤ 2 :=
  LayL.tuple (n := 1) (.cons (lay_str _ (by decide +kernel)) (.cons (lay_int _ _) (.cons (LayL.tuple (lay_ints 0 _)) (.cons (lay_none _) .nil))))

/-- two lists of cells that agree -/
theorem ne_cells {H : Hp} {i j : Nat} {CL : List (Int × List Int)} {K : Bool → Prop} (hi : H[i]? = some (.list (cellsV CL))) (hj : H[j]? = some (.list (cellsV CL))) (h : K false) : cmpW .NotEq (.ref i) (.ref j) H K := by
  have l := LayL.list (LayL.map (n := 2) lay_cell CL)
  exact .inr (.inr ⟨i, j, rfl, rfl, .list (CL.map cellT), .list hi (deep_cells CL), .list hj (deep_cells CL), l.1, by omega, h⟩)
theorem portT {H : Hp} {i q k : Nat} {l : List Int} (hi : H[i]? = some (.list [.tup [.str k, .ref q]])) (hq : H[q]? = some (.list (l.map V.int))) : Deep H (.ref i) (.list [.tuple [.str (nm k), .list (l.map PyData.int)]]) :=
  .list hi (.tupC (.tupC (.str k) (.tupC (.list hq (deep_ints l)) .tupN)) .tupN)
theorem ne_ports {H : Hp} {i j p q k : Nat} {l : List Int} {K : Bool → Prop} (hk : PyData.strOk (nm k) = true) (hi : H[i]? = some (.list [.tup [.str k, .ref p]])) (hp : H[p]? = some (.list (l.map V.int))) (hj : H[j]? = some (.list [.tup [.str k, .ref q]])) (hq : H[q]? = some (.list (l.map V.int))) (h : K false) :
    cmpW .NotEq (.ref i) (.ref j) H K := by
  have z := LayL.list (n := 2) (.cons (LayL.tuple (n := 1) (.cons (lay_str _ hk) (.cons (LayL.list (lay_ints 0 l)) .nil))) .nil)
  exact .inr (.inr ⟨i, j, rfl, rfl, _, portT hi hp, portT hj hq, z.1, by omega, h⟩)
theorem eq_before {H : Hp} {a b c d p q : Nat} {CL : List (Int × List Int)} {l : List Int} {K : Bool → Prop} (ha : H[a]? = some (.list (cellsV CL))) (hb : H[b]? = some (.list [.ref p])) (hp : H[p]? = some (.list (l.map V.int))) (hc : H[c]? = some (.list (cellsV CL))) (hd : H[d]? = some (.list [.ref q])) (hq : H[q]? = some (.list (l.map V.int))) (h : K true) :
    cmpW .Eq (.tup [.ref a, .ref b]) (.tup [.ref c, .ref d]) H K := by
  have z := LayL.tuple (n := 3) (.cons (LayL.list (LayL.map (n := 2) lay_cell CL)) (.cons ⟨(LayL.list (n := 1) (.cons (LayL.list (lay_ints 0 l)) .nil)).1, Nat.le_succ_of_le (LayL.list (n := 1) (.cons (LayL.list (lay_ints 0 l)) .nil)).2⟩ .nil))
  exact .inr (.inr (.inr ⟨_, _, rfl, rfl, .tuple [.list (CL.map cellT), .list [.list (l.map PyData.int)]], .tupC (.list ha (deep_cells CL)) (.tupC (.list hb (.tupC (.list hp (deep_ints l)) .tupN)) .tupN), .tupC (.list hc (deep_cells CL)) (.tupC (.list hd (.tupC (.list hq (deep_ints l)) .tupN)) .tupN), z.1, by omega, h⟩))
end Mine

namespace Mine
open PySem PySem.W PyProof.Rows

/-- the nets below N -/
noncomputable def natL (N : Nat) : List Int := (List.range N).map fun (k : Nat) => (k : Int)
theorem natL_len {N : Nat} : (natL N).length = N := by simp [natL]
theorem natL_get {N j : Nat} (h : j < N) : (natL N).getD j 0 = j := by simp [natL, h]
theorem natL_nth {N : Nat} {r : Int} (h0 : 0 ≤ r) (h : r < N) : nth ((natL N).map V.int) r = some (.int r) := by
  obtain ⟨j, rfl⟩ : ∃ j : Nat, r = j := ⟨r.toNat, by omega⟩
  have hj : j < N := by omega
  rw [nth_at (by rw [natL_len]; exact hj), natL_get hj]
theorem natL_last {N : Nat} (h : 0 < N) : nth ((natL N).map V.int) (-1) = some (.int (((N - 1 : Nat) : Int))) := by
  unfold nth
  rw [if_neg (by decide), if_pos (by simp [natL_len]; omega)]
  have e : (-1 + (((natL N).map V.int).length : Int)).toNat = N - 1 := by simp [natL_len]; omega
  rw [e, int_at (by rw [natL_len]; omega), natL_get (by omega)]
theorem natL_snoc {N : Nat} : natL (N + 1) = natL N ++ [(N : Int)] := by simp [natL, List.range_succ]
theorem natL_mem {N : Nat} {x : Int} : x ∈ natL N ↔ 0 ≤ x ∧ x < N := by
  unfold natL
  rw [List.mem_map]
  constructor
  · rintro ⟨k, hk, rfl⟩
    have := List.mem_range.mp hk
    omega
  · rintro ⟨h0, h⟩
    exact ⟨x.toNat, List.mem_range.mpr (by omega), by omega⟩
theorem natL_idx {N : Nat} {x : Int} (h0 : 0 ≤ x) (h : x < N) : idxOf x ((natL N).map V.int) = some x.toNat := by
  rw [idxOf_ints (natL_mem.mpr ⟨h0, h⟩)]
  congr 1
  induction N with
  | zero => omega
  | succ N ih =>
    rw [natL_snoc]
    by_cases q : x < N
    · rw [List.idxOf_append, if_pos (natL_mem.mpr ⟨h0, q⟩)]; exact ih q
    · have e : x = N := by omega
      subst e
      rw [List.idxOf_append, if_neg (fun m => by have := (natL_mem.mp m).2; omega), natL_len]
      simp

structure Sep7 (b a ii oi ci nr iq : Nat) : Prop where
  ba : b ≠ a
  bi : b ≠ ii
  bo : b ≠ oi
  bc : b ≠ ci
  bn : b ≠ nr
  bq : b ≠ iq
  ai : a ≠ ii
  ao : a ≠ oi
  ac : a ≠ ci
  an : a ≠ nr
  aq : a ≠ iq
  io : ii ≠ oi
  ic : ii ≠ ci
  i_n : ii ≠ nr
  i_q : ii ≠ iq
  oc : oi ≠ ci
  on : oi ≠ nr
  oq : oi ≠ iq
  cn : ci ≠ nr
  cq : ci ≠ iq
  nq : nr ≠ iq
/-- the netlist while it is made -/
structure Made (H : Hp) (b a ii oi ci nr iq j : Nat) (CL : List (Int × List Int)) : Prop where
  box : BoxAt H b
  net : NetAt H a ((4 + j : Nat) : Int) ii oi ci (7 + j)
  cells : H[ci]? = some (.list (cellsV CL))
  nets : H[nr]? = some (.list ((natL (4 + j)).map V.int))
  inp : H[ii]? = some (.list [.tup [.str 13, .ref iq]])
  inq : H[iq]? = some (.list [.int 2, .int 3])
  outs : H[oi]? = some (.list [])
  sep : Sep7 b a ii oi ci nr iq
  len : CL.length = j
  okc : ∀ c ∈ CL, 0 ≤ c.1 ∧ c.1 < (4 + j : Nat) ∧ c.2.length = 2 ∧ ∀ x ∈ c.2, 0 ≤ x ∧ x < (4 + j : Nat)
theorem Made.keepB {H H' b a ii oi ci nr iq j CL} (x : Made H b a ii oi ci nr iq j CL) (k : Keep [b] H H') (hb : BoxAt H' b) : Made H' b a ii oi ci nr iq j CL := by
  have s := x.sep
  exact ⟨hb, x.net.keep k (n1 s.ba.symm), keep_to k x.cells (n1 s.bc.symm), keep_to k x.nets (n1 s.bn.symm), keep_to k x.inp (n1 s.bi.symm), keep_to k x.inq (n1 s.bq.symm), keep_to k x.outs (n1 s.bo.symm), x.sep, x.len, x.okc⟩

noncomputable def lrFor1 : S := (.for_ 58 (.bcall .range (.cons (.bin .Add (.cint 1) (.call 99 (.cons (.var 50) (.cons (.cint 5) .nil)))) .nil)) (.cons (.expr (.bmeth (.var 45) .append (.cons (.meth (.var 31) 110 (.cons (.cstr 0) (.cons (.tup (.cons (.sub (.var 45) (.call 99 (.cons (.var 50) (.cons (.bcall .len (.cons (.var 45) .nil)) .nil)))) (.cons (.sub (.var 45) (.cneg 1)) .nil))) .nil))) .nil)))
    .nil))
theorem lrFor1_ok {k b a ii oi ci nr iq : Nat} {ρ : Rho} {H : Hp} {K : PS} (x : Made H b a ii oi ci nr iq 0 []) (e1 : look 50 ρ = some (.ref b)) (e2 : look 31 ρ = some (.inst a)) (e3 : look 45 ρ = some (.ref nr))
    (h : ∀ m CL ρ' H', m ≤ 5 → (∀ z, z ≠ 58 → look z ρ' = look z ρ) → Made H' b a ii oi ci nr iq m CL → K .next ρ' H') : S.wp (CN FT (k + 2)) lrFor1 ρ H K := by
  unfold lrFor1
  dsimp only [wS_asg, wS_asgC, wS_asgT, wS_asgA, wS_asgI, wS_aug, wS_augA, wS_for, wS_forT, wS_while, wS_if, wS_ret, wS_expr, wS_brk, wE_cint, wE_cneg, wE_cstr, wE_cbool, wE_cnone, wE_var, wE_bin, wE_cmp, wE_or2, wE_ite, wE_tup, wE_lst, wE_dctI, wE_dctS, wE_sub, wE_slTo, wE_slFrom, wE_attr, wE_call, wE_new, wE_meth, wE_bcall, wE_bmeth, wE_comp, wE_compIf, wE_comp2, wL_nil, wL_cons]
  refine w_look e1 (law_of_ok x.box (by decide) fun r H₁ r0 r5 k₁ b₁ => ?_)
  have x₁ := x.keepB k₁ b₁
  refine b_add (f_rng (by omega) (by omega) ?_)
  obtain ⟨m, hm, hr⟩ : ∃ m : Nat, (1 + r).toNat = m ∧ m ≤ 5 := ⟨_, rfl, by omega⟩
  rw [hm]
  refine forW_fold (σ := Unit) (vs := rngV m) (step := fun _ _ => ()) (s₀ := ())
    (fun j _ ρ' H' => (∀ z, z ≠ 58 → look z ρ' = look z ρ) ∧ ∃ CL, Made H' b a ii oi ci nr iq j CL) (fun _ _ _ _ _ => trivial) ?_ ⟨fun _ _ => rfl, [], x₁⟩ ?_
  · rintro j _ v ρ' H' _ hv ⟨hρ, CL, y⟩
    obtain ⟨hj, rfl⟩ := rngV_at hv
    refine ⟨_, rfl, fun K' hK => ?_⟩
    have r' : ∀ z, z ≠ 58 → look z ((58, V.int j) :: ρ') = look z ρ := fun z hz => by rw [look_cons, if_neg (Ne.symm hz)]; exact hρ z hz
    have f1 := (r' 50 (by decide)).trans e1
    have f2 := (r' 31 (by decide)).trans e2
    have f3 := (r' 45 (by decide)).trans e3
    generalize ((58, V.int j) :: ρ' : Rho) = ρ₁ at r' f1 f2 f3 ⊢
    obtain ⟨l, el, q⟩ := y.net.ns
    have hmeth := q.meth 110 (by decide)
    have s := y.sep
    dsimp only [wZ_nil, wZ_cons, wS_asg, wS_asgC, wS_asgT, wS_asgA, wS_asgI, wS_aug, wS_augA, wS_for, wS_forT, wS_while, wS_if, wS_ret, wS_expr, wS_brk, wE_cint, wE_cneg, wE_cstr, wE_cbool, wE_cnone, wE_var, wE_bin, wE_cmp, wE_or2, wE_ite, wE_tup, wE_lst, wE_dctI, wE_dctS, wE_sub, wE_slTo, wE_slFrom, wE_attr, wE_call, wE_new, wE_meth, wE_bcall, wE_bmeth, wE_comp, wE_compIf, wE_comp2, wL_nil, wL_cons]
    refine w_look f3 ⟨h_app y.nets, w_look f2 (w_ns el ⟨hmeth, w_look f3 (w_look f1 (w_look f3 (f_lenL y.nets (by rw [List.length_map, natL_len]; omega) ?_)))⟩)⟩
    rw [List.length_map, natL_len]
    refine law_of_ok y.box (by omega) fun t H₂ t0 t1 k₂ b₂ => ?_
    have y₂ := y.keepB k₂ b₂
    refine s_l y₂.nets (by omega) (by omega) (natL_nth t0 (by omega : t < ((4 + j : Nat) : Int))) (w_look f3 (s_l y₂.nets (by decide) (by decide) (natL_last (by omega : 0 < 4 + j)) ?_))
    refine add_cell_ok (ins := [.int t, .int ((4 + j - 1 : Nat) : Int)]) y₂.net (by omega) y₂.cells (by rw [cellsV, List.length_map, y.len]; omega) fun H₃ k₃ n₃ c₃ => ?_
    have hn₃ := keep_to k₃ y₂.nets (n2 s.an.symm s.cn.symm)
    refine m_app hn₃ (by rw [List.length_map, natL_len]; omega) ⟨rfl, ?_⟩
    have e4 : (natL (4 + j)).map V.int ++ [V.int ((4 + j : Nat) : Int)] = (natL (4 + (j + 1))).map V.int := by
      rw [show 4 + (j + 1) = (4 + j) + 1 from rfl, natL_snoc, List.map_append]; rfl
    have kn : Keep [nr] H₃ (H₃.set nr (.list ((natL (4 + j)).map V.int ++ [V.int ((4 + j : Nat) : Int)]))) := Keep.set List.mem_cons_self
    have kk := (k₃.mono (W' := [a, ci, nr]) fun _ h => List.mem_append_left [nr] h).trans (kn.mono (W' := [a, ci, nr]) fun _ h => List.mem_cons_of_mem _ (List.mem_cons_of_mem _ h))
    refine hK _ _ ⟨r', CL ++ [(((4 + j : Nat) : Int), [t, ((4 + j - 1 : Nat) : Int)])], ?_, ?_, ?_, ?_, ?_, ?_, ?_, y.sep, ?_, ?_⟩
    · obtain ⟨bl, hb1, hb2⟩ := y₂.box
      exact ⟨bl, keep_to kk hb1 (n3 s.ba s.bc s.bn), hb2⟩
    · have := n₃.keep kn (n1 s.an)
      have e5 : ((4 + j : Nat) : Int) + 1 = ((4 + (j + 1) : Nat) : Int) := by omega
      rw [e5] at this
      exact this
    · rw [cellsV_snoc]; exact keep_to kn c₃ (n1 s.cn)
    · rw [← e4]; exact set_get hn₃
    · exact keep_to kk y₂.inp (n3 s.ai.symm s.ic s.i_n)
    · exact keep_to kk y₂.inq (n3 s.aq.symm s.cq.symm s.nq.symm)
    · exact keep_to kk y₂.outs (n3 s.ao.symm s.oc s.on)
    · rw [List.length_append, y.len]; rfl
    · intro c hc
      rcases List.mem_append.mp hc with hc | hc
      · obtain ⟨c1, c2, c3, c4⟩ := y.okc c hc
        exact ⟨c1, by omega, c3, fun z hz => by have := c4 z hz; omega⟩
      · simp only [List.mem_cons, List.not_mem_nil, or_false] at hc
        subst hc
        refine ⟨by simp only []; omega, by simp only []; omega, rfl, fun z hz => ?_⟩
        simp only [List.mem_cons, List.not_mem_nil, or_false] at hz
        rcases hz with rfl | rfl <;> omega
  · rintro ρ' H' ⟨hρ, CL, y⟩
    rw [rngV_len] at y
    exact h m CL ρ' H' hr hρ y
end Mine

namespace Mine
open PySem PySem.W PyProof.Rows

noncomputable def lrNew : S := .asg 31 (.new (.cons (.cstr 12) .nil))
noncomputable def lrNets : S := .asg 45 (.bin .Add (.lst (.cons (.cint 0) (.cons (.cint 1) .nil))) (.meth (.var 31) 108 (.cons (.cstr 13) (.cons (.cint 2) .nil))))
noncomputable def lrOut : S := (.expr (.meth (.var 31) 109 (.cons (.cstr 14) (.cons (.lst (.cons (.sub (.var 45) (.call 99 (.cons (.var 50) (.cons (.bcall .len (.cons (.var 45) .nil)) .nil)))) (.cons (.sub (.var 45) (.cneg 1)) .nil))) .nil))))
theorem lrTop_ok {k b : Nat} {ρ : Rho} {H : Hp} {K : PS} {rest : Ss} (hb : BoxAt H b)
    (h : ∀ a ii oi ci nr iq H', Made H' b a ii oi ci nr iq 0 [] → Ss.wp (CN FT (k + 3)) rest ((45, .ref nr) :: (31, .inst a) :: ρ) H' K) : Ss.wp (CN FT (k + 3)) (.cons lrNew (.cons lrNets rest)) ρ H K := by
  unfold lrNew lrNets
  have lb := hb.lt
  dsimp only [wZ_nil, wZ_cons, wS_asg, wS_asgC, wS_asgT, wS_asgA, wS_asgI, wS_aug, wS_augA, wS_for, wS_forT, wS_while, wS_if, wS_ret, wS_expr, wS_brk, wE_cint, wE_cneg, wE_cstr, wE_cbool, wE_cnone, wE_var, wE_bin, wE_cmp, wE_or2, wE_ite, wE_tup, wE_lst, wE_dctI, wE_dctS, wE_sub, wE_slTo, wE_slFrom, wE_attr, wE_call, wE_new, wE_meth, wE_bcall, wE_bmeth, wE_comp, wE_compIf, wE_comp2, wL_nil, wL_cons]
  have kp : Keep [] H (H ++ [O.ns []]) := Keep.push
  have lp : (H ++ [O.ns []]).length = H.length + 1 := by simp
  refine init_ok (k := k + 2) get_last fun H₁ i₁ o₁ c₁ k₁ hi₁ ho₁ hc₁ n₁ ei₁ eo₁ ec₁ => ?_
  rw [lp] at hi₁ ho₁ hc₁
  have kk₁ : Keep [] H H₁ := kp.old k₁ (by simp)
  refine ⟨rfl, ?_⟩
  have li := lt_of_get ei₁
  have lo := lt_of_get eo₁
  have lc := lt_of_get ec₁
  have kp₂ : Keep [] H₁ (H₁ ++ [O.list [.int 0, .int 1]]) := Keep.push
  have lp₂ : (H₁ ++ [O.list [.int 0, .int 1]]).length = H₁.length + 1 := by simp
  have e01 : (H₁ ++ [O.list [.int 0, .int 1]])[H₁.length]? = some (.list [.int 0, .int 1]) := get_last
  have n₂ := n₁.keep kp₂ (by simp)
  obtain ⟨l, el, q⟩ := n₂.ns
  have hmeth := q.meth 108 (by decide)
  refine w_ns el ⟨hmeth, ?_⟩
  refine add_input_ok (k := k) (L := []) n₂ (by decide) (kp₂.at ei₁) (by decide) fun H₃ r iq k₃ hr hq hrq er eq ei₃ n₃ => ?_
  rw [lp₂] at hr hq
  have e01' := keep_to k₃ e01 (n2 (Nat.ne_of_gt (Nat.lt_of_le_of_lt hi₁ li |> fun _ => by have := kk₁.1; omega)) (Nat.ne_of_gt li))
  have lr := lt_of_get er
  have lq := lt_of_get eq
  refine b_cat e01' er (by decide) ?_
  have kp₄ : Keep [] H₃ (H₃ ++ [O.list ([.int 0, .int 1] ++ [.int 2, .int (2 + 1)])]) := Keep.push
  have hk : Keep [] H H₃ := (kk₁.trans kp₂).old k₃ (by simp; omega)
  have hl₃ := hk.1
  refine h H.length i₁ o₁ c₁ H₃.length iq _ ⟨hb.keep (hk.trans kp₄), n₃.keep kp₄ (by simp), kp₄.at (keep_to k₃ (kp₂.at ec₁) (n2 n₂.ac.symm n₂.ic.symm)), get_last, kp₄.at ei₃, kp₄.at eq, kp₄.at (keep_to k₃ (kp₂.at eo₁) (n2 n₂.ao.symm n₂.io.symm)), ?_, rfl, by simp⟩
  have g1 := n₂.io
  have g2 := n₂.ic
  have g3 := n₂.oc
  exact ⟨by omega, by omega, by omega, by omega, by omega, by omega, by omega, by omega, by omega, by omega, by omega, g1, g2, by omega, by omega, g3, by omega, by omega, by omega, by omega, by omega⟩

theorem OldAt.keepW {H H' W a cnt ii oi ci n iq oq CL OL} (x : OldAt H a cnt ii oi ci n iq oq CL OL) (k : Keep W H H') (h : ∀ j ∈ W, j ≠ a ∧ j ≠ ii ∧ j ≠ oi ∧ j ≠ ci ∧ j ≠ iq ∧ j ≠ oq) : OldAt H' a cnt ii oi ci n iq oq CL OL :=
  ⟨x.net.keep k (fun m => (h _ m).1 rfl), keep_to k x.ins (fun m => (h _ m).2.1 rfl), keep_to k x.insL (fun m => (h _ m).2.2.2.2.1 rfl), keep_to k x.outs (fun m => (h _ m).2.2.1 rfl), keep_to k x.outsL (fun m => (h _ m).2.2.2.2.2 rfl), keep_to k x.cells (fun m => (h _ m).2.2.2.1 rfl)⟩

/-- the netlist when it is whole -/
structure Whole (H : Hp) (b a ii oi ci nr iq oq j : Nat) (CL : List (Int × List Int)) (OL : List Int) : Prop where
  box : BoxAt H b
  old : OldAt H a ((4 + j : Nat) : Int) ii oi ci (7 + j) iq oq CL OL
  nets : H[nr]? = some (.list ((natL (4 + j)).map V.int))
  bs : b ≠ a ∧ b ≠ ii ∧ b ≠ oi ∧ b ≠ ci ∧ b ≠ iq ∧ b ≠ oq
  bn : b ≠ nr
  len : CL.length = j
  okc : ∀ c ∈ CL, 0 ≤ c.1 ∧ c.1 < (4 + j : Nat) ∧ c.2.length = 2 ∧ ∀ x ∈ c.2, 0 ≤ x ∧ x < (4 + j : Nat)
  oko : OL.length = 2 ∧ ∀ x ∈ OL, 0 ≤ x ∧ x < (4 + j : Nat)
theorem Whole.keep {H H' b a ii oi ci nr iq oq j CL OL} (x : Whole H b a ii oi ci nr iq oq j CL OL) (k : Keep [] H H') : Whole H' b a ii oi ci nr iq oq j CL OL :=
  ⟨x.box.keep k, x.old.keep k, k.at x.nets, x.bs, x.bn, x.len, x.okc, x.oko⟩

theorem lrOut_ok {k b a ii oi ci nr iq m : Nat} {CL : List (Int × List Int)} {ρ : Rho} {H : Hp} {K : PS} (hm : m ≤ 5) (x : Made H b a ii oi ci nr iq m CL) (e1 : look 50 ρ = some (.ref b)) (e2 : look 31 ρ = some (.inst a)) (e3 : look 45 ρ = some (.ref nr))
    (h : ∀ oq OL H', Whole H' b a ii oi ci nr iq oq m CL OL → K .next ρ H') : S.wp (CN FT (k + 1)) lrOut ρ H K := by
  unfold lrOut
  obtain ⟨l, el, q⟩ := x.net.ns
  have hmeth := q.meth 109 (by decide)
  have s := x.sep
  dsimp only [wS_asg, wS_asgC, wS_asgT, wS_asgA, wS_asgI, wS_aug, wS_augA, wS_for, wS_forT, wS_while, wS_if, wS_ret, wS_expr, wS_brk, wE_cint, wE_cneg, wE_cstr, wE_cbool, wE_cnone, wE_var, wE_bin, wE_cmp, wE_or2, wE_ite, wE_tup, wE_lst, wE_dctI, wE_dctS, wE_sub, wE_slTo, wE_slFrom, wE_attr, wE_call, wE_new, wE_meth, wE_bcall, wE_bmeth, wE_comp, wE_compIf, wE_comp2, wL_nil, wL_cons]
  refine w_look e2 (w_ns el ⟨hmeth, w_look e3 (w_look e1 (w_look e3 (f_lenL x.nets (by rw [List.length_map, natL_len]; omega) ?_)))⟩)
  rw [List.length_map, natL_len]
  refine law_of_ok x.box (by omega) fun t H₂ t0 t1 k₂ b₂ => ?_
  have x₂ := x.keepB k₂ b₂
  refine s_l x₂.nets (by omega) (by omega) (natL_nth t0 (by omega : t < ((4 + m : Nat) : Int))) (w_look e3 (s_l x₂.nets (by decide) (by decide) (natL_last (by omega : 0 < 4 + m)) ?_))
  have kp : Keep [] H₂ (H₂ ++ [O.list [.int t, .int ((4 + m - 1 : Nat) : Int)]]) := Keep.push
  have lb := x₂.box.lt
  refine add_output_ok (x₂.net.keep kp (by simp)) (kp.at x₂.outs) (by simp) get_last (by simp) fun H₃ q' k₃ hq' eq₃ eo₃ => ?_
  have hlen : H₂.length < q' := by simp at hq'; omega
  have kk : Keep [oi] H₂ H₃ := kp.nil.trans k₃
  refine ⟨rfl, h q' [t, ((4 + m - 1 : Nat) : Int)] H₃ ⟨?_, ⟨(x₂.net.keep kk (n1 s.ao)), keep_to kk x₂.inp (n1 s.io), keep_to kk x₂.inq (n1 s.oq.symm), eo₃, eq₃, keep_to kk x₂.cells (n1 s.oc.symm)⟩, keep_to kk x₂.nets (n1 s.on.symm), ⟨s.ba, s.bi, s.bo, s.bc, s.bq, by omega⟩, s.bn, x.len, x.okc, rfl, ?_⟩⟩
  · obtain ⟨bl, hb1, hb2⟩ := x₂.box
    exact ⟨bl, keep_to kk hb1 (n1 s.bo), hb2⟩
  · intro z hz
    rcases List.mem_cons.mp hz with rfl | hz
    · omega
    · rw [List.mem_singleton.mp hz]; omega
end Mine

namespace Mine
open PySem PySem.W PyProof.Rows

noncomputable def lrFor2 : S := (.for_ 30 (.slFrom (.var 45) 4) (.cons (.if_ (.cmp .Eq (.call 99 (.cons (.var 50) (.cons (.cint 3) .nil))) (.cint 1)) (.cons (.asgI (.var 29) (.var 30) (.sub (.var 45) (.call 99 (.cons (.var 50) (.cons (.bmeth (.var 45) .index (.cons (.var 30) .nil)) .nil)))))
    .nil) .nil)
    .nil))
theorem rok_cons {R : List (Int × Int)} {x y : Int} (h : ROk R) (h0 : 0 ≤ y) (h1 : y < x) : ROk ((x, y) :: R) := by
  intro u v e
  simp only [lookI] at e
  split at e
  · rename_i q; subst q; cases e; exact ⟨h0, h1⟩
  · exact h u v e
theorem lrFor2_ok {k b nr ri N : Nat} {ρ : Rho} {H : Hp} {K : PS} (hN : N ≤ 50) (hb : BoxAt H b) (hn : H[nr]? = some (.list ((natL N).map V.int))) (hr : H[ri]? = some (dictV [])) (bn : b ≠ nr) (br : b ≠ ri) (nri : nr ≠ ri)
    (e1 : look 50 ρ = some (.ref b)) (e2 : look 29 ρ = some (.ref ri)) (e3 : look 45 ρ = some (.ref nr))
    (h : ∀ R ρ' H', (∀ z, z ≠ 30 → look z ρ' = look z ρ) → Keep [b, ri] H H' → H'[ri]? = some (dictV R) → ROk R → K .next ρ' H') : S.wp (CN FT (k + 1)) lrFor2 ρ H K := by
  unfold lrFor2
  dsimp only [wS_asg, wS_asgC, wS_asgT, wS_asgA, wS_asgI, wS_aug, wS_augA, wS_for, wS_forT, wS_while, wS_if, wS_ret, wS_expr, wS_brk, wE_cint, wE_cneg, wE_cstr, wE_cbool, wE_cnone, wE_var, wE_bin, wE_cmp, wE_or2, wE_ite, wE_tup, wE_lst, wE_dctI, wE_dctS, wE_sub, wE_slTo, wE_slFrom, wE_attr, wE_call, wE_new, wE_meth, wE_bcall, wE_bmeth, wE_comp, wE_compIf, wE_comp2]
  refine w_look e3 (w_lst hn ⟨by rw [List.length_map, natL_len]; omega, i_ref get_last ?_⟩)
  have kp : Keep [] H (H ++ [O.list (((natL N).map V.int).drop 4)]) := Keep.push
  have lb := hb.lt
  have lr := lt_of_get hr
  refine forW_fold (σ := Unit) (step := fun _ _ => ()) (s₀ := ())
    (fun j _ ρ' H' => (∀ z, z ≠ 30 → look z ρ' = look z ρ) ∧ Keep [b, ri] (H ++ [O.list (((natL N).map V.int).drop 4)]) H' ∧ BoxAt H' b ∧ ∃ R, H'[ri]? = some (dictV R) ∧ ROk R ∧ R.length ≤ j)
    ?_ ?_ ⟨fun _ _ => rfl, .refl, hb.keep kp, [], kp.at hr, (fun _ _ e => nomatch e), Nat.zero_le _⟩ ?_
  · rintro j _ ρ' H' ⟨_, k₁, _⟩
    exact keep_to k₁ get_last (n2 (by omega) (by omega))
  · rintro j _ v ρ' H' hj hv ⟨hρ, k₁, b₁, R, hR, ok, hz⟩
    have hj' : j < N - 4 := by rw [List.length_drop, List.length_map, natL_len] at hj; exact hj
    have hv' : (((natL N).map V.int).drop 4)[j]? = some (.int ((4 + j : Nat) : Int)) := by
      rw [List.getElem?_drop, int_at (by rw [natL_len]; omega), natL_get (by omega)]
    rw [hv'] at hv
    cases hv
    refine ⟨_, rfl, fun K' hK => ?_⟩
    have r' : ∀ z, z ≠ 30 → look z ((30, V.int ((4 + j : Nat) : Int)) :: ρ') = look z ρ := fun z hz => by rw [look_cons, if_neg (Ne.symm hz)]; exact hρ z hz
    have f0 : look 30 ((30, V.int ((4 + j : Nat) : Int)) :: ρ') = some (.int ((4 + j : Nat) : Int)) := by rw [look_cons, if_pos rfl]
    have f1 := (r' 50 (by decide)).trans e1
    have f2 := (r' 29 (by decide)).trans e2
    have f3 := (r' 45 (by decide)).trans e3
    generalize ((30, V.int ((4 + j : Nat) : Int)) :: ρ' : Rho) = ρ₁ at r' f0 f1 f2 f3 ⊢
    have hn₁ := keep_to k₁ (kp.at hn) (n2 bn.symm nri)
    dsimp only [wZ_nil, wZ_cons, wS_asg, wS_asgC, wS_asgT, wS_asgA, wS_asgI, wS_aug, wS_augA, wS_for, wS_forT, wS_while, wS_if, wS_ret, wS_expr, wS_brk, wT_not, wT_tand, wT_tor, wT_cmp, wT_var, wT_bin, wT_sub, wT_call, wE_cint, wE_cneg, wE_cstr, wE_cbool, wE_cnone, wE_var, wE_bin, wE_cmp, wE_or2, wE_ite, wE_tup, wE_lst, wE_dctI, wE_dctS, wE_sub, wE_slTo, wE_slFrom, wE_attr, wE_call, wE_new, wE_meth, wE_bcall, wE_bmeth, wE_comp, wE_compIf, wE_comp2, wL_nil, wL_cons, look_c, Nat.reduceBEq, cond_true, cond_false]
    refine w_look f1 (law_of_ok b₁ (by decide) fun t H₂ _ _ k₂ b₂ => ?_)
    have hn₂ := keep_to k₂ hn₁ (n1 bn.symm)
    have hR₂ := keep_to k₂ hR (n1 br.symm)
    have kk₂ := k₁.trans (k₂.mono (W' := [b, ri]) fun _ h => List.mem_cons.mpr (.inl (List.mem_singleton.mp h)))
    refine c_eqi (w_dec (fun _ => ?_) fun _ => ?_)
    · have i1 := natL_idx (N := N) (x := ((4 + j : Nat) : Int)) (by omega) (by omega)
      refine w_look f3 (w_look f1 (w_look f3 ⟨h_idx hn₂, w_look f0 (m_idx hn₂ (by rw [List.length_map, natL_len]; omega) allInts_map i1 ?_)⟩))
      rw [Int.toNat_natCast]
      refine law_of_ok b₂ (by omega) fun u H₃ u0 u1 k₃ b₃ => ?_
      have hn₃ := keep_to k₃ hn₂ (n1 bn.symm)
      have hR₃ := keep_to k₃ hR₂ (n1 br.symm)
      refine s_l hn₃ (by omega) (by omega) (natL_nth u0 (by omega : u < (N : Int))) (w_look f2 (w_look f0 (w_dct hR₃ ⟨by rw [List.length_map]; omega, ?_⟩)))
      have kd : Keep [ri] H₃ (H₃.set ri (.dict ((((4 + j : Nat) : Int), V.int u) :: R.map fun p => (p.1, V.int p.2)))) := Keep.set List.mem_cons_self
      refine hK _ _ ⟨r', (kk₂.trans (k₃.mono (W' := [b, ri]) fun _ h => List.mem_cons.mpr (.inl (List.mem_singleton.mp h)))).trans (kd.mono (W' := [b, ri]) fun _ h => List.mem_cons_of_mem _ h), ?_, (((4 + j : Nat) : Int), u) :: R, set_get hR₃, rok_cons ok u0 u1, Nat.succ_le_succ hz⟩
      obtain ⟨bl, hb1, hb2⟩ := b₃
      exact ⟨bl, keep_to kd hb1 (n1 br), hb2⟩
    · exact hK _ _ ⟨r', kk₂, b₂, R, hR₂, ok, by omega⟩
  · rintro ρ' H' ⟨hρ, k₁, b₁, R, hR, ok, hz⟩
    exact h R ρ' H' hρ (kp.nil.trans k₁) hR ok

noncomputable def lrBefore : S := (.asg 59 (.tup (.cons (.bcall .list (.cons (.attr (.var 31) 32) .nil)) (.cons (.comp (.bcall .list (.cons (.sub (.var 74) (.cint 1)) .nil)) 74 (.attr (.var 31) 35) []) .nil))))
theorem lrBefore_ok {C : CallT} {a ii oi ci n iq oq : Nat} {cnt : Int} {CL : List (Int × List Int)} {OL : List Int} {ρ : Rho} {H : Hp} {K : PS} (x : OldAt H a cnt ii oi ci n iq oq CL OL) (hCL : CL.length ≤ 50) (hOL : OL.length ≤ 50) (e : look 31 ρ = some (.inst a))
    (h : ∀ cb ob o2 H', Keep [] H H' → H'[cb]? = some (.list (cellsV CL)) → H'[ob]? = some (.list [.ref o2]) → H'[o2]? = some (.list (OL.map V.int)) → K .next ((59, .tup [.ref cb, .ref ob]) :: ρ) H') : S.wp C lrBefore ρ H K := by
  unfold lrBefore
  obtain ⟨l, el, q⟩ := x.net.ns
  have k₁ : Keep [] H (H ++ [O.list (cellsV CL)]) := Keep.push
  have el₁ := k₁.at el
  have o₁ := k₁.at x.outs
  have q₁ := k₁.at x.outsL
  have k₂ : Keep [] (H ++ [O.list (cellsV CL)]) (H ++ [O.list (cellsV CL)] ++ [O.list (OL.map V.int)]) := Keep.push
  have k₃ : Keep [] (H ++ [O.list (cellsV CL)] ++ [O.list (OL.map V.int)]) (H ++ [O.list (cellsV CL)] ++ [O.list (OL.map V.int)] ++ [O.list [.ref (H ++ [O.list (cellsV CL)]).length]]) := Keep.push
  have lc : (cellsV CL).length = CL.length := by rw [cellsV, List.length_map]
  dsimp only [wZ_nil, wZ_cons, wS_asg, wS_asgC, wS_asgT, wS_asgA, wS_asgI, wS_aug, wS_augA, wS_for, wS_forT, wS_while, wS_if, wS_ret, wS_expr, wS_brk, wE_cint, wE_cneg, wE_cstr, wE_cbool, wE_cnone, wE_var, wE_bin, wE_cmp, wE_or2, wE_ite, wE_tup, wE_lst, wE_dctI, wE_dctS, wE_sub, wE_slTo, wE_slFrom, wE_attr, wE_call, wE_new, wE_meth, wE_bcall, wE_bmeth, wE_comp, wE_compIf, wE_comp2, wL_nil, wL_cons, wT_not, wT_tand, wT_tor, wT_cmp, wT_var, wT_bin, wT_sub, wT_call, wA_nil, wA_cons, wO_nil, wO_cons, onSome, onInt, onRef, onInst, List.zip_cons_cons, List.zip_nil_right, look_c, Nat.reduceBEq, cond_true, cond_false]
  refine w_look e (w_ns el (w_look q.cells (f_lst x.cells (by omega) (w_look e (w_ns el₁ (w_look q.outs (i_ref o₁ (And.intro (by show 1 ≤ 100000; decide) ⟨o₁, ?_⟩))))))))
  dsimp only [wZ_nil, wZ_cons, wS_asg, wS_asgC, wS_asgT, wS_asgA, wS_asgI, wS_aug, wS_augA, wS_for, wS_forT, wS_while, wS_if, wS_ret, wS_expr, wS_brk, wE_cint, wE_cneg, wE_cstr, wE_cbool, wE_cnone, wE_var, wE_bin, wE_cmp, wE_or2, wE_ite, wE_tup, wE_lst, wE_dctI, wE_dctS, wE_sub, wE_slTo, wE_slFrom, wE_attr, wE_call, wE_new, wE_meth, wE_bcall, wE_bmeth, wE_comp, wE_compIf, wE_comp2, wL_nil, wL_cons, wT_not, wT_tand, wT_tor, wT_cmp, wT_var, wT_bin, wT_sub, wT_call, wA_nil, wA_cons, wO_nil, wO_cons, onSome, onInt, onRef, onInst, List.zip_cons_cons, List.zip_nil_right, look_c, Nat.reduceBEq, cond_true, cond_false]
  refine s_t1 (f_lst q₁ (by rw [List.length_map]; omega) ?_)
  refine ⟨k₂.at o₁, h _ _ (H ++ [O.list (cellsV CL)]).length _ ((k₁.trans k₂).trans k₃) (k₃.at (k₂.at get_last)) get_last (k₃.at get_last)⟩

noncomputable def lrFor3 : S := (.for_ 30 (.var 45) (.cons (.asgI (.var 61) (.var 30) (.ite (.cmp .In (.var 30) (.var 29)) (.sub (.var 61) (.sub (.var 29) (.var 30))) (.var 30)))
    .nil))
noncomputable def LastOk (R : List (Int × Int)) (N : Nat) (L : List (Int × Int)) : Prop := ∀ x : Int, 0 ≤ x → x < N → lookI x L = some (lastF R x)
theorem lrFor3_ok {C : CallT} {nr ri li N : Nat} {R : List (Int × Int)} {ρ : Rho} {H : Hp} {K : PS} (hN : N ≤ 50) (hR : ROk R) (hn : H[nr]? = some (.list ((natL N).map V.int))) (hr : H[ri]? = some (dictV R)) (hl : H[li]? = some (dictV [])) (nl : nr ≠ li) (rl : ri ≠ li)
    (e1 : look 61 ρ = some (.ref li)) (e2 : look 29 ρ = some (.ref ri)) (e3 : look 45 ρ = some (.ref nr))
    (h : ∀ L ρ' H', (∀ z, z ≠ 30 → look z ρ' = look z ρ) → Keep [li] H H' → H'[li]? = some (dictV L) → LastOk R N L → K .next ρ' H') : S.wp C lrFor3 ρ H K := by
  unfold lrFor3
  dsimp only [wS_asg, wS_asgC, wS_asgT, wS_asgA, wS_asgI, wS_aug, wS_augA, wS_for, wS_forT, wS_while, wS_if, wS_ret, wS_expr, wS_brk, wE_cint, wE_cneg, wE_cstr, wE_cbool, wE_cnone, wE_var, wE_bin, wE_cmp, wE_or2, wE_ite, wE_tup, wE_lst, wE_dctI, wE_dctS, wE_sub, wE_slTo, wE_slFrom, wE_attr, wE_call, wE_new, wE_meth, wE_bcall, wE_bmeth, wE_comp, wE_compIf, wE_comp2]
  refine w_look e3 (i_ref hn ?_)
  refine forW_fold (σ := Unit) (step := fun _ _ => ()) (s₀ := ())
    (fun j _ ρ' H' => (∀ z, z ≠ 30 → look z ρ' = look z ρ) ∧ Keep [li] H H' ∧ ∃ L, H'[li]? = some (dictV L) ∧ LastOk R j L ∧ L.length ≤ j)
    ?_ ?_ ⟨fun _ _ => rfl, .refl, [], hl, fun x h0 h1 => by omega, Nat.zero_le _⟩ ?_
  · rintro j _ ρ' H' ⟨_, k₁, _⟩
    exact keep_to k₁ hn (n1 nl)
  · rintro j _ v ρ' H' hj hv ⟨hρ, k₁, L, hL, ok, hz⟩
    have hj' : j < N := by rw [List.length_map, natL_len] at hj; exact hj
    rw [int_at (by rw [natL_len]; exact hj'), natL_get hj'] at hv
    cases hv
    refine ⟨_, rfl, fun K' hK => ?_⟩
    have r' : ∀ z, z ≠ 30 → look z ((30, V.int (j : Int)) :: ρ') = look z ρ := fun z hz => by rw [look_cons, if_neg (Ne.symm hz)]; exact hρ z hz
    have f0 : look 30 ((30, V.int (j : Int)) :: ρ') = some (.int (j : Int)) := by rw [look_cons, if_pos rfl]
    have f1 := (r' 61 (by decide)).trans e1
    have f2 := (r' 29 (by decide)).trans e2
    generalize ((30, V.int (j : Int)) :: ρ' : Rho) = ρ₁ at r' f0 f1 f2 ⊢
    have hr₁ := keep_to k₁ hr (n1 rl)
    have fin : ∀ y : Int, y = lastF R (j : Int) → K' .next ρ₁ (H'.set li (.dict (((j : Int), V.int y) :: L.map fun p => (p.1, V.int p.2)))) := fun y hy => by
      have kd : Keep [li] H' (H'.set li (.dict (((j : Int), V.int y) :: L.map fun p => (p.1, V.int p.2)))) := Keep.set List.mem_cons_self
      refine hK _ _ ⟨r', k₁.trans kd, ((j : Int), y) :: L, set_get hL, fun x h0 h1 => ?_, Nat.succ_le_succ hz⟩
      show (if (j : Int) = x then some y else lookI x L) = _
      split
      · rename_i q; subst q; rw [hy]
      · rename_i q; exact ok x h0 (by omega)
    dsimp only [wZ_nil, wZ_cons, wS_asg, wS_asgC, wS_asgT, wS_asgA, wS_asgI, wS_aug, wS_augA, wS_for, wS_forT, wS_while, wS_if, wS_ret, wS_expr, wS_brk, wT_not, wT_tand, wT_tor, wT_cmp, wT_var, wT_bin, wT_sub, wT_call, wE_cint, wE_cneg, wE_cstr, wE_cbool, wE_cnone, wE_var, wE_bin, wE_cmp, wE_or2, wE_ite, wE_tup, wE_lst, wE_dctI, wE_dctS, wE_sub, wE_slTo, wE_slFrom, wE_attr, wE_call, wE_new, wE_meth, wE_bcall, wE_bmeth, wE_comp, wE_compIf, wE_comp2, wL_nil, wL_cons, look_c, Nat.reduceBEq, cond_true, cond_false]
    refine w_look f0 (w_look f2 (c_inD hr₁ ?_))
    rw [lookI_map]
    cases e : lookI (j : Int) R with
    | none =>
      exact w_f (w_look f0 (w_look f1 (w_look f0 (w_dct hL ⟨by rw [List.length_map]; omega, fin _ (last_none e).symm⟩))))
    | some y =>
      have hy := hR _ y e
      exact w_t (w_look f1 (w_look f2 (w_look f0 (s_d (d := .int y) hr₁ (by rw [lookI_map, e]; rfl) (s_d (d := .int (lastF R y)) hL (by rw [lookI_map, ok y hy.1 hy.2]; rfl) (w_look f1 (w_look f0 (w_dct hL ⟨by rw [List.length_map]; omega, fin _ (last_some hR e).symm⟩))))))))
  · rintro ρ' H' ⟨hρ, k₁, L, hL, ok, _⟩
    rw [List.length_map, natL_len] at ok
    exact h L ρ' H' hρ k₁ hL ok
end Mine

namespace Mine
open PySem PySem.W PyProof.Rows

/-- the comprehension of last nets -/
theorem last_comp {C : CallT} {li N : Nat} {R L : List (Int × Int)} {ins : List Int} {ρ : Rho} {H : Hp} {st : Hp → Prop} {K : List V → Hp → Prop} (hst : st H) (hL : H[li]? = some (dictV L)) (ok : LastOk R N L) (hn : ∀ x ∈ ins, 0 ≤ x ∧ x < (N : Int)) (e : look 61 ρ = some (.ref li))
    (h : K ((ins.map (lastF R)).map V.int) H) : compW (fun v H K => E.wp C (.sub (.var 61) (.var 30)) ((30, v) :: keepV [61] ρ) H K) st (ins.map V.int) H [] K := by
  refine compW_fold (fun m H' acc => H' = H ∧ acc = ((ins.take m).map (lastF R)).map V.int) (fun _ H' _ hI => by rw [hI.1]; exact hst) ?_ ⟨rfl, rfl⟩ ?_
  · rintro m v H' acc hm hv ⟨rfl, rfl⟩ K'' hK''
    have hm : m < ins.length := by rw [List.length_map] at hm; exact hm
    rw [int_at hm] at hv
    cases hv
    have hx : ins.getD m 0 ∈ ins := by rw [List.getD_eq_getElem?_getD, List.getElem?_eq_getElem hm]; exact List.getElem_mem hm
    obtain ⟨x0, x1⟩ := hn _ hx
    dsimp only [wZ_nil, wZ_cons, wS_asg, wS_asgC, wS_asgT, wS_asgA, wS_asgI, wS_aug, wS_augA, wS_for, wS_forT, wS_while, wS_if, wS_ret, wS_expr, wS_brk, wE_cint, wE_cneg, wE_cstr, wE_cbool, wE_cnone, wE_var, wE_bin, wE_cmp, wE_or2, wE_ite, wE_tup, wE_lst, wE_dctI, wE_dctS, wE_sub, wE_slTo, wE_slFrom, wE_attr, wE_call, wE_new, wE_meth, wE_bcall, wE_bmeth, wE_comp, wE_compIf, wE_comp2, wL_nil, wL_cons, wT_not, wT_tand, wT_tor, wT_cmp, wT_var, wT_bin, wT_sub, wT_call, wA_nil, wA_cons, wO_nil, wO_cons, onSome, onInt, onRef, onInst, List.zip_cons_cons, List.zip_nil_right, look_c, Nat.reduceBEq, cond_true, cond_false]
    refine w_look (lk rfl e) (s_d (d := .int (lastF R (ins.getD m 0))) hL (by rw [lookI_map, ok _ x0 x1]; rfl) (hK'' _ _ ⟨rfl, ?_⟩))
    rw [List.map_map, List.map_map]
    exact take_snoc (V.int ∘ lastF R) hm
  · rintro H' acc ⟨rfl, rfl⟩
    rw [List.length_map, List.take_of_length_le (Nat.le_refl _)]
    exact h

noncomputable def lrDue : S := (.asgC 62 (.compIf (.tup (.cons (.sub (.var 8) (.cint 0)) (.cons (.sub (.var 8) (.cint 1)) (.cons (.bcall .tuple (.cons (.comp (.sub (.var 61) (.var 30)) 30 (.sub (.var 8) (.cint 2)) [61]) .nil)) (.cons (.sub (.var 8) (.cint 3)) .nil))))) 8 (.attr (.var 31) 32) (.cmp .NotIn (.sub (.var 8) (.cint 1)) (.var 29)) [29, 61]))
theorem lrDue_ok {C : CallT} {a ii oi ci n iq oq ri li N : Nat} {cnt : Int} {CL : List (Int × List Int)} {OL : List Int} {R L : List (Int × Int)} {ρ : Rho} {H : Hp} {K : PS} (x : OldAt H a cnt ii oi ci n iq oq CL OL) (hCL : CL.length ≤ 50) (hins : ∀ c ∈ CL, c.2.length ≤ 50 ∧ ∀ x ∈ c.2, 0 ≤ x ∧ x < (N : Int)) (hr : H[ri]? = some (dictV R)) (hL : H[li]? = some (dictV L)) (ok : LastOk R N L)
    (e1 : look 31 ρ = some (.inst a)) (e2 : look 29 ρ = some (.ref ri)) (e3 : look 61 ρ = some (.ref li))
    (h : ∀ du H', Keep [] H H' → H'[du]? = some (.list (cellsV (dueF R CL))) → K .next ((62, .ref du) :: ρ) H') : S.wp C lrDue ρ H K := by
  unfold lrDue
  obtain ⟨l, el, q⟩ := x.net.ns
  have lcl : (cellsV CL).length = CL.length := by rw [cellsV, List.length_map]
  dsimp only [wS_asg, wS_asgC, wS_asgT, wS_asgA, wS_asgI, wS_aug, wS_augA, wS_for, wS_forT, wS_while, wS_if, wS_ret, wS_expr, wS_brk, wE_cint, wE_cneg, wE_cstr, wE_cbool, wE_cnone, wE_var, wE_bin, wE_cmp, wE_or2, wE_ite, wE_tup, wE_lst, wE_dctI, wE_dctS, wE_sub, wE_slTo, wE_slFrom, wE_attr, wE_call, wE_new, wE_meth, wE_bcall, wE_bmeth, wE_comp, wE_compIf, wE_comp2]
  refine w_look e1 (w_ns el (w_look q.cells (i_ref x.cells (And.intro (by omega) ?_))))
  refine compIfW_fold (fun m H' acc => Keep [] H H' ∧ acc = cellsV (dueF R (CL.take m))) (fun _ H' _ hI => hI.1.at x.cells) ?_ ⟨.refl, rfl⟩ ?_
  · rintro m v H' acc hm hv ⟨k₁, rfl⟩ K' hK'
    have hm : m < CL.length := by rw [lcl] at hm; exact hm
    have hv' : (cellsV CL)[m]? = some (.tup [.str 0, .int CL[m].1, .tup (CL[m].2.map V.int), .none]) := by rw [cellsV, List.getElem?_map, List.getElem?_eq_getElem hm]; rfl
    rw [hv'] at hv
    cases hv
    obtain ⟨hz, hx⟩ := hins CL[m] (List.getElem_mem hm)
    have hr₁ := k₁.at hr
    have e4 : CL.take (m + 1) = CL.take m ++ [CL[m]] := by rw [List.take_add_one, List.getElem?_eq_getElem hm]; rfl
    have f2 : look 29 (keepV [29, 61] ρ) = some (.ref ri) := lk rfl e2
    have f3 : look 61 (keepV [29, 61] ρ) = some (.ref li) := lk rfl e3
    generalize keepV [29, 61] ρ = ρ₁ at f2 f3 ⊢
    have hs : (lookI CL[m].1 (R.map fun p => (p.1, V.int p.2))).isSome = (lookI CL[m].1 R).isSome := by rw [lookI_map]; cases lookI CL[m].1 R <;> rfl
    dsimp only [wZ_nil, wZ_cons, wS_asg, wS_asgC, wS_asgT, wS_asgA, wS_asgI, wS_aug, wS_augA, wS_for, wS_forT, wS_while, wS_if, wS_ret, wS_expr, wS_brk, wT_not, wT_tand, wT_tor, wT_cmp, wT_var, wT_bin, wT_sub, wT_call, wE_cint, wE_cneg, wE_cstr, wE_cbool, wE_cnone, wE_var, wE_bin, wE_cmp, wE_or2, wE_ite, wE_tup, wE_lst, wE_dctI, wE_dctS, wE_sub, wE_slTo, wE_slFrom, wE_attr, wE_call, wE_new, wE_meth, wE_bcall, wE_bmeth, wE_comp, wE_compIf, wE_comp2, wL_nil, wL_cons, look_c, Nat.reduceBEq, cond_true, cond_false]
    refine s_t1 (w_look f2 (c_niD hr₁ ?_))
    rw [hs]
    refine ⟨fun hb => ?_, fun hb => ?_⟩
    · refine s_t0 (s_t1 (s_t2 (And.intro (by show (CL[m].2.map V.int).length ≤ _; rw [List.length_map]; omega) ?_)))
      refine last_comp (C := C) (R := R) (N := N) (ρ := (8, V.tup [.str 0, .int CL[m].1, .tup (CL[m].2.map V.int), .none]) :: ρ₁) trivial (k₁.at hL) ok hx (lc rfl f3) ?_
      refine f_tupL get_last (by rw [List.length_map, List.length_map]; omega) (s_t3 (hK' _ _ ⟨k₁.trans Keep.push, ?_⟩))
      rw [e4, dueF_snoc, if_pos hb, cellsV_snoc]
    · refine hK' _ _ ⟨k₁, ?_⟩
      rw [e4, dueF_snoc, if_neg (by rw [hb]; decide), List.append_nil]
  · rintro H' acc ⟨k₁, rfl⟩
    rw [lcl, List.take_of_length_le (Nat.le_refl _)]
    exact h _ _ (k₁.trans Keep.push) get_last

noncomputable def lrIf1 : S := (.if_ (.tor (.cons (.cmp .NotEq (.attr (.var 60) 32) (.var 62)) (.cons (.cmp .NotEq (.attr (.var 60) 33) (.attr (.var 31) 33)) (.cons (.cmp .NotEq (.attr (.var 60) 34) (.attr (.var 31) 34)) (.cons (.cmp .NotEq (.attr (.var 60) 64) (.cstr 12)) .nil))))) (.cons (.ret (.cbool false))
    .nil) .nil)
noncomputable def lrIf2 : S := (.if_ (.cmp .NotEq (.attr (.var 60) 35) (.lst (.cons (.tup (.cons (.cstr 14) (.cons (.comp (.sub (.var 61) (.var 30)) 30 (.sub (.sub (.var 59) (.cint 1)) (.cint 0)) [61]) .nil))) .nil))) (.cons (.ret (.cbool false))
    .nil) .nil)
noncomputable def lrRet : S := (.ret (.cmp .Eq (.tup (.cons (.attr (.var 31) 32) (.cons (.comp (.sub (.var 74) (.cint 1)) 74 (.attr (.var 31) 35) []) .nil))) (.var 59)))
theorem ne_int {H : Hp} {x : Int} {K : Bool → Prop} (h : K false) : cmpW .NotEq (.int x) (.int x) H K := c_nei (by rw [decide_eq_true rfl]; exact h)
theorem ne_str {H : Hp} {k : Nat} {K : Bool → Prop} (h : K false) : cmpW .NotEq (.str k) (.str k) H K := c_nes (by rw [decide_eq_true rfl]; exact h)
theorem lrIf1_ok {C : CallT} {a ii oi ci n iq oq a' ii' oi' ci' n' iq' oq' du : Nat} {cnt : Int} {CL CL' : List (Int × List Int)} {OL OL' : List Int} {ρ : Rho} {H : Hp} {K : PS} (x : OldAt H a cnt ii oi ci n iq oq CL OL) (y : OldAt H a' cnt ii' oi' ci' n' iq' oq' CL' OL') (hd : H[du]? = some (.list (cellsV CL')))
    (e1 : look 31 ρ = some (.inst a)) (e2 : look 60 ρ = some (.inst a')) (e3 : look 62 ρ = some (.ref du)) (h : K .next ρ H) : S.wp C lrIf1 ρ H K := by
  unfold lrIf1
  obtain ⟨l, el, q⟩ := x.net.ns
  obtain ⟨l', el', q'⟩ := y.net.ns
  dsimp only [wZ_nil, wZ_cons, wS_asg, wS_asgC, wS_asgT, wS_asgA, wS_asgI, wS_aug, wS_augA, wS_for, wS_forT, wS_while, wS_if, wS_ret, wS_expr, wS_brk, wE_cint, wE_cneg, wE_cstr, wE_cbool, wE_cnone, wE_var, wE_bin, wE_cmp, wE_or2, wE_ite, wE_tup, wE_lst, wE_dctI, wE_dctS, wE_sub, wE_slTo, wE_slFrom, wE_attr, wE_call, wE_new, wE_meth, wE_bcall, wE_bmeth, wE_comp, wE_compIf, wE_comp2, wL_nil, wL_cons, wT_not, wT_tand, wT_tor, wT_cmp, wT_var, wT_bin, wT_sub, wT_call, wA_nil, wA_cons, wO_nil, wO_cons, onSome, onInt, onRef, onInst, List.zip_cons_cons, List.zip_nil_right, look_c, Nat.reduceBEq, cond_true, cond_false]
  refine w_look e2 (w_ns el' (w_look q'.cells (w_look e3 (ne_cells y.cells hd (w_f ?_)))))
  refine w_look e2 (w_ns el' (w_look q'.count (w_look e1 (w_ns el (w_look q.count (ne_int (w_f ?_)))))))
  refine w_look e2 (w_ns el' (w_look q'.ins (w_look e1 (w_ns el (w_look q.ins (ne_ports (l := [2, 3]) (by decide +kernel) y.ins y.insL x.ins x.insL (w_f ?_)))))))
  exact w_look e2 (w_ns el' (w_look q'.name (ne_str (w_f (w_f h)))))
theorem lrIf2_ok {C : CallT} {a' ii' oi' ci' n' iq' oq' cb ob o2 li N : Nat} {cnt : Int} {CL' : List (Int × List Int)} {OL : List Int} {R L : List (Int × Int)} {ρ : Rho} {H : Hp} {K : PS} (y : OldAt H a' cnt ii' oi' ci' n' iq' oq' CL' (OL.map (lastF R))) (hOL : OL.length ≤ 50) (hO : ∀ x ∈ OL, 0 ≤ x ∧ x < (N : Int))
    (ho : H[ob]? = some (.list [.ref o2])) (ho2 : H[o2]? = some (.list (OL.map V.int))) (hL : H[li]? = some (dictV L)) (ok : LastOk R N L) (e2 : look 60 ρ = some (.inst a')) (e3 : look 59 ρ = some (.tup [.ref cb, .ref ob])) (e4 : look 61 ρ = some (.ref li))
    (h : ∀ H', Keep [] H H' → K .next ρ H') : S.wp C lrIf2 ρ H K := by
  unfold lrIf2
  obtain ⟨l', el', q'⟩ := y.net.ns
  dsimp only [wZ_nil, wZ_cons, wS_asg, wS_asgC, wS_asgT, wS_asgA, wS_asgI, wS_aug, wS_augA, wS_for, wS_forT, wS_while, wS_if, wS_ret, wS_expr, wS_brk, wE_cint, wE_cneg, wE_cstr, wE_cbool, wE_cnone, wE_var, wE_bin, wE_cmp, wE_or2, wE_ite, wE_tup, wE_lst, wE_dctI, wE_dctS, wE_sub, wE_slTo, wE_slFrom, wE_attr, wE_call, wE_new, wE_meth, wE_bcall, wE_bmeth, wE_comp, wE_compIf, wE_comp2, wL_nil, wL_cons, wT_not, wT_tand, wT_tor, wT_cmp, wT_var, wT_bin, wT_sub, wT_call, wA_nil, wA_cons, wO_nil, wO_cons, onSome, onInt, onRef, onInst, List.zip_cons_cons, List.zip_nil_right, look_c, Nat.reduceBEq, cond_true, cond_false]
  refine w_look e2 (w_ns el' (w_look q'.outs (w_look e3 (s_t1 (s_l (d := .ref o2) ho (by decide) (by decide) rfl (i_ref ho2 (And.intro (by rw [List.length_map]; omega) ?_)))))))
  refine last_comp (C := C) (R := R) (N := N) ho2 hL ok hO e4 ?_
  have k₁ : Keep [] H (H ++ [O.list ((OL.map (lastF R)).map V.int)]) := Keep.push
  have k₂ : Keep [] (H ++ [O.list ((OL.map (lastF R)).map V.int)]) (H ++ [O.list ((OL.map (lastF R)).map V.int)] ++ [O.list [.tup [.str 14, .ref H.length]]]) := Keep.push
  refine ne_ports (by decide +kernel) ((k₁.trans k₂).at y.outs) ((k₁.trans k₂).at y.outsL) get_last (k₂.at get_last) (w_f (h _ (k₁.trans k₂)))
theorem lrRet_ok {C : CallT} {a ii oi ci n iq oq cb ob o2 : Nat} {cnt : Int} {CL : List (Int × List Int)} {OL : List Int} {ρ : Rho} {H : Hp} {K : PS} (x : OldAt H a cnt ii oi ci n iq oq CL OL) (hc : H[cb]? = some (.list (cellsV CL))) (ho : H[ob]? = some (.list [.ref o2])) (ho2 : H[o2]? = some (.list (OL.map V.int)))
    (e1 : look 31 ρ = some (.inst a)) (e3 : look 59 ρ = some (.tup [.ref cb, .ref ob])) (h : ∀ H', K (.ret (.bool true)) ρ H') : S.wp C lrRet ρ H K := by
  unfold lrRet
  obtain ⟨l, el, q⟩ := x.net.ns
  have o₁ := x.outs
  have k₁ : Keep [] H (H ++ [O.list [.ref oq]]) := Keep.push
  dsimp only [wZ_nil, wZ_cons, wS_asg, wS_asgC, wS_asgT, wS_asgA, wS_asgI, wS_aug, wS_augA, wS_for, wS_forT, wS_while, wS_if, wS_ret, wS_expr, wS_brk, wE_cint, wE_cneg, wE_cstr, wE_cbool, wE_cnone, wE_var, wE_bin, wE_cmp, wE_or2, wE_ite, wE_tup, wE_lst, wE_dctI, wE_dctS, wE_sub, wE_slTo, wE_slFrom, wE_attr, wE_call, wE_new, wE_meth, wE_bcall, wE_bmeth, wE_comp, wE_compIf, wE_comp2, wL_nil, wL_cons, wT_not, wT_tand, wT_tor, wT_cmp, wT_var, wT_bin, wT_sub, wT_call, wA_nil, wA_cons, wO_nil, wO_cons, onSome, onInt, onRef, onInst, List.zip_cons_cons, List.zip_nil_right, look_c, Nat.reduceBEq, cond_true, cond_false]
  refine w_look e1 (w_ns el (w_look q.cells (w_look e1 (w_ns el (w_look q.outs (i_ref o₁ (And.intro (by show 1 ≤ 100000; decide) ⟨o₁, ?_⟩)))))))
  refine s_t1 ⟨o₁, w_look e3 ?_⟩
  refine eq_before (k₁.at x.cells) get_last (k₁.at x.outsL) (k₁.at hc) (k₁.at ho) (k₁.at ho2) ?_
  exact h _
end Mine

namespace Mine
open PySem PySem.W PyProof.Rows

noncomputable def lrBody3 : Ss := .cons (.asg 60 (.call 85 (.cons (.var 31) (.cons (.var 29) .nil)))) (.cons (.asg 61 (.dctI [] .nil)) (.cons lrFor3 (.cons lrDue (.cons lrIf1 (.cons lrIf2 (.cons lrRet .nil))))))
noncomputable def lrBody2 : Ss := .cons lrOut (.cons (.asg 29 (.dctI [] .nil)) (.cons lrFor2 (.cons lrBefore lrBody3)))
theorem lrBody3_ok {n b a ii oi ci nr iq oq j ri cb ob o2 : Nat} {CL : List (Int × List Int)} {OL : List Int} {R : List (Int × Int)} {ρ : Rho} {H : Hp} {Q : PV} (hj : j ≤ 5) (x : OldAt H a ((4 + j : Nat) : Int) ii oi ci (7 + j) iq oq CL OL) (hn : H[nr]? = some (.list ((natL (4 + j)).map V.int)))
    (len : CL.length = j) (okc : ∀ c ∈ CL, 0 ≤ c.1 ∧ c.1 < (4 + j : Nat) ∧ c.2.length = 2 ∧ ∀ x ∈ c.2, 0 ≤ x ∧ x < (4 + j : Nat)) (oko : OL.length = 2 ∧ ∀ x ∈ OL, 0 ≤ x ∧ x < (4 + j : Nat)) (hR : ROk R) (hr : H[ri]? = some (dictV R))
    (hc : H[cb]? = some (.list (cellsV CL))) (ho : H[ob]? = some (.list [.ref o2])) (ho2 : H[o2]? = some (.list (OL.map V.int)))
    (e1 : look 31 ρ = some (.inst a)) (e2 : look 29 ρ = some (.ref ri)) (e3 : look 45 ρ = some (.ref nr)) (e4 : look 59 ρ = some (.tup [.ref cb, .ref ob])) (h : ∀ H', Q (.bool true) H') : Ss.wp (CN FT (n + 4)) lrBody3 ρ H (retK Q) := by
  unfold lrBody3
  first | rw [wZ_cons] | rw [wZ_nil]
  dsimp only [wS_asg, wS_asgC, wS_asgT, wS_asgA, wS_asgI, wS_aug, wS_augA, wS_for, wS_forT, wS_while, wS_if, wS_ret, wS_expr, wS_brk, wE_cint, wE_cneg, wE_cstr, wE_cbool, wE_cnone, wE_var, wE_bin, wE_cmp, wE_or2, wE_ite, wE_tup, wE_lst, wE_dctI, wE_dctS, wE_sub, wE_slTo, wE_slFrom, wE_attr, wE_call, wE_new, wE_meth, wE_bcall, wE_bmeth, wE_comp, wE_compIf, wE_comp2, wL_nil, wL_cons]
  refine w_look e1 (w_look e2 ?_)
  have hins : ∀ c ∈ CL, c.2.length ≤ 50 := fun c hc => by have := (okc c hc).2.2.1; omega
  refine rebuilt_ok x hR hr (by omega) hins (by omega) fun H₁ a' ii' oi' ci' iq' oq' n' k₁ y => ?_
  first | rw [wZ_cons] | rw [wZ_nil]
  dsimp only [wS_asg, wS_asgC, wS_asgT, wS_asgA, wS_asgI, wS_aug, wS_augA, wS_for, wS_forT, wS_while, wS_if, wS_ret, wS_expr, wS_brk, wE_cint, wE_cneg, wE_cstr, wE_cbool, wE_cnone, wE_var, wE_bin, wE_cmp, wE_or2, wE_ite, wE_tup, wE_lst, wE_dctI, wE_dctS, wE_sub, wE_slTo, wE_slFrom, wE_attr, wE_call, wE_new, wE_meth, wE_bcall, wE_bmeth, wE_comp, wE_compIf, wE_comp2, wL_nil, wL_cons]
  have k₂ : Keep [] H₁ (H₁ ++ [dictV []]) := Keep.push
  show Ss.wp (CN FT (n + 4)) (.cons lrFor3 (.cons lrDue (.cons lrIf1 (.cons lrIf2 (.cons lrRet .nil))))) ((61, .ref H₁.length) :: (60, .inst a') :: ρ) (H₁ ++ [dictV []]) (retK Q)
  have kk₂ := k₁.trans k₂
  have l₁ := k₁.1
  first | rw [wZ_cons] | rw [wZ_nil]
  have f1 : look 31 ((61, V.ref H₁.length) :: (60, V.inst a') :: ρ) = some (.inst a) := lc rfl (lc rfl e1)
  have f2 : look 29 ((61, V.ref H₁.length) :: (60, V.inst a') :: ρ) = some (.ref ri) := lc rfl (lc rfl e2)
  have f3 : look 45 ((61, V.ref H₁.length) :: (60, V.inst a') :: ρ) = some (.ref nr) := lc rfl (lc rfl e3)
  have f4 : look 59 ((61, V.ref H₁.length) :: (60, V.inst a') :: ρ) = some (.tup [.ref cb, .ref ob]) := lc rfl (lc rfl e4)
  have f5 : look 60 ((61, V.ref H₁.length) :: (60, V.inst a') :: ρ) = some (.inst a') := rfl
  have f6 : look 61 ((61, V.ref H₁.length) :: (60, V.inst a') :: ρ) = some (.ref H₁.length) := rfl
  generalize ((61, V.ref H₁.length) :: (60, V.inst a') :: ρ : Rho) = ρ₁ at f1 f2 f3 f4 f5 f6 ⊢
  have ln := lt_of_get hn
  have lr := lt_of_get hr
  refine lrFor3_ok (N := 4 + j) (by omega) hR (kk₂.at hn) (kk₂.at hr) get_last (by omega) (by omega) f6 f2 f3 fun L ρ₂ H₃ hρ k₃ hL ok => ?_
  have y₂ := y.keep k₂
  have kk₃ : Keep [] H H₃ := kk₂.old k₃ (by simp; omega)
  have kk₁₃ : Keep [] H₁ H₃ := k₂.old k₃ (by simp)
  have y₃ := y.keep kk₁₃
  have x₃ := x.keep kk₃
  have g1 := (hρ 31 (by decide)).trans f1
  have g2 := (hρ 29 (by decide)).trans f2
  have g4 := (hρ 59 (by decide)).trans f4
  have g5 := (hρ 60 (by decide)).trans f5
  have g6 := (hρ 61 (by decide)).trans f6
  show Ss.wp (CN FT (n + 4)) (.cons lrDue (.cons lrIf1 (.cons lrIf2 (.cons lrRet .nil)))) ρ₂ H₃ (retK Q)
  first | rw [wZ_cons] | rw [wZ_nil]
  refine lrDue_ok (N := 4 + j) x₃ (by omega) (fun c hc => ⟨hins c hc, (okc c hc).2.2.2⟩) (kk₃.at hr) hL ok g1 g2 g6 fun du H₄ k₄ hd => ?_
  show Ss.wp (CN FT (n + 4)) (.cons lrIf1 (.cons lrIf2 (.cons lrRet .nil))) ((62, .ref du) :: ρ₂) H₄ (retK Q)
  have q1 : look 31 ((62, V.ref du) :: ρ₂) = some (.inst a) := by rw [look_cons, if_neg (by decide)]; exact g1
  have q4 : look 59 ((62, V.ref du) :: ρ₂) = some (.tup [.ref cb, .ref ob]) := by rw [look_cons, if_neg (by decide)]; exact g4
  have q5 : look 60 ((62, V.ref du) :: ρ₂) = some (.inst a') := by rw [look_cons, if_neg (by decide)]; exact g5
  have q6 : look 61 ((62, V.ref du) :: ρ₂) = some (.ref H₁.length) := by rw [look_cons, if_neg (by decide)]; exact g6
  have q7 : look 62 ((62, V.ref du) :: ρ₂) = some (.ref du) := by rw [look_cons, if_pos rfl]
  generalize ((62, V.ref du) :: ρ₂ : Rho) = ρ₃ at q1 q4 q5 q6 q7 ⊢
  have kk₄ := kk₃.trans k₄
  first | rw [wZ_cons] | rw [wZ_nil]
  refine lrIf1_ok (x₃.keep k₄) (y₃.keep k₄) hd q1 q5 q7 ?_
  show Ss.wp (CN FT (n + 4)) (.cons lrIf2 (.cons lrRet .nil)) ρ₃ H₄ (retK Q)
  first | rw [wZ_cons] | rw [wZ_nil]
  refine lrIf2_ok (N := 4 + j) (y₃.keep k₄) (by omega) oko.2 (kk₄.at ho) (kk₄.at ho2) (k₄.at hL) ok q5 q4 q6 fun H₅ k₅ => ?_
  show Ss.wp (CN FT (n + 4)) (.cons lrRet .nil) ρ₃ H₅ (retK Q)
  have kk₅ := kk₄.trans k₅
  first | rw [wZ_cons] | rw [wZ_nil]
  exact lrRet_ok (x.keep kk₅) (kk₅.at hc) (kk₅.at ho) (kk₅.at ho2) q1 q4 fun H' => h H'
theorem lrBody2_ok {n b a ii oi ci nr iq m : Nat} {CL : List (Int × List Int)} {ρ : Rho} {H : Hp} {Q : PV} (hm : m ≤ 5) (x : Made H b a ii oi ci nr iq m CL) (e1 : look 50 ρ = some (.ref b)) (e2 : look 31 ρ = some (.inst a)) (e3 : look 45 ρ = some (.ref nr)) (h : ∀ H', Q (.bool true) H') :
    Ss.wp (CN FT (n + 4)) lrBody2 ρ H (retK Q) := by
  unfold lrBody2
  first | rw [wZ_cons] | rw [wZ_nil]
  refine lrOut_ok (k := n + 3) hm x e1 e2 e3 fun oq OL H₁ w => ?_
  show Ss.wp (CN FT (n + 4)) (.cons (.asg 29 (.dctI [] .nil)) (.cons lrFor2 (.cons lrBefore lrBody3))) ρ H₁ (retK Q)
  first | rw [wZ_cons] | rw [wZ_nil]
  dsimp only [wS_asg, wS_asgC, wS_asgT, wS_asgA, wS_asgI, wS_aug, wS_augA, wS_for, wS_forT, wS_while, wS_if, wS_ret, wS_expr, wS_brk, wE_cint, wE_cneg, wE_cstr, wE_cbool, wE_cnone, wE_var, wE_bin, wE_cmp, wE_or2, wE_ite, wE_tup, wE_lst, wE_dctI, wE_dctS, wE_sub, wE_slTo, wE_slFrom, wE_attr, wE_call, wE_new, wE_meth, wE_bcall, wE_bmeth, wE_comp, wE_compIf, wE_comp2, wL_nil, wL_cons]
  have k₂ : Keep [] H₁ (H₁ ++ [dictV []]) := Keep.push
  show Ss.wp (CN FT (n + 4)) (.cons lrFor2 (.cons lrBefore lrBody3)) ((29, .ref H₁.length) :: ρ) (H₁ ++ [dictV []]) (retK Q)
  have f1 : look 50 ((29, V.ref H₁.length) :: ρ) = some (.ref b) := by rw [look_cons, if_neg (by decide)]; exact e1
  have f2 : look 31 ((29, V.ref H₁.length) :: ρ) = some (.inst a) := by rw [look_cons, if_neg (by decide)]; exact e2
  have f3 : look 45 ((29, V.ref H₁.length) :: ρ) = some (.ref nr) := by rw [look_cons, if_neg (by decide)]; exact e3
  have f4 : look 29 ((29, V.ref H₁.length) :: ρ) = some (.ref H₁.length) := by rw [look_cons, if_pos rfl]
  generalize ((29, V.ref H₁.length) :: ρ : Rho) = ρ₁ at f1 f2 f3 f4 ⊢
  have w₂ := w.keep k₂
  have lb := w.box.lt
  have ln := lt_of_get w.nets
  obtain ⟨b1, b2, b3, b4, b5, b6⟩ := w.bs
  obtain ⟨l, el, _⟩ := w.old.net.ns
  have la := lt_of_get el
  have lii := lt_of_get w.old.ins
  have loi := lt_of_get w.old.outs
  have lci := lt_of_get w.old.cells
  have liq := lt_of_get w.old.insL
  have loq := lt_of_get w.old.outsL
  first | rw [wZ_cons] | rw [wZ_nil]
  refine lrFor2_ok (k := n + 3) (N := 4 + m) (ri := H₁.length) (by omega) w₂.box w₂.nets get_last w.bn (by omega) (by omega) f1 f4 f3 fun R ρ₂ H₂ hρ k₃ hR ok => ?_
  show Ss.wp (CN FT (n + 4)) (.cons lrBefore lrBody3) ρ₂ H₂ (retK Q)
  have x₂ : OldAt H₂ a ((4 + m : Nat) : Int) ii oi ci (7 + m) iq oq CL OL := w₂.old.keepW k₃ fun z hz => by
    rcases List.mem_cons.mp hz with rfl | hz
    · exact ⟨b1, b2, b3, b4, b5, b6⟩
    · rw [List.mem_singleton.mp hz]
      exact ⟨Nat.ne_of_gt la, Nat.ne_of_gt lii, Nat.ne_of_gt loi, Nat.ne_of_gt lci, Nat.ne_of_gt liq, Nat.ne_of_gt loq⟩
  have hn₂ := keep_to k₃ w₂.nets (n2 w.bn.symm (by omega))
  have hcl := w.len
  first | rw [wZ_cons] | rw [wZ_nil]
  refine lrBefore_ok x₂ (by omega) (by have := w.oko.1; omega) ((hρ 31 (by decide)).trans f2) fun cb ob o2 H₃ k₄ hc ho ho2 => ?_
  show Ss.wp (CN FT (n + 4)) lrBody3 ((59, .tup [.ref cb, .ref ob]) :: ρ₂) H₃ (retK Q)
  refine lrBody3_ok (b := b) hm (x₂.keep k₄) (k₄.at hn₂) w.len w.okc w.oko ok (k₄.at hR) hc ho ho2 ?_ ?_ ?_ ?_ h
  · rw [look_cons, if_neg (by decide)]; exact (hρ 31 (by decide)).trans f2
  · rw [look_cons, if_neg (by decide)]; exact (hρ 29 (by decide)).trans f4
  · rw [look_cons, if_neg (by decide)]; exact (hρ 45 (by decide)).trans f3
  · rw [look_cons, if_pos rfl]
theorem law_rebuilt_ok {n b : Nat} {H : Hp} {Q : PV} (hb : BoxAt H b) (h : ∀ H', Q (.bool true) H') : CN FT (n + 5) 103 [.ref b] H Q := by
  refine CN_step rfl rfl ?_
  show Ss.wp (CN FT (n + 4)) (.cons lrNew (.cons lrNets (.cons lrFor1 lrBody2))) [(50, .ref b)] H (retK Q)
  refine lrTop_ok (k := n + 1) hb fun a ii oi ci nr iq H₁ x => ?_
  first | rw [wZ_cons] | rw [wZ_nil]
  refine lrFor1_ok (k := n + 2) x rfl rfl rfl fun m CL ρ' H₂ hm hρ y => ?_
  show Ss.wp (CN FT (n + 4)) lrBody2 ρ' H₂ (retK Q)
  exact lrBody2_ok hm y (by rw [hρ 50 (by decide)]; rfl) (by rw [hρ 31 (by decide)]; rfl) (by rw [hρ 45 (by decide)]; rfl) h
theorem law_ok (ns : List Int) (hn : ns.length ≤ 63) : CN FT 12 104 [.frz ns] [] fun d _ => d = .bool true :=
  law_ok_of (fun _ _ _ hb h => law_rebuilt_ok (n := 6) hb h) ns hn
end Mine

namespace Mine
open PySem PySem.W PyProof.Rows
theorem hd.tw17311223219408574766 : True := trivial
theorem hd.tw17087091549796120035 : True := trivial
theorem hd.tw6924109203229866365 : True := trivial
theorem hd.tw14892549342360969540 : True := trivial
theorem hd.tw978945382295711627 : True := trivial
theorem hd.tw4065347644161347641 : True := trivial
theorem hd.tw6293948785866598258 : True := trivial
theorem hd.tw5961118342813265553 : True := trivial
theorem hd.tw9641152695372364146 : True := trivial
theorem hd.tw11128854368766332075 : True := trivial
theorem hd.tw5148922909946612681 : True := trivial
theorem hd.tw5781342201191254626 : True := trivial
theorem hd.tw17711083657039698284 : True := trivial
theorem hd.tw14620637471214046174 : True := trivial
theorem hd.tw2867327485932766208 : True := trivial
theorem hd.tw11652457597714270106 : True := trivial
theorem hd.tw15103106377680225435 : True := trivial
theorem hd.tw3259873300814134281 : True := trivial
theorem hd.tw4856431653887292112 : True := trivial
theorem hd.tw307737655149646647 : True := trivial
theorem hd.tw11117797201346649052 : True := trivial
theorem hd.tw2216850387143573719 : True := trivial
theorem hd.tw18322514126500204803 : True := trivial
theorem hd.tw6838551448383532254 : True := trivial
theorem hd.tw461538923250603899 : True := trivial
theorem hd.tw8047900516022102942 : True := trivial
theorem hd.tw8671608845466749128 : True := trivial
theorem hd.tw8343274005884668182 : True := trivial
theorem hd.tw16772102934027710169 : True := trivial
theorem hd.tw12936449754285732098 : True := trivial
theorem hd.tw13330244855972007585 : True := trivial
theorem hd.tw7752767780024739350 : True := trivial
theorem hd.tw6528754448969337418 : True := trivial
theorem hd.tw5373601922739893978 : True := trivial
theorem hd.tw17447410573909459338 : True := trivial
theorem hd.tw7540655947842036084 : True := trivial
theorem hd.tw4014540891139286612 : True := trivial
theorem hd.tw12588582704262371052 : True := trivial
theorem hd.tw11893437276241958245 : True := trivial
theorem hd.tw11953376511379268794 : True := trivial
theorem hd.tw1382963296337349011 : True := trivial
theorem hd.tw3182187488490625086 : True := trivial
theorem hd.tw18300207936620678264 : True := trivial
theorem hd.tw13518370688599389936 : True := trivial
theorem hd.tw5363564295841288755 : True := trivial
theorem hd.tw2167537188350426706 : True := trivial
theorem hd.tw13919464512627920130 : True := trivial
theorem hd.tw5278057926702712004 : True := trivial
theorem hd.tw8311610187620527757 : True := trivial
theorem hd.tw6545403380812914513 : True := trivial
theorem hd.tw13609717118414637909 : True := trivial
theorem hd.tw12173100003817136821 : True := trivial
theorem hd.tw4115565904173853331 : True := trivial
theorem hd.tw5857384340933288121 : True := trivial
theorem hd.tw10111801491309104144 : True := trivial
theorem hd.tw10525666975642140466 : True := trivial
theorem hd.tw12901994302517312135 : True := trivial
theorem hd.tw6819123309680001836 : True := trivial
theorem hd.tw5987830557187376847 : True := trivial
theorem hd.tw17901334829092211166 : True := trivial
theorem hd.tw2195365466389143174 : True := trivial
theorem hd.tw13225837485096350037 : True := trivial
theorem hd.tw16037735763661986305 : True := trivial
theorem hd.tw3759623122121258479 : True := trivial
theorem hd.tw8117029840178788049 : True := trivial
theorem hd.tw9421340871869096474 : True := trivial
theorem hd.tw701787995468756871 : True := trivial
theorem hd.tw7914949630228597729 : True := trivial
theorem hd.tw9154154437278324204 : True := trivial
theorem hd.tw9277588360372424766 : True := trivial
theorem hd.tw13483081372092288885 : True := trivial
theorem hd.tw4706079058837389440 : True := trivial
theorem hd.tw8727321023445011275 : True := trivial
theorem hd.tw2274498078352570744 : True := trivial
theorem hd.tw4993660671451451078 : True := trivial
theorem hd.tw1129884963351977449 : True := trivial
theorem hd.tw10258999931320997221 : True := trivial
theorem hd.tw15166520500009309586 : True := trivial
theorem hd.tw17574625026820762457 : True := trivial
theorem hd.tw16412773359747925120 : True := trivial
theorem hd.tw17673860158736603733 : True := trivial
theorem hd.tw10403243965636340961 : True := trivial
theorem hd.tw4225703048834024713 : True := trivial
theorem hd.tw16546736560662234797 : True := trivial
theorem hd.tw9557236495431379559 : True := trivial
theorem hd.tw7366208706002141716 : True := trivial
theorem hd.tw16945582573551092051 : True := trivial
theorem hd.tw4015398097383911347 : True := trivial
theorem hd.tw16853341256802265648 : True := trivial
theorem hd.tw9386895884608548742 : True := trivial
theorem hd.tw11213053971927718326 : True := trivial
theorem hd.tw15298718440444336668 : True := trivial
theorem hd.tw15527848837575444561 : True := trivial
theorem hd.tw10727248033764811480 : True := trivial
theorem hd.tw10743916045514856203 : True := trivial
theorem hd.tw4272726840584523970 : True := trivial
theorem hd.tw12487502673411948298 : True := trivial
theorem hd.tw16828841361933241965 : True := trivial
theorem hd.tw15595854959937240912 : True := trivial
theorem hd.tw6196171512934965099 : True := trivial
theorem hd.tw17950676927832955104 : True := trivial
theorem hd.tw1506431575118746342 : True := trivial
theorem hd.tw17183224562656869120 : True := trivial
theorem hd.tw13866372431405929976 : True := trivial
theorem hd.tw15833661619300960221 : True := trivial
theorem hd.tw12112201142124510154 : True := trivial
theorem hd.tw17213754286329925777 : True := trivial
theorem hd.tw16091413853298234908 : True := trivial
theorem hd.tw16904818350239718627 : True := trivial
theorem hd.tw6820862383352777685 : True := trivial
theorem hd.tw402640490398009360 : True := trivial
theorem hd.tw8716120427605611371 : True := trivial
theorem hd.tw15837987909243819085 : True := trivial
theorem hd.tw8960069828448710407 : True := trivial
theorem hd.tw7120233287515763914 : True := trivial
theorem hd.tw6276725880618359904 : True := trivial
theorem hd.tw15642763164714097627 : True := trivial
theorem hd.tw3789350110615891812 : True := trivial
theorem hd.tw4478166936697009375 : True := trivial
theorem hd.tw9170477692918782315 : True := trivial
theorem hd.tw18103342009636024947 : True := trivial
theorem hd.tw15967140613478806237 : True := trivial
theorem hd.tw16194383521188589630 : True := trivial
theorem hd.tw6726342588429418155 : True := trivial
theorem hd.tw11210553801493137410 : True := trivial
theorem hd.tw9518435502879478352 : True := trivial
theorem hd.tw1413172679324656950 : True := trivial
theorem hd.tw9719896912496429819 : True := trivial
theorem hd.tw5902613922787404954 : True := trivial
theorem hd.tw1580110805410547442 : True := trivial
theorem hd.tw12949589719889679912 : True := trivial
theorem hd.tw8268277133935991078 : True := trivial
theorem hd.tw10246146449241189800 : True := trivial
theorem hd.tw5130813555471234732 : True := trivial
theorem hd.tw16259696140248634718 : True := trivial
theorem hd.tw15089522573102190283 : True := trivial
theorem hd.tw11917015161858427179 : True := trivial
theorem hd.tw9748044761591592747 : True := trivial
theorem hd.tw18166333605607142505 : True := trivial
theorem hd.tw10482398316924776279 : True := trivial
theorem hd.tw11513968764499736323 : True := trivial
theorem hd.tw16299908979028503884 : True := trivial
theorem hd.tw1359830224848277088 : True := trivial
theorem hd.tw11631947586910100387 : True := trivial
theorem hd.tw11054480109507316185 : True := trivial
theorem hd.tw17196123527066698086 : True := trivial
theorem hd.tw2386827423013361158 : True := trivial
theorem hd.tw13790719812936386609 : True := trivial
theorem hd.tw6164396464334811476 : True := trivial
theorem hd.tw2101469004524951375 : True := trivial
theorem hd.tw15615537253650120727 : True := trivial
theorem hd.tw464777395874653626 : True := trivial
theorem hd.tw1013155817946168525 : True := trivial
theorem hd.tw1836080755315867724 : True := trivial
theorem hd.tw1011335219593555734 : True := trivial
theorem hd.tw18093812233618175256 : True := trivial
theorem hd.tw12399718760709695909 : True := trivial
theorem hd.tw1222794163293265305 : True := trivial
theorem hd.tw17672654358674132775 : True := trivial
theorem hd.tw4360684699965382250 : True := trivial
theorem hd.tw8735263284916673568 : True := trivial
theorem hd.tw17893044597097874663 : True := trivial
theorem hd.tw15042006015671813226 : True := trivial
theorem hd.tw8112040973832200146 : True := trivial
theorem hd.tw18343703819029505601 : True := trivial
theorem hd.tw17681399029576232318 : True := trivial
theorem hd.tw8959176491354863721 : True := trivial
theorem hd.tw2930668341846507884 : True := trivial
theorem hd.tw7023726343779634624 : True := trivial
theorem hd.tw5511420028821071320 : True := trivial
theorem hd.tw9741134391959003819 : True := trivial
theorem hd.tw5657824000916062451 : True := trivial
theorem hd.tw6555240042291301478 : True := trivial
theorem hd.tw922143313871775805 : True := trivial
theorem hd.tw10792051664901133789 : True := trivial
theorem hd.tw6785817131721698500 : True := trivial
theorem hd.tw17258206423299326598 : True := trivial
theorem hd.tw15416985209724490359 : True := trivial
theorem hd.tw12070051907170230399 : True := trivial
theorem hd.tw9499510787657705874 : True := trivial
theorem hd.tw9345676750909349944 : True := trivial
theorem hd.tw16211521421427940678 : True := trivial
theorem hd.tw2603259988358896889 : True := trivial
theorem hd.tw17714235663813219645 : True := trivial
theorem hd.tw10614716105012338702 : True := trivial
theorem hd.tw16507004829965264671 : True := trivial
theorem hd.tw1800889605409440832 : True := trivial
theorem hd.tw9960721518486171458 : True := trivial
theorem hd.tw1097998534492414930 : True := trivial
theorem hd.tw5036846961687405229 : True := trivial
theorem hd.tw17903497710992402801 : True := trivial
theorem hd.tw9345929723534960622 : True := trivial
theorem hd.tw3919010098100093602 : True := trivial
theorem hd.tw1997569388931296116 : True := trivial
theorem hd.tw17054507655720011243 : True := trivial
theorem hd.tw11389486352061984695 : True := trivial
theorem hd.tw1760603350576429475 : True := trivial
theorem hd.tw3008623586974134963 : True := trivial
theorem hd.tw16920754564084929960 : True := trivial
theorem hd.tw17975533764899295144 : True := trivial
theorem hd.tw16868993833207775613 : True := trivial
theorem hd.tw4402725079659364252 : True := trivial
theorem hd.tw1600037746751723098 : True := trivial
theorem hd.tw8458067239894703972 : True := trivial
theorem hd.tw8226494294326810461 : True := trivial
theorem hd.tw13770079208771991547 : True := trivial
theorem hd.tw11319892378374348655 : True := trivial
theorem hd.tw3452082135128663414 : True := trivial
theorem hd.tw728884934406724761 : True := trivial
theorem hd.tw17606422857730326317 : True := trivial
theorem hd.tw13368278939475635651 : True := trivial
theorem hd.tw11465210709893060100 : True := trivial
theorem hd.tw3451239065008710300 : True := trivial
theorem hd.tw11319097763535126812 : True := trivial
theorem hd.tw15759970867653108152 : True := trivial
theorem hd.tw6407587892757256292 : True := trivial
theorem hd.tw15411387601460861337 : True := trivial
theorem hd.tw395138700845864316 : True := trivial
theorem hd.tw8457440626546761165 : True := trivial
theorem hd.tw6082411064634330575 : True := trivial
theorem hd.tw15529170255622000948 : True := trivial
theorem hd.tw12647368939536790636 : True := trivial
theorem hd.tw16240987189780228909 : True := trivial
theorem hd.tw7754304195085646258 : True := trivial
theorem hd.tw3493717111155160527 : True := trivial
theorem hd.tw6291416237084387574 : True := trivial
theorem hd.tw7355570028127101125 : True := trivial
theorem hd.tw6767318904944593275 : True := trivial
theorem hd.tw10601615944963115059 : True := trivial
theorem hd.tw7296583596125217682 : True := trivial
theorem hd.tw12271959270614036898 : True := trivial
theorem hd.tw2608437505485318709 : True := trivial
theorem hd.tw3646829019195819677 : True := trivial
theorem hd.tw18264374347568628810 : True := trivial
theorem hd.tw4971549296188076032 : True := trivial
theorem hd.tw17177331786930743035 : True := trivial
theorem hd.tw758273949599710562 : True := trivial
theorem hd.tw7289634563603522867 : True := trivial
theorem hd.tw17542962492245011380 : True := trivial
theorem hd.tw17252143746492648416 : True := trivial
theorem hd.tw5343241284826551009 : True := trivial
theorem hd.tw18219297243305740317 : True := trivial
theorem hd.tw11136197038861592535 : True := trivial
theorem hd.tw18293732401869909652 : True := trivial
theorem hd.tw11660266114150955751 : True := trivial
theorem hd.tw6442067068224118133 : True := trivial
theorem hd.tw16477043939570097188 : True := trivial
theorem hd.tw10603584201595350602 : True := trivial
theorem hd.tw2887051446865420828 : True := trivial
theorem hd.tw2068664650715991707 : True := trivial
theorem hd.tw5190246844813560578 : True := trivial
theorem hd.tw2680946903519809774 : True := trivial
theorem hd.tw26425463804135960 : True := trivial
theorem hd.tw3350844169311001129 : True := trivial
theorem hd.tw16432713993328977331 : True := trivial
theorem hd.tw4297731678662094536 : True := trivial
theorem hd.tw7028611270464810887 : True := trivial
theorem hd.tw3861751355019981504 : True := trivial
theorem hd.tw8228950375871286339 : True := trivial
theorem hd.tw16064382804478563927 : True := trivial
theorem hd.tw6394381022753523788 : True := trivial
theorem hd.tw2708950531961675432 : True := trivial
theorem hd.tw10424393626065333798 : True := trivial
theorem hd.tw1439246655266547700 : True := trivial
theorem hd.tw12023040214023829324 : True := trivial
set_option Elab.async true in
set_option maxHeartbeats 8000000 in
theorem hd : PySem.Challenge.rw_on0112_01.Holds := by
  w_on; o_law; k_head
  case hw => w_witness2
  exact walk law_ok _ _ _ _ _ (fun _ _ Y => kIn_of Y) (by kernel_rfl) (fun _ => ⟨(List.forall_mem_cons.mpr ⟨⟨rfl, by kernel_rfl, ⟨by kernel_rfl, (fun _ _ => by kernel_rfl), trivial⟩⟩, (List.forall_mem_cons.mpr ⟨⟨rfl, by kernel_rfl, ⟨by kernel_rfl, (fun _ _ => by kernel_rfl), trivial⟩⟩, (List.forall_mem_cons.mpr ⟨⟨rfl, by kernel_rfl, ⟨by kernel_rfl, (fun _ _ _ => by kernel_rfl), trivial⟩⟩, (List.forall_mem_cons.mpr ⟨⟨rfl, by kernel_rfl, ⟨by kernel_rfl, (fun _ _ _ _ _ => by kernel_rfl), trivial⟩⟩, (List.forall_mem_cons.mpr ⟨⟨rfl, by kernel_rfl, ⟨by kernel_rfl, (fun _ _ _ _ => by kernel_rfl), trivial⟩⟩, (List.forall_mem_cons.mpr ⟨⟨rfl, by kernel_rfl, ⟨by kernel_rfl, (fun _ _ _ => by kernel_rfl), trivial⟩⟩, (List.forall_mem_cons.mpr ⟨⟨rfl, by kernel_rfl, ⟨by kernel_rfl, (fun _ _ _ => by kernel_rfl), trivial⟩⟩, (List.forall_mem_cons.mpr ⟨⟨rfl, by kernel_rfl, ⟨by kernel_rfl, (fun _ _ _ => by kernel_rfl), trivial⟩⟩, (List.forall_mem_cons.mpr ⟨⟨rfl, by kernel_rfl, ⟨by kernel_rfl, (fun _ _ _ => by kernel_rfl), trivial⟩⟩, (List.forall_mem_cons.mpr ⟨⟨rfl, by kernel_rfl, ⟨by kernel_rfl, (fun _ _ _ _ => by kernel_rfl), trivial⟩⟩, (List.forall_mem_cons.mpr ⟨⟨rfl, by kernel_rfl, ⟨by kernel_rfl, (fun _ _ _ => by kernel_rfl), trivial⟩⟩, (List.forall_mem_cons.mpr ⟨⟨rfl, by kernel_rfl, ⟨by kernel_rfl, (fun _ _ _ _ => by kernel_rfl), trivial⟩⟩, (List.forall_mem_cons.mpr ⟨⟨rfl, by kernel_rfl, ⟨by kernel_rfl, (fun _ _ _ _ => by kernel_rfl), trivial⟩⟩, (List.forall_mem_cons.mpr ⟨⟨rfl, by kernel_rfl, ⟨by kernel_rfl, (fun _ _ _ _ => by kernel_rfl), trivial⟩⟩, (List.forall_mem_cons.mpr ⟨⟨rfl, by kernel_rfl, ⟨by kernel_rfl, (fun _ _ => by kernel_rfl), trivial⟩⟩, (List.forall_mem_cons.mpr ⟨⟨rfl, by kernel_rfl, ⟨by kernel_rfl, (fun _ _ _ _ _ => by kernel_rfl), trivial⟩⟩, (List.forall_mem_cons.mpr ⟨⟨rfl, by kernel_rfl, ⟨by kernel_rfl, (fun _ _ _ _ => by kernel_rfl), trivial⟩⟩, (List.forall_mem_cons.mpr ⟨⟨rfl, by kernel_rfl, ⟨by kernel_rfl, (fun _ _ _ _ => by kernel_rfl), trivial⟩⟩, (List.forall_mem_cons.mpr ⟨⟨rfl, by kernel_rfl, ⟨by kernel_rfl, (fun _ _ _ _ => by kernel_rfl), trivial⟩⟩, (List.forall_mem_cons.mpr ⟨⟨rfl, by kernel_rfl, ⟨by kernel_rfl, (fun _ _ _ => by kernel_rfl), trivial⟩⟩, (List.forall_mem_cons.mpr ⟨⟨rfl, by kernel_rfl, ⟨by kernel_rfl, (fun _ _ _ _ => by kernel_rfl), trivial⟩⟩, (List.forall_mem_cons.mpr ⟨⟨rfl, by kernel_rfl, ⟨by kernel_rfl, (fun _ _ _ => by kernel_rfl), trivial⟩⟩, (List.forall_mem_cons.mpr ⟨⟨rfl, by kernel_rfl, ⟨by kernel_rfl, (fun _ _ _ _ => by kernel_rfl), trivial⟩⟩, (List.forall_mem_cons.mpr ⟨⟨rfl, by kernel_rfl, ⟨by kernel_rfl, (fun _ _ => by kernel_rfl), trivial⟩⟩, (List.forall_mem_cons.mpr ⟨⟨rfl, by kernel_rfl, ⟨by kernel_rfl, (fun _ _ _ => by kernel_rfl), trivial⟩⟩, (List.forall_mem_cons.mpr ⟨⟨rfl, by kernel_rfl, ⟨by kernel_rfl, (fun _ _ _ _ => by kernel_rfl), trivial⟩⟩, (List.forall_mem_cons.mpr ⟨⟨rfl, by kernel_rfl, ⟨by kernel_rfl, (fun _ _ _ => by kernel_rfl), trivial⟩⟩, (List.forall_mem_cons.mpr ⟨⟨rfl, by kernel_rfl, ⟨by kernel_rfl, (fun _ _ _ _ => by kernel_rfl), trivial⟩⟩, (List.forall_mem_cons.mpr ⟨⟨rfl, by kernel_rfl, ⟨by kernel_rfl, (fun _ _ => by kernel_rfl), trivial⟩⟩, (fun _ h => nomatch h)⟩)⟩)⟩)⟩)⟩)⟩)⟩)⟩)⟩)⟩)⟩)⟩)⟩)⟩)⟩)⟩)⟩)⟩)⟩)⟩)⟩)⟩)⟩)⟩)⟩)⟩)⟩)⟩)⟩),
    (List.forall_mem_cons.mpr ⟨⟨rfl, by kernel_rfl, by kernel_rfl, ⟨by kernel_rfl, (fun _ _ => by kernel_rfl), trivial⟩⟩, (List.forall_mem_cons.mpr ⟨⟨rfl, by kernel_rfl, by kernel_rfl, ⟨by kernel_rfl, (fun _ _ _ => by kernel_rfl), trivial⟩⟩, (List.forall_mem_cons.mpr ⟨⟨rfl, by kernel_rfl, by kernel_rfl, ⟨by kernel_rfl, (fun _ _ _ _ => by kernel_rfl), trivial⟩⟩, (List.forall_mem_cons.mpr ⟨⟨rfl, by kernel_rfl, by kernel_rfl, ⟨by kernel_rfl, (fun _ _ _ _ => by kernel_rfl), trivial⟩⟩, (List.forall_mem_cons.mpr ⟨⟨rfl, by kernel_rfl, by kernel_rfl, ⟨by kernel_rfl, (fun _ _ _ _ _ => by kernel_rfl), (fun _ _ _ _ => by kernel_rfl)⟩⟩, (List.forall_mem_cons.mpr ⟨⟨rfl, by kernel_rfl, by kernel_rfl, ⟨by kernel_rfl, (fun _ _ _ _ _ _ => by kernel_rfl), (fun _ _ _ _ _ => by kernel_rfl)⟩⟩, (fun _ h => nomatch h)⟩)⟩)⟩)⟩)⟩)⟩),
    ⟨rfl, by kernel_rfl, by kernel_rfl, ⟨by kernel_rfl, (fun _ _ _ => by kernel_rfl), trivial⟩⟩, ⟨rfl, by kernel_rfl, ⟨by kernel_rfl, (fun _ _ => by kernel_rfl), trivial⟩⟩, by kernel_rfl, (List.forall_mem_cons.mpr ⟨by kernel_rfl, (List.forall_mem_cons.mpr ⟨by kernel_rfl, (List.forall_mem_cons.mpr ⟨by kernel_rfl, (List.forall_mem_cons.mpr ⟨by kernel_rfl, (List.forall_mem_cons.mpr ⟨by kernel_rfl, (fun _ h => nomatch h)⟩)⟩)⟩)⟩)⟩), by kernel_rfl, by kernel_rfl, by kernel_rfl, by kernel_rfl, by kernel_rfl, by kernel_rfl, by kernel_rfl, (fun b => by cases b <;> kernel_rfl)⟩)
end Mine

theorem PySem.Challenge.cw_on0112_01_holds : PySem.Challenge.rw_on0112_01.Holds :=
  Mine.hd
