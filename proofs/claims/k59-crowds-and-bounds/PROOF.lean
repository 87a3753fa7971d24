import PyProof.Rows.All
import Wide.All
import OpenK.AllK
import Wide.FinOn
import HandS.ForMost
import HandS.IsInst
import HandS.Zip
import HandS.FStr
import HandS.Flow
import HandS.Style
import HandS.Defaults
import HandS.HeadHook2
import HandS.Strs
import HandS.SetFor
import KE.KStateDown
import HandS.Head0
import HandS.Head1
import HandS.Head2
import HandS.TupAny
import HandS.Sort
import HandS.HeadEnd
import HandS.HeadHook1
import PySem.Challenge.RW_baycart_k59_crowds_and_bounds
set_option Elab.async false
set_option linter.all false
set_option maxRecDepth 100000
set_option maxHeartbeats 8000000
set_option synthInstance.maxHeartbeats 400000
set_option synthInstance.maxSize 2000

namespace Bw
open PySem L2

/-! the state: F what stands for good, cs the objects that may change -/
abbrev Cs := List (Addr × HO)
def Gr (F F' : Hp) : Prop := ∀ a o, F a = some o → F' a = some o
theorem Gr.rfl {F : Hp} : Gr F F := fun _ _ h => h
theorem Gr.tr {F F1 F2 : Hp} (a : Gr F F1) (b : Gr F1 F2) : Gr F F2 := fun x o h => b x o (a x o h)
theorem Gr.new {F : Hp} {p : Addr} {o : HO} (h : F p = none) : Gr F (upd F p o) := fun a u e => by
  rw [upd_ne (ne_of_none e h)]; exact e
structure Sta (F : Hp) (cs : Cs) (H : Hp) : Prop where
  fr : Gr F H
  sep : ∀ p ∈ cs, F p.1 = none
  has : ∀ p ∈ cs, H p.1 = some p.2
  nd : (cs.map (·.1)).Nodup
theorem Gr.back {F F' : Hp} {p : Addr} (e : Gr F F') (h : F' p = none) : F p = none := by
  cases h1 : F p with
  | none => rfl
  | some o => rw [e p o h1] at h; cases h
/-- a new thing that stays -/
theorem Sta.lay {F : Hp} {cs : Cs} {H : Hp} {p : Addr} {o : HO} (s : Sta F cs H) (h : H p = none) : Sta (upd F p o) cs (upd H p o) where
  fr := fun a u e => by
    by_cases q : a = p
    · subst q; rw [upd_same] at e ⊢; exact e
    · rw [upd_ne q] at e ⊢; exact s.fr a u e
  sep := fun c hc => by
    have q : c.1 ≠ p := fun z => by have := s.has c hc; rw [z, h] at this; cases this
    rw [upd_ne q]; exact s.sep c hc
  has := fun c hc => by
    have q : c.1 ≠ p := fun z => by have := s.has c hc; rw [z, h] at this; cases this
    rw [upd_ne q]; exact s.has c hc
  nd := s.nd
/-- a new thing that may change -/
theorem Sta.cell {F : Hp} {cs : Cs} {H : Hp} {p : Addr} {o : HO} (s : Sta F cs H) (h : H p = none) : Sta F ((p, o) :: cs) (upd H p o) where
  fr := fun a u e => by
    have q : a ≠ p := ne_of_none (s.fr a u e) h
    rw [upd_ne q]; exact s.fr a u e
  sep := fun c hc => by
    rcases List.mem_cons.mp hc with rfl | hc
    · exact s.fr.back h
    · exact s.sep c hc
  has := fun c hc => by
    rcases List.mem_cons.mp hc with rfl | hc
    · exact upd_same
    · have q : c.1 ≠ p := fun z => by have := s.has c hc; rw [z, h] at this; cases this
      rw [upd_ne q]; exact s.has c hc
  nd := by
    rw [List.map_cons, List.nodup_cons]
    refine ⟨fun hm => ?_, s.nd⟩
    obtain ⟨c, hc, e⟩ := List.mem_map.mp hm
    have := s.has c hc
    rw [e, h] at this; cases this
/-- the first changing thing is changed -/
theorem Sta.put {F : Hp} {cs : Cs} {H : Hp} {p : Addr} {o o' : HO} (s : Sta F ((p, o) :: cs) H) : Sta F ((p, o') :: cs) (upd H p o') where
  fr := fun a u e => by
    have q : a ≠ p := fun z => by have := s.sep (p, o) List.mem_cons_self; subst z; rw [e] at this; cases this
    rw [upd_ne q]; exact s.fr a u e
  sep := fun c hc => by
    rcases List.mem_cons.mp hc with rfl | hc
    · exact s.sep (p, o) List.mem_cons_self
    · exact s.sep c (List.mem_cons_of_mem _ hc)
  has := fun c hc => by
    rcases List.mem_cons.mp hc with rfl | hc
    · exact upd_same
    · have nd := s.nd
      rw [List.map_cons, List.nodup_cons] at nd
      have q : c.1 ≠ p := fun z => nd.1 (List.mem_map.mpr ⟨c, hc, z⟩)
      rw [upd_ne q]; exact s.has c (List.mem_cons_of_mem _ hc)
  nd := s.nd
/-- the order of the changing things is free -/
theorem Sta.perm {F : Hp} {cs cs' : Cs} {H : Hp} (s : Sta F cs H) (p : cs.Perm cs') : Sta F cs' H where
  fr := s.fr
  sep := fun c hc => s.sep c (p.mem_iff.mpr hc)
  has := fun c hc => s.has c (p.mem_iff.mpr hc)
  nd := (p.map (·.1)).nodup_iff.mp s.nd
theorem Sta.at {F : Hp} {cs : Cs} {H : Hp} {p : Addr} {o : HO} (s : Sta F cs H) (m : (p, o) ∈ cs) : H p = some o := s.has _ m
/-- the first changing thing changes no more -/
theorem Sta.froze {F : Hp} {cs : Cs} {H : Hp} {p : Addr} {o : HO} (s : Sta F ((p, o) :: cs) H) : Sta (upd F p o) cs H where
  fr := fun a u e => by
    by_cases q : a = p
    · subst q; rw [upd_same] at e; rw [← e]; exact s.has (a, o) List.mem_cons_self
    · rw [upd_ne q] at e; exact s.fr a u e
  sep := fun c hc => by
    have nd := s.nd
    rw [List.map_cons, List.nodup_cons] at nd
    have q : c.1 ≠ p := fun z => nd.1 (List.mem_map.mpr ⟨c, hc, z⟩)
    rw [upd_ne q]; exact s.sep c (List.mem_cons_of_mem _ hc)
  has := fun c hc => s.has c (List.mem_cons_of_mem _ hc)
  nd := by
    have nd := s.nd
    rw [List.map_cons, List.nodup_cons] at nd
    exact nd.2
theorem Sta.free {F : Hp} {cs : Cs} {H : Hp} {p : Addr} {o : HO} (s : Sta F ((p, o) :: cs) H) : F p = none := s.sep (p, o) List.mem_cons_self
theorem Sta.gfr {F : Hp} {cs : Cs} {H : Hp} {p : Addr} {o : HO} (s : Sta F ((p, o) :: cs) H) : Gr F (upd F p o) := Gr.new s.free


theorem mem_mid {α : Type} {l1 l2 : List α} {a : α} : a ∈ l1 ++ a :: l2 := by simp
/-- a changing thing is changed -/
theorem Sta.putAt {F : Hp} {l1 l2 : Cs} {H : Hp} {p : Addr} {o o' : HO} (s : Sta F (l1 ++ (p, o) :: l2) H) : Sta F (l1 ++ (p, o') :: l2) (upd H p o') :=
  ((s.perm List.perm_middle).put (o' := o')).perm List.perm_middle.symm
theorem Sta.frozeAt {F : Hp} {l1 l2 : Cs} {H : Hp} {p : Addr} {o : HO} (s : Sta F (l1 ++ (p, o) :: l2) H) : Sta (upd F p o) (l1 ++ l2) H := (s.perm List.perm_middle).froze
theorem Sta.freeAt {F : Hp} {l1 l2 : Cs} {H : Hp} {p : Addr} {o : HO} (s : Sta F (l1 ++ (p, o) :: l2) H) : F p = none := s.sep (p, o) mem_mid
theorem Sta.getAt {F : Hp} {l1 l2 : Cs} {H : Hp} {p : Addr} {o : HO} (s : Sta F (l1 ++ (p, o) :: l2) H) : H p = some o := s.has (p, o) mem_mid
theorem Gr.upd2 {F F' : Hp} {p : Addr} {o : HO} (g : Gr F F') : Gr (upd F p o) (upd F' p o) := fun a u e => by
  by_cases q : a = p
  · subst q; rw [upd_same] at e ⊢; exact e
  · rw [upd_ne q] at e ⊢; exact g a u e
def cut (F : Hp) (p : Addr) : Hp := fun a => if a = p then none else F a
theorem cut_same {F : Hp} {p : Addr} : cut F p p = none := by unfold cut; rw [if_pos rfl]
theorem cut_ne {F : Hp} {p a : Addr} (h : a ≠ p) : cut F p a = F a := by unfold cut; rw [if_neg h]
/-- what was lent comes back -/
theorem Sta.lent {F F2 : Hp} {l1 l2 : Cs} {H2 : Hp} {p : Addr} {o : HO} (g : Gr (upd F p o) F2) (s : Sta F2 (l1 ++ l2) H2) : Sta (cut F2 p) (l1 ++ (p, o) :: l2) H2 := by
  have hp : F2 p = some o := g p o upd_same
  have hn : ∀ c ∈ l1 ++ l2, c.1 ≠ p := fun c hc z => by
    have := s.sep c hc
    rw [z, hp] at this; cases this
  refine Sta.perm (cs := (p, o) :: (l1 ++ l2)) ⟨fun a u e => ?_, fun c hc => ?_, fun c hc => ?_, ?_⟩ List.perm_middle.symm
  · have q : a ≠ p := fun z => by rw [z, cut_same] at e; cases e
    rw [cut_ne q] at e; exact s.fr a u e
  · rcases List.mem_cons.mp hc with rfl | hc
    · exact cut_same
    · rw [cut_ne (hn c hc)]; exact s.sep c hc
  · rcases List.mem_cons.mp hc with rfl | hc
    · exact s.fr p o hp
    · exact s.has c hc
  · rw [List.map_cons, List.nodup_cons]
    refine ⟨fun hm => ?_, s.nd⟩
    obtain ⟨c, hc, e⟩ := List.mem_map.mp hm
    exact hn c hc e
theorem gr_cut {F F2 : Hp} {p : Addr} {o : HO} (h : F p = none) (g : Gr (upd F p o) F2) : Gr F (cut F2 p) := fun a u e => by
  have q : a ≠ p := ne_of_none e h
  rw [cut_ne q]
  exact g a u (by rw [upd_ne q]; exact e)

/-! data -/
mutual
inductive Dt (K : PySem.W.Frag) (F : Hp) : V → PyData → Prop
  | non : Dt K F .non .none
  | bl (b : Bool) : Dt K F (.bl b) (.bool b)
  | int (i : Int) : Dt K F (.int i) (.int i)
  | str (x : Str) : Dt K F (.str x) (.str x)
  | lst {a : Addr} {xs : List V} {ds : List PyData} : SqL K F a xs → Dts K F xs ds → Dt K F (.ref a) (.list ds)
  | tup {a : Addr} {xs : List V} {ds : List PyData} : SqT K F a xs → Dts K F xs ds → Dt K F (.ref a) (.tuple ds)
  | dct {a : Addr} {kvs : List (Key × V)} : F a = some (.dK kvs) → Dt K F (.ref a) (.dict [])
inductive Dts (K : PySem.W.Frag) (F : Hp) : List V → List PyData → Prop
  | nil : Dts K F [] []
  | cons {v : V} {vs : List V} {d : PyData} {ds : List PyData} : Dt K F v d → Dts K F vs ds → Dts K F (v :: vs) (d :: ds)
end
section
variable {K : PySem.W.Frag} {F F' H : Hp}
theorem gr_R {a : Addr} {u : HO} (e : Gr F F') (h : Rd F a u) : Rd F' a u := by
  rcases h with h | ⟨o, h⟩
  · exact .inl (e a _ h)
  · exact .inr ⟨o, e a _ h⟩
theorem gr_T {a : Addr} {xs : List V} (e : Gr F F') (h : SqT K F a xs) : SqT K F' a xs := by
  rcases h with h | h
  · exact .inl (gr_R e h)
  · exact .inr h
theorem gr_L {a : Addr} {xs : List V} (e : Gr F F') (h : SqL K F a xs) : SqL K F' a xs := by
  rcases h with h | h
  · exact .inl (gr_R e h)
  · exact .inr h
theorem rd_L {a : Addr} {xs : List V} (h : Rd F a (.lst xs)) : SqL K F a xs := .inl h
mutual
theorem Dt.gr (e : Gr F F') : ∀ {v : V} {d : PyData}, Dt K F v d → Dt K F' v d
  | _, _, .non => .non
  | _, _, .bl b => .bl b
  | _, _, .int i => .int i
  | _, _, .str x => .str x
  | _, _, .lst h a => .lst (gr_L e h) (Dts.gr e a)
  | _, _, .tup h a => .tup (gr_T e h) (Dts.gr e a)
  | _, _, .dct h => .dct (e _ _ h)
theorem Dts.gr (e : Gr F F') : ∀ {vs : List V} {ds : List PyData}, Dts K F vs ds → Dts K F' vs ds
  | _, _, .nil => .nil
  | _, _, .cons h t => .cons (Dt.gr e h) (Dts.gr e t)
end
theorem Dt.toInt {v : V} {i : Int} (h : Dt K F v (.int i)) : v = .int i := by cases h; rfl
theorem Dt.toStr {v : V} {x : Str} (h : Dt K F v (.str x)) : v = .str x := by cases h; rfl
theorem Dt.toBl {v : V} {b : Bool} (h : Dt K F v (.bool b)) : v = .bl b := by cases h; rfl
theorem Dt.toNon {v : V} (h : Dt K F v .none) : v = .non := by cases h; rfl
theorem Dt.toLst {v : V} {ds : List PyData} (h : Dt K F v (.list ds)) : ∃ a vs, v = .ref a ∧ SqL K F a vs ∧ Dts K F vs ds := by
  cases h with | lst h a => exact ⟨_, _, rfl, h, a⟩
theorem Dt.toTup {v : V} {ds : List PyData} (h : Dt K F v (.tuple ds)) : ∃ a vs, v = .ref a ∧ SqT K F a vs ∧ Dts K F vs ds := by
  cases h with | tup h a => exact ⟨_, _, rfl, h, a⟩
theorem Dts.len : ∀ {vs : List V} {ds : List PyData}, Dts K F vs ds → vs.length = ds.length
  | _, _, .nil => rfl
  | _, _, .cons _ t => by simp [Dts.len t]
theorem Dts.get : ∀ {vs : List V} {ds : List PyData} {i : Nat} {v : V}, Dts K F vs ds → vs[i]? = some v → ∃ d, ds[i]? = some d ∧ Dt K F v d
  | _, _, _, _, .nil, e => by simp at e
  | _, _, 0, _, .cons h _, e => by simp at e; subst e; exact ⟨_, rfl, h⟩
  | _, _, i + 1, v, .cons _ t, e => by
    obtain ⟨d, h1, h2⟩ := Dts.get (i := i) (v := v) t (by simpa using e)
    exact ⟨d, by simpa using h1, h2⟩
theorem Dts.get2 : ∀ {vs : List V} {ds : List PyData} {i : Nat} {d : PyData}, Dts K F vs ds → ds[i]? = some d → ∃ v, vs[i]? = some v ∧ Dt K F v d
  | _, _, _, _, .nil, e => by simp at e
  | _, _, 0, _, .cons h _, e => by simp at e; subst e; exact ⟨_, rfl, h⟩
  | _, _, i + 1, d, .cons _ t, e => by
    obtain ⟨v, h1, h2⟩ := Dts.get2 (i := i) (d := d) t (by simpa using e)
    exact ⟨v, by simpa using h1, h2⟩
theorem Dts.app : ∀ {vs ws : List V} {ds es : List PyData}, Dts K F vs ds → Dts K F ws es → Dts K F (vs ++ ws) (ds ++ es)
  | _, _, _, _, .nil, s => s
  | _, _, _, _, .cons h t, s => .cons h (Dts.app t s)
theorem Dts.drop : ∀ {vs : List V} {ds : List PyData} (n : Nat), Dts K F vs ds → Dts K F (vs.drop n) (ds.drop n)
  | _, _, 0, h => h
  | _, _, _ + 1, .nil => .nil
  | _, _, n + 1, .cons _ t => Dts.drop n t
theorem Dts.take : ∀ {vs : List V} {ds : List PyData} (n : Nat), Dts K F vs ds → Dts K F (vs.take n) (ds.take n)
  | _, _, 0, _ => .nil
  | _, _, _ + 1, .nil => .nil
  | _, _, n + 1, .cons h t => .cons h (Dts.take n t)
theorem Dts.setAt : ∀ {vs : List V} {ds : List PyData} {v : V} {d : PyData} (n : Nat), Dts K F vs ds → Dt K F v d → Dts K F (vs.set n v) (ds.set n d)
  | _, _, _, _, _, .nil, _ => .nil
  | _, _, _, _, 0, .cons _ t, k => .cons k t
  | _, _, _, _, n + 1, .cons h t, k => .cons h (Dts.setAt n t k)
theorem Dts.rep {vs : List V} {ds : List PyData} (h : Dts K F vs ds) : ∀ n : Nat, Dts K F (List.replicate n vs).flatten (List.replicate n ds).flatten
  | 0 => .nil
  | n + 1 => by rw [List.replicate_succ, List.replicate_succ, List.flatten_cons, List.flatten_cons]; exact h.app (Dts.rep h n)
theorem Dts.hd {vs : List V} {d : PyData} {ds : List PyData} (h : Dts K F vs (d :: ds)) : ∃ v ws, vs = v :: ws ∧ Dt K F v d ∧ Dts K F ws ds := by
  cases h with | cons h t => exact ⟨_, _, rfl, h, t⟩
theorem Dts.no {vs : List V} (h : Dts K F vs []) : vs = [] := by cases h; rfl
theorem Dts.one {vs : List V} {d : PyData} (h : Dts K F vs [d]) : ∃ v, vs = [v] ∧ Dt K F v d := by
  cases h with | cons h t => cases t; exact ⟨_, rfl, h⟩
theorem Dts.two {vs : List V} {d e : PyData} (h : Dts K F vs [d, e]) : ∃ v w, vs = [v, w] ∧ Dt K F v d ∧ Dt K F w e := by
  cases h with | cons h t => obtain ⟨w, rfl, k⟩ := t.one; exact ⟨_, _, rfl, h, k⟩
theorem Dts.three {vs : List V} {d e f : PyData} (h : Dts K F vs [d, e, f]) : ∃ v w z, vs = [v, w, z] ∧ Dt K F v d ∧ Dt K F w e ∧ Dt K F z f := by
  cases h with | cons h t => obtain ⟨w, z, rfl, k, l⟩ := t.two; exact ⟨_, _, _, rfl, h, k, l⟩
theorem Dts.four {vs : List V} {d e f g : PyData} (h : Dts K F vs [d, e, f, g]) : ∃ v w z y, vs = [v, w, z, y] ∧ Dt K F v d ∧ Dt K F w e ∧ Dt K F z f ∧ Dt K F y g := by
  cases h with | cons h t => obtain ⟨w, z, y, rfl, k, l, m⟩ := t.three; exact ⟨_, _, _, _, rfl, h, k, l, m⟩
theorem Dts.ints : ∀ {xs : List Int} {vs : List V}, Dts K F vs (xs.map .int) → vs = xs.map V.int
  | [], _, h => by cases h; rfl
  | x :: xs, _, h => by
    cases h with | cons h t => rw [h.toInt, Dts.ints t]; rfl
theorem Dts.bls : ∀ {xs : List Bool} {vs : List V}, Dts K F vs (xs.map .bool) → vs = xs.map V.bl
  | [], _, h => by cases h; rfl
  | x :: xs, _, h => by
    cases h with | cons h t => rw [h.toBl, Dts.bls t]; rfl
theorem Dts.strs : ∀ {xs : List Str} {vs : List V}, Dts K F vs (xs.map .str) → vs = xs.map V.str
  | [], _, h => by cases h; rfl
  | x :: xs, _, h => by
    cases h with | cons h t => rw [h.toStr, Dts.strs t]; rfl
theorem Dts.of_ints : ∀ xs : List Int, Dts K F (xs.map V.int) (xs.map .int)
  | [] => .nil
  | x :: xs => .cons (.int x) (Dts.of_ints xs)
theorem Dts.of_strs : ∀ xs : List Str, Dts K F (xs.map V.str) (xs.map .str)
  | [] => .nil
  | x :: xs => .cons (.str x) (Dts.of_strs xs)
theorem Dts.of_bls : ∀ xs : List Bool, Dts K F (xs.map V.bl) (xs.map .bool)
  | [] => .nil
  | x :: xs => .cons (.bl x) (Dts.of_bls xs)
mutual
theorem Dt.dp : ∀ {v : V} {d : PyData}, Dt K F v d → d.canLay0 = true → Dp K F v d
  | _, _, .non, _ => .non
  | _, _, .bl b, _ => .bl b
  | _, _, .int i, _ => .int i
  | _, _, .str x, _ => .str x
  | _, _, .lst h a, z => .lst h (Dts.dp a (by simpa [PyData.canLay0] using z))
  | _, _, .tup h a, z => .tup h (Dts.dp a (by simpa [PyData.canLay0] using z))
  | _, _, .dct h, z => by simp [PyData.canLay0] at z
theorem Dts.dp : ∀ {vs : List V} {ds : List PyData}, Dts K F vs ds → PyData.canLayAll0 ds = true → DpAll K F vs ds
  | _, _, .nil, _ => .nil
  | _, _, .cons h t, z => by
    rw [PyData.canLayAll0, Bool.and_eq_true] at z
    exact .cons (Dt.dp h z.1) (Dts.dp t z.2)
end
end
end Bw

namespace Bw
open PySem L2
/-! codes -/
abbrev eI : Int → PyData := PyData.int
abbrev eB : Bool → PyData := PyData.bool
abbrev eS : Str → PyData := PyData.str
abbrev eN : Unit → PyData := fun _ => PyData.none
abbrev eD : PyData → PyData := fun d => d
abbrev eL {α : Type} (e : α → PyData) (xs : List α) : PyData := .list (xs.map e)
abbrev eT1 {α : Type} (e : α → PyData) (x : α) : PyData := .tuple [e x]
abbrev eT2 {α β : Type} (e : α → PyData) (f : β → PyData) (x : α × β) : PyData := .tuple [e x.1, f x.2]
abbrev eT3 {α β γ : Type} (e : α → PyData) (f : β → PyData) (g : γ → PyData) (x : α × β × γ) : PyData := .tuple [e x.1, f x.2.1, g x.2.2]
abbrev eT4 {α β γ δ : Type} (e : α → PyData) (f : β → PyData) (g : γ → PyData) (h : δ → PyData) (x : α × β × γ × δ) : PyData := .tuple [e x.1, f x.2.1, g x.2.2.1, h x.2.2.2]
def eO {α : Type} (e : α → PyData) : Option α → PyData
  | none => .none
  | some x => e x
def oV {α : Type} (f : α → V) : Option α → V
  | none => .non
  | some x => f x
/-! what may fail -/
def mulM (a b : Int) : Option Int := if (-(2 ^ 64) < a ∧ a < 2 ^ 64) ∨ (-(2 ^ 64) < b ∧ b < 2 ^ 64) then some (a * b) else none
def modM (a b : Int) : Option Int := if 0 < b then some (a % b) else none
def fdivM (a b : Int) : Option Int := if 0 < b ∧ b < 1073741824 then some (a / b) else none
def powM (a b : Int) : Option Int := if 0 ≤ b ∧ b ≤ 1000000 ∧ a.natAbs < 2 ^ 64 then some (a ^ b.toNat) else none
def appM {α : Type} (xs : List α) (x : α) : Option (List α) := if xs.length < 100000 then some (xs ++ [x]) else none
def catM {α : Type} (xs ys : List α) : Option (List α) := if xs.length + ys.length ≤ 100000 then some (xs ++ ys) else none
def repM {α : Type} (xs : List α) (k : Int) : Option (List α) := if -(2 ^ 63) ≤ k ∧ k < 2 ^ 63 ∧ xs.length * k.toNat ≤ 100000 then some (List.replicate k.toNat xs).flatten else none
def scatM (x y : Str) : Option Str := if x.length + y.length ≤ 100000 then some (x ++ y) else none
def lenS (x : Str) : Option Int := if x.length ≤ 100000 then some (x.length : Int) else none
def ixS (x : Str) (i : Int) : Option Str := if x.length ≤ 100000 then (atI x.cps.toList i).map (fun c => ⟨#[c]⟩) else none
def cutL {α : Type} (xs : List α) (lo hi : Option Int) : List α := (xs.drop (HT.sIx xs.length 0 lo)).take (HT.sIx xs.length xs.length hi - HT.sIx xs.length 0 lo)
def rngL (a b : Int) : List Int := (List.range (b - a).toNat).map fun (i : Nat) => a + ((i : Nat) : Int)
def rngM (a b : Int) : Option (List Int) := if -(2 ^ 62) ≤ a ∧ a < 2 ^ 62 ∧ -(2 ^ 62) ≤ b ∧ b < 2 ^ 62 then some (rngL a b) else none
def setM {α : Type} (xs : List α) (i : Int) (x : α) : Option (List α) := (ixN xs.length i).map fun j => xs.set j x
def strM (n : Int) : Option Str := if n.natAbs.log2 < 1920 then some (toString n) else none
def b2I (b : Bool) : Int := if b then 1 else 0
def absI (i : Int) : Int := if i < 0 then -i else i
def maxI (i j : Int) : Int := if j > i then j else i
def minI (i j : Int) : Int := if j < i then j else i
def signs (x : Str) : List Str := x.cps.toList.map fun c => ⟨#[c]⟩
def enumM {α : Type} (xs : List α) : List (Int × α) := xs.mapIdx fun i x => ((i : Int), x)
def inS (x y : Str) : Bool := !(Builtin.Str.occurrences y x 0 y.length 1).isEmpty
def letM {α β : Type} (x : α) (f : α → β) : β := f x
theorem sz {n : Nat} (h : n ≤ 100000) : n ≤ sizeLine := Nat.le_trans h (by decide)
theorem szl {n : Nat} (h : n < 100000) : n < sizeLine := Nat.lt_of_lt_of_le h (by decide)
theorem mulM_some {a b c : Int} (h : mulM a b = some c) : CMul a b ∧ a * b = c := by
  unfold mulM at h; split at h
  · rename_i q; exact ⟨q, Option.some.inj h⟩
  · cases h
theorem modM_some {a b c : Int} (h : modM a b = some c) : 0 < b ∧ a % b = c := by
  unfold modM at h; split at h
  · rename_i q; exact ⟨q, Option.some.inj h⟩
  · cases h
theorem fdivM_some {a b c : Int} (h : fdivM a b = some c) : CDiv a b ∧ a / b = c := by
  unfold fdivM at h; split at h
  · rename_i q; exact ⟨q, Option.some.inj h⟩
  · cases h
theorem powM_some {a b c : Int} (h : powM a b = some c) : CPow a b ∧ a ^ b.toNat = c := by
  unfold powM at h; split at h
  · rename_i q; exact ⟨q, Option.some.inj h⟩
  · cases h
theorem appM_some {α : Type} {xs ys : List α} {x : α} (h : appM xs x = some ys) : xs.length < 100000 ∧ xs ++ [x] = ys := by
  unfold appM at h; split at h
  · rename_i q; exact ⟨q, Option.some.inj h⟩
  · cases h
theorem catM_some {α : Type} {xs ys zs : List α} (h : catM xs ys = some zs) : xs.length + ys.length ≤ 100000 ∧ xs ++ ys = zs := by
  unfold catM at h; split at h
  · rename_i q; exact ⟨q, Option.some.inj h⟩
  · cases h
theorem repM_some {α : Type} {xs zs : List α} {k : Int} (h : repM xs k = some zs) : (-(2 ^ 63) ≤ k ∧ k < 2 ^ 63 ∧ xs.length * k.toNat ≤ 100000) ∧ (List.replicate k.toNat xs).flatten = zs := by
  unfold repM at h; split at h
  · rename_i q; exact ⟨q, Option.some.inj h⟩
  · cases h
theorem scatM_some {x y z : Str} (h : scatM x y = some z) : x.length + y.length ≤ 100000 ∧ x ++ y = z := by
  unfold scatM at h; split at h
  · rename_i q; exact ⟨q, Option.some.inj h⟩
  · cases h
theorem lenS_some {x : Str} {n : Int} (h : lenS x = some n) : x.length ≤ 100000 ∧ (x.length : Int) = n := by
  unfold lenS at h; split at h
  · rename_i q; exact ⟨q, Option.some.inj h⟩
  · cases h
theorem strM_some {x : Int} {n : Str} (h : strM x = some n) : x.natAbs.log2 < 1920 ∧ toString x = n := by
  unfold strM at h; split at h
  · rename_i q; exact ⟨q, Option.some.inj h⟩
  · cases h
theorem ixS_some {x z : Str} {i : Int} (h : ixS x i = some z) : x.length ≤ 100000 ∧ ∃ c, atI x.cps.toList i = some c ∧ z = ⟨#[c]⟩ := by
  unfold ixS at h; split at h
  · rename_i q
    refine ⟨q, ?_⟩
    cases e : atI x.cps.toList i with
    | none => rw [e] at h; cases h
    | some c => rw [e] at h; exact ⟨c, rfl, (Option.some.inj h).symm⟩
  · cases h
theorem rngM_some {a b : Int} {xs : List Int} (h : rngM a b = some xs) : (-(2 ^ 62) ≤ a ∧ a < 2 ^ 62 ∧ -(2 ^ 62) ≤ b ∧ b < 2 ^ 62) ∧ rngL a b = xs := by
  unfold rngM at h; split at h
  · rename_i q; exact ⟨q, Option.some.inj h⟩
  · cases h
theorem setM_some {α : Type} {xs ys : List α} {i : Int} {x : α} (h : setM xs i x = some ys) : ∃ j, ixN xs.length i = some j ∧ ys = xs.set j x := by
  unfold setM at h
  cases e : ixN xs.length i with
  | none => rw [e] at h; cases h
  | some j => rw [e] at h; exact ⟨j, rfl, (Option.some.inj h).symm⟩
theorem atI_map {α β : Type} (f : α → β) (xs : List α) (i : Int) : atI (xs.map f) i = (atI xs i).map f := by
  unfold atI
  rw [List.length_map]
  cases ixN xs.length i with
  | none => rfl
  | some j => simp
theorem cutL_map {α β : Type} (f : α → β) (xs : List α) (lo hi : Option Int) : cutL (xs.map f) lo hi = (cutL xs lo hi).map f := by
  unfold cutL
  simp [List.map_take, List.map_drop]
theorem bnd {α β : Type} {a : Option α} {f : α → Option β} {r : β} (h : a.bind f = some r) : ∃ x, a = some x ∧ f x = some r := by
  cases a with
  | none => cases h
  | some x => exact ⟨x, rfl, h⟩
theorem lt {α β : Type} {a : α} {f : α → Option β} {r : β} (h : letM a f = some r) : ∃ x, a = x ∧ f x = some r := ⟨a, rfl, h⟩
theorem sm {α : Type} {x y : α} (h : some x = some y) : x = y := Option.some.inj h

/-! triples -/
def Ev (te : TE) (σ : St) (F : Hp) (cs : Cs) (Φ : V → Hp → Prop) (cs' : Cs) : Prop :=
  ∀ F1 H1, Gr F F1 → Sta F1 cs H1 → ∀ Q : VK, (∀ v F2 H2, Gr F1 F2 → Sta F2 cs' H2 → Φ v F2 → Q v H2) → te σ H1 Q
def EvT (tt : TT) (σ : St) (F : Hp) (cs : Cs) (b : Bool) (cs' : Cs) : Prop :=
  ∀ F1 H1, Gr F F1 → Sta F1 cs H1 → ∀ Q : Bool → Hp → Prop, (∀ F2 H2, Gr F1 F2 → Sta F2 cs' H2 → Q b H2) → tt σ H1 Q
def EvA (ta : TA) (σ : St) (F : Hp) (cs : Cs) (Φ : List V → Hp → Prop) (cs' : Cs) : Prop :=
  ∀ F1 H1, Gr F F1 → Sta F1 cs H1 → ∀ Q : List V → Hp → Prop, (∀ vs F2 H2, Gr F1 F2 → Sta F2 cs' H2 → Φ vs F2 → Q vs H2) → ta σ H1 Q
def EvO (to : TO) (σ : St) (F : Hp) (cs : Cs) (o : Option Int) (cs' : Cs) : Prop :=
  ∀ F1 H1, Gr F F1 → Sta F1 cs H1 → ∀ Q : Option Int → Hp → Prop, (∀ F2 H2, Gr F1 F2 → Sta F2 cs' H2 → Q o H2) → to σ H1 Q
abbrev EvD (K : PySem.W.Frag) (te : TE) (σ : St) (F : Hp) (cs : Cs) (d : PyData) (cs' : Cs) : Prop := Ev te σ F cs (fun v F' => Dt K F' v d) cs'
abbrev EvDs (K : PySem.W.Frag) (ta : TA) (σ : St) (F : Hp) (cs : Cs) (ds : List PyData) (cs' : Cs) : Prop := EvA ta σ F cs (fun vs F' => Dts K F' vs ds) cs'
def Src (K : PySem.W.Frag) (J : It) (F : Hp) (ds : List PyData) : Prop := ∀ F1 c1 H1, Gr F F1 → Sta F1 c1 H1 →
  (∀ i, i < ds.length → J.go i H1) ∧ J.stop ds.length H1 ∧ ∀ i v H2 d, ds[i]? = some d → J.yld i H1 v H2 → ∃ F2, Gr F1 F2 ∧ Sta F2 c1 H2 ∧ Dt K F2 v d
def EvI (K : PySem.W.Frag) (wi : TI) (σ : St) (F : Hp) (cs : Cs) (ds : List PyData) (cs' : Cs) : Prop :=
  ∀ F1 H1, Gr F F1 → Sta F1 cs H1 → ∀ R : It → Hp → Prop, (∀ J F2 H2, Gr F1 F2 → Sta F2 cs' H2 → Src K J F2 ds → R J H2) → wi σ H1 R
section
variable {K : PySem.W.Frag} {σ : St} {F F' : Hp} {cs cs1 cs2 cs3 : Cs} {ta tb tc te : TE} {d e : PyData} {as : TA}
theorem Ev.gr {Φ : V → Hp → Prop} (g : Gr F F') (h : Ev te σ F cs Φ cs1) : Ev te σ F' cs Φ cs1 := fun F1 H1 g1 s Q q => h F1 H1 (g.tr g1) s Q q
theorem d_is (h : EvD K te σ F cs d cs1) (q : d = e) : EvD K te σ F cs e cs1 := q ▸ h
theorem d_var {i : Nat} {v : V} (h : σ[i]? = some (some v)) (hd : Dt K F v d) : EvD K (tVar i) σ F cs d cs := fun F1 H1 g s Q q => ⟨v, h, q v F1 H1 .rfl s (Dt.gr g hd)⟩
theorem d_int {i : Int} : EvD K (tC (.int i)) σ F cs (.int i) cs := fun F1 H1 g s Q q => q _ F1 H1 .rfl s (.int i)
theorem d_bl {b : Bool} : EvD K (tC (.bl b)) σ F cs (.bool b) cs := fun F1 H1 g s Q q => q _ F1 H1 .rfl s (.bl b)
theorem d_str {x : Str} : EvD K (tC (.str x)) σ F cs (.str x) cs := fun F1 H1 g s Q q => q _ F1 H1 .rfl s (.str x)
theorem d_non : EvD K (tC .non) σ F cs .none cs := fun F1 H1 g s Q q => q _ F1 H1 .rfl s .non
/-- two operands -/
theorem d_op {r : R2} {z : PyData} (ha : EvD K ta σ F cs d cs1) (hb : EvD K tb σ F cs1 e cs2) (hr : ∀ x y F2 H2, Dt K F2 x d → Dt K F2 y e → Sta F2 cs2 H2 → Gr F F2 → ∀ Q : VK, (∀ v F3 H3, Gr F2 F3 → Sta F3 cs3 H3 → Dt K F3 v z → Q v H3) → r x y H2 Q) : EvD K (tOp r ta tb) σ F cs z cs3 := fun F1 H1 g1 s Q q =>
  ha F1 H1 g1 s _ fun v F2 H2 g2 s2 h2 => hb F2 H2 (g1.tr g2) s2 _ fun w F3 H3 g3 s3 h3 => hr v w F3 H3 (Dt.gr g3 h2) h3 s3 ((g1.tr g2).tr g3) Q fun v F4 H4 g4 s4 h4 => q v F4 H4 ((g2.tr g3).tr g4) s4 h4
theorem d_I0 {g : Int → Int → V} {a b : Int} {z : PyData} (ha : EvD K ta σ F cs (.int a) cs1) (hb : EvD K tb σ F cs1 (.int b) cs2) (hz : ∀ F, Dt K F (g a b) z) : EvD K (tOp (rI0 g) ta tb) σ F cs z cs2 :=
  d_op ha hb fun x y F2 H2 hx hy s _ Q q => by
    cases hx.toInt; cases hy.toInt
    exact ⟨a, b, rfl, rfl, q _ F2 H2 .rfl s (hz _)⟩
theorem d_I {C : Int → Int → Prop} {g : Int → Int → V} {a b : Int} {z : PyData} (ha : EvD K ta σ F cs (.int a) cs1) (hb : EvD K tb σ F cs1 (.int b) cs2) (hc : C a b) (hz : ∀ F, Dt K F (g a b) z) : EvD K (tOp (rI C g) ta tb) σ F cs z cs2 :=
  d_op ha hb fun x y F2 H2 hx hy s _ Q q => by
    cases hx.toInt; cases hy.toInt
    exact ⟨a, b, rfl, rfl, hc, q _ F2 H2 .rfl s (hz _)⟩
variable {a b c : Int}
theorem d_add (ha : EvD K ta σ F cs (.int a) cs1) (hb : EvD K tb σ F cs1 (.int b) cs2) : EvD K (tOp (rI0 fun i j => .int (i + j)) ta tb) σ F cs (.int (a + b)) cs2 := d_I0 ha hb fun _ => .int _
theorem d_sub (ha : EvD K ta σ F cs (.int a) cs1) (hb : EvD K tb σ F cs1 (.int b) cs2) : EvD K (tOp (rI0 fun i j => .int (i - j)) ta tb) σ F cs (.int (a - b)) cs2 := d_I0 ha hb fun _ => .int _
theorem d_lt (ha : EvD K ta σ F cs (.int a) cs1) (hb : EvD K tb σ F cs1 (.int b) cs2) : EvD K (tOp (rI0 fun i j => .bl (decide (i < j))) ta tb) σ F cs (.bool (decide (a < b))) cs2 := d_I0 ha hb fun _ => .bl _
theorem d_le (ha : EvD K ta σ F cs (.int a) cs1) (hb : EvD K tb σ F cs1 (.int b) cs2) : EvD K (tOp (rI0 fun i j => .bl (decide (i ≤ j))) ta tb) σ F cs (.bool (decide (a ≤ b))) cs2 := d_I0 ha hb fun _ => .bl _
theorem d_gt (ha : EvD K ta σ F cs (.int a) cs1) (hb : EvD K tb σ F cs1 (.int b) cs2) : EvD K (tOp (rI0 fun i j => .bl (decide (j < i))) ta tb) σ F cs (.bool (decide (b < a))) cs2 := d_I0 ha hb fun _ => .bl _
theorem d_ge (ha : EvD K ta σ F cs (.int a) cs1) (hb : EvD K tb σ F cs1 (.int b) cs2) : EvD K (tOp (rI0 fun i j => .bl (decide (j ≤ i))) ta tb) σ F cs (.bool (decide (b ≤ a))) cs2 := d_I0 ha hb fun _ => .bl _
theorem d_mul (ha : EvD K ta σ F cs (.int a) cs1) (hb : EvD K tb σ F cs1 (.int b) cs2) (hc : mulM a b = some c) : EvD K (tOp (rI CMul fun i j => .int (i * j)) ta tb) σ F cs (.int c) cs2 := (mulM_some hc).2 ▸ d_I ha hb (mulM_some hc).1 fun _ => .int _
theorem d_mod (ha : EvD K ta σ F cs (.int a) cs1) (hb : EvD K tb σ F cs1 (.int b) cs2) (hc : modM a b = some c) : EvD K (tOp (rI (fun _ j => 0 < j) fun i j => .int (i % j)) ta tb) σ F cs (.int c) cs2 := (modM_some hc).2 ▸ d_I (C := fun _ j => 0 < j) ha hb (modM_some hc).1 fun _ => .int _
theorem d_fdiv (ha : EvD K ta σ F cs (.int a) cs1) (hb : EvD K tb σ F cs1 (.int b) cs2) (hc : fdivM a b = some c) : EvD K (tOp (rI CDiv fun i j => .int (i / j)) ta tb) σ F cs (.int c) cs2 := (fdivM_some hc).2 ▸ d_I ha hb (fdivM_some hc).1 fun _ => .int _
theorem d_pow (ha : EvD K ta σ F cs (.int a) cs1) (hb : EvD K tb σ F cs1 (.int b) cs2) (hc : powM a b = some c) : EvD K (tOp (rI CPow fun i j => .int (i ^ j.toNat)) ta tb) σ F cs (.int c) cs2 := (powM_some hc).2 ▸ d_I ha hb (powM_some hc).1 fun _ => .int _
theorem d_neg (ha : EvD K ta σ F cs (.int a) cs1) : EvD K (tUn (rU fun i => .int (-i)) ta) σ F cs (.int (-a)) cs1 := fun F1 H1 g1 s Q q =>
  ha F1 H1 g1 s _ fun v F2 H2 g2 s2 h2 => ⟨a, h2.toInt, q _ F2 H2 g2 s2 (.int _)⟩
/-- arguments -/
theorem a_nil : EvDs K tNil σ F cs [] cs := fun F1 H1 g s Q q => q [] F1 H1 .rfl s .nil
theorem a_cons {tr : TA} {ds : List PyData} (h : EvD K ta σ F cs d cs1) (hr : EvDs K tr σ F cs1 ds cs2) : EvDs K (tCons ta tr) σ F cs (d :: ds) cs2 := fun F1 H1 g1 s Q q =>
  h F1 H1 g1 s _ fun v F2 H2 g2 s2 h2 => hr F2 H2 (g1.tr g2) s2 _ fun vs F3 H3 g3 s3 h3 => q (v :: vs) F3 H3 (g2.tr g3) s3 (.cons (Dt.gr g3 h2) h3)
/-- a built-in's call -/
theorem d_cb {r : List V → Hp → VK → Prop} {ds : List PyData} {z : PyData} (ha : EvDs K as σ F cs ds cs1) (hr : ∀ vs F2 H2, Dts K F2 vs ds → Sta F2 cs1 H2 → ∀ Q : VK, (∀ v F3 H3, Gr F2 F3 → Sta F3 cs1 H3 → Dt K F3 v z → Q v H3) → r vs H2 Q) : EvD K (tCB r as) σ F cs z cs1 := fun F1 H1 g1 s Q q =>
  ha F1 H1 g1 s _ fun vs F2 H2 g2 s2 h2 => hr vs F2 H2 h2 s2 Q fun v F3 H3 g3 s3 h3 => q v F3 H3 (g2.tr g3) s3 h3
theorem d_abs (ha : EvDs K as σ F cs [.int a] cs1) : EvD K (tCB (fun xs H Q => ∃ i, xs = [.int i] ∧ Q (.int (if i < 0 then -i else i)) H) as) σ F cs (.int (absI a)) cs1 := d_cb ha fun vs F2 H2 h s Q q => by
  obtain ⟨v, rfl, k1⟩ := h.one; cases k1.toInt
  exact ⟨a, rfl, q _ F2 H2 .rfl s (.int _)⟩
theorem d_max2 (ha : EvDs K as σ F cs [.int a, .int b] cs1) : EvD K (tCB (fun xs H Q => ∃ i j, xs = [.int i, .int j] ∧ Q (.int (if j > i then j else i)) H) as) σ F cs (.int (maxI a b)) cs1 := d_cb ha fun vs F2 H2 h s Q q => by
  obtain ⟨v, w, rfl, k1, k2⟩ := h.two; cases k1.toInt; cases k2.toInt
  exact ⟨a, b, rfl, q _ F2 H2 .rfl s (.int _)⟩
theorem d_min2 (ha : EvDs K as σ F cs [.int a, .int b] cs1) : EvD K (tCB (fun xs H Q => ∃ i j, xs = [.int i, .int j] ∧ Q (.int (if j < i then j else i)) H) as) σ F cs (.int (minI a b)) cs1 := d_cb ha fun vs F2 H2 h s Q q => by
  obtain ⟨v, w, rfl, k1, k2⟩ := h.two; cases k1.toInt; cases k2.toInt
  exact ⟨a, b, rfl, q _ F2 H2 .rfl s (.int _)⟩
theorem d_lenL {ds : List PyData} (ha : EvDs K as σ F cs [.list ds] cs1) : EvD K (tCB (fun xs H Q => ∃ p ys, xs = [.ref p] ∧ (SqL K H p ys ∨ SqT K H p ys) ∧ Q (.int ys.length) H) as) σ F cs (.int ds.length) cs1 := d_cb ha fun vs F2 H2 h s Q q => by
  obtain ⟨v, rfl, k1⟩ := h.one
  obtain ⟨p, ys, rfl, hl, hd⟩ := k1.toLst
  exact ⟨p, ys, rfl, .inl (gr_L s.fr hl), q _ F2 H2 .rfl s (by rw [hd.len]; exact .int _)⟩
theorem d_len {α : Type} {e : α → PyData} {xs : List α} (ha : EvDs K as σ F cs [eL e xs] cs1) : EvD K (tCB (fun xs H Q => ∃ p ys, xs = [.ref p] ∧ (SqL K H p ys ∨ SqT K H p ys) ∧ Q (.int ys.length) H) as) σ F cs (.int xs.length) cs1 := by
  have := d_lenL ha
  rw [List.length_map] at this
  exact this
theorem d_lenT {ds : List PyData} (ha : EvDs K as σ F cs [.tuple ds] cs1) : EvD K (tCB (fun xs H Q => ∃ p ys, xs = [.ref p] ∧ (SqL K H p ys ∨ SqT K H p ys) ∧ Q (.int ys.length) H) as) σ F cs (.int ds.length) cs1 := d_cb ha fun vs F2 H2 h s Q q => by
  obtain ⟨v, rfl, k1⟩ := h.one
  obtain ⟨p, ys, rfl, hl, hd⟩ := k1.toTup
  exact ⟨p, ys, rfl, .inr (gr_T s.fr hl), q _ F2 H2 .rfl s (by rw [hd.len]; exact .int _)⟩
theorem d_lenS {x : Str} {n : Int} (ha : EvDs K as σ F cs [.str x] cs1) (hn : lenS x = some n) : EvD K (tCB (fun xs H Q => ∃ z, xs = [.str z] ∧ z.length ≤ sizeLine ∧ Q (.int z.length) H) as) σ F cs (.int n) cs1 := d_cb ha fun vs F2 H2 h s Q q => by
  obtain ⟨v, rfl, k1⟩ := h.one; cases k1.toStr
  obtain ⟨h1, rfl⟩ := lenS_some hn
  exact ⟨x, rfl, sz h1, q _ F2 H2 .rfl s (.int _)⟩
theorem d_intB {b : Bool} (ha : EvDs K as σ F cs [.bool b] cs1) : EvD K (tCB (fun xs H Q => (∃ i, xs = [.int i] ∧ Q (.int i) H) ∨ ∃ k, xs = [.bl k] ∧ Q (.int (if k then 1 else 0)) H) as) σ F cs (.int (b2I b)) cs1 := d_cb ha fun vs F2 H2 h s Q q => by
  obtain ⟨v, rfl, k1⟩ := h.one; cases k1.toBl
  exact .inr ⟨b, rfl, q _ F2 H2 .rfl s (.int _)⟩
theorem d_strI {x : Str} (ha : EvDs K as σ F cs [.int a] cs1) (hn : strM a = some x) : EvD K (tCB (fun xs H Q => ∃ i, xs = [.int i] ∧ i.natAbs.log2 < 1920 ∧ Q (.str (toString i)) H) as) σ F cs (.str x) cs1 := d_cb ha fun vs F2 H2 h s Q q => by
  obtain ⟨v, rfl, k1⟩ := h.one; cases k1.toInt
  obtain ⟨h1, rfl⟩ := strM_some hn
  exact ⟨a, rfl, h1, q _ F2 H2 .rfl s (.str _)⟩
theorem d_sum {xs : List Int} (ha : EvDs K as σ F cs [eL eI xs] cs1) : EvD K (tCB (rSum K) as) σ F cs (.int xs.sum) cs1 := d_cb ha fun vs F2 H2 h s Q q => by
  obtain ⟨v, rfl, k1⟩ := h.one
  obtain ⟨p, ys, rfl, hl, hd⟩ := k1.toLst
  cases hd.ints
  exact ⟨p, xs, rfl, gr_L s.fr hl, q _ F2 H2 .rfl s (.int _)⟩
theorem d_all {xs : List Bool} (ha : EvDs K as σ F cs [eL eB xs] cs1) : EvD K (tCB (rAll K) as) σ F cs (.bool (xs.all id)) cs1 := d_cb ha fun vs F2 H2 h s Q q => by
  obtain ⟨v, rfl, k1⟩ := h.one
  obtain ⟨p, ys, rfl, hl, hd⟩ := k1.toLst
  cases hd.bls
  exact ⟨p, xs, rfl, gr_L s.fr hl, q _ F2 H2 .rfl s (.bl _)⟩
theorem d_any {xs : List Bool} (ha : EvDs K as σ F cs [eL eB xs] cs1) : EvD K (tCB (rAny K) as) σ F cs (.bool (xs.any id)) cs1 := d_cb ha fun vs F2 H2 h s Q q => by
  obtain ⟨v, rfl, k1⟩ := h.one
  obtain ⟨p, ys, rfl, hl, hd⟩ := k1.toLst
  cases hd.bls
  exact ⟨p, xs, rfl, gr_L s.fr hl, q _ F2 H2 .rfl s (.bl _)⟩
theorem d_listL {ds : List PyData} (ha : EvDs K as σ F cs [.list ds] cs1) : EvD K (tCB (fun xs H Q => ∃ p ys, xs = [.ref p] ∧ (SqL K H p ys ∨ SqT K H p ys) ∧ ∀ l, H l = none → Q (.ref l) (upd H l (.lst ys))) as) σ F cs (.list ds) cs1 := d_cb ha fun vs F2 H2 h s Q q => by
  obtain ⟨v, rfl, k1⟩ := h.one
  obtain ⟨p, ys, rfl, hl, hd⟩ := k1.toLst
  exact ⟨p, ys, rfl, .inl (gr_L s.fr hl), fun l nl => q _ _ _ (Gr.new (s.fr.back nl)) (s.lay nl) (.lst (.inl (.inl upd_same)) (hd.gr (Gr.new (s.fr.back nl))))⟩
/-- a new list, a new tuple -/
theorem d_lst {ds : List PyData} (h : EvDs K as σ F cs ds cs1) (hl : ds.length ≤ 100000) : EvD K (tLst as) σ F cs (.list ds) cs1 := fun F1 H1 g1 s Q q =>
  h F1 H1 g1 s _ fun vs F2 H2 g2 s2 h2 => ⟨h2.len.symm ▸ sz hl, fun p hp => q _ _ _ (g2.tr (Gr.new (s2.fr.back hp))) (s2.lay hp) (.lst (.inl (.inl upd_same)) (h2.gr (Gr.new (s2.fr.back hp))))⟩
theorem d_tup {ds : List PyData} (h : EvDs K as σ F cs ds cs1) (hl : ds.length ≤ 100000) : EvD K (tTup as) σ F cs (.tuple ds) cs1 := fun F1 H1 g1 s Q q =>
  h F1 H1 g1 s _ fun vs F2 H2 g2 s2 h2 => ⟨h2.len.symm ▸ sz hl, fun p hp => q _ _ _ (g2.tr (Gr.new (s2.fr.back hp))) (s2.lay hp) (.tup (.inl (.inl upd_same)) (h2.gr (Gr.new (s2.fr.back hp))))⟩
/-- items -/
theorem d_ixLs {ds : List PyData} {z : PyData} (ha : EvD K ta σ F cs (.list ds) cs1) (hb : EvD K tb σ F cs1 (.int b) cs2) (hz : atI ds b = some z) : EvD K (tOp (rIxL K) ta tb) σ F cs z cs2 :=
  d_op ha hb fun x y F2 H2 hx hy s _ Q q => by
    obtain ⟨p, vs, rfl, hl, hd⟩ := hx.toLst; cases hy.toInt
    unfold atI at hz
    rw [← hd.len] at hz
    cases e : ixN vs.length b with
    | none => rw [e] at hz; cases hz
    | some j =>
      rw [e] at hz
      obtain ⟨v, h1, h2⟩ := hd.get2 (show ds[j]? = some z from hz)
      exact ⟨p, vs, b, v, rfl, rfl, gr_L s.fr hl, by unfold atI; rw [e]; exact h1, q v F2 H2 .rfl s h2⟩
theorem d_ix {α : Type} {e : α → PyData} {xs : List α} {x : α} (ha : EvD K ta σ F cs (eL e xs) cs1) (hb : EvD K tb σ F cs1 (.int b) cs2) (hz : atI xs b = some x) : EvD K (tOp (rIxL K) ta tb) σ F cs (e x) cs2 :=
  d_ixLs ha hb (by rw [atI_map, hz]; rfl)
theorem d_ixT {ds : List PyData} {z : PyData} (ha : EvD K ta σ F cs (.tuple ds) cs1) (hb : EvD K tb σ F cs1 (.int b) cs2) (hz : atI ds b = some z) : EvD K (tOp (rIxT K) ta tb) σ F cs z cs2 :=
  d_op ha hb fun x y F2 H2 hx hy s _ Q q => by
    obtain ⟨p, vs, rfl, hl, hd⟩ := hx.toTup; cases hy.toInt
    unfold atI at hz
    rw [← hd.len] at hz
    cases e : ixN vs.length b with
    | none => rw [e] at hz; cases hz
    | some j =>
      rw [e] at hz
      obtain ⟨v, h1, h2⟩ := hd.get2 (show ds[j]? = some z from hz)
      exact ⟨p, vs, b, v, rfl, rfl, gr_T s.fr hl, by unfold atI; rw [e]; exact h1, q v F2 H2 .rfl s h2⟩
theorem d_ixS {x z : Str} (ha : EvD K ta σ F cs (.str x) cs1) (hb : EvD K tb σ F cs1 (.int b) cs2) (hz : ixS x b = some z) : EvD K (tOp rIxS ta tb) σ F cs (.str z) cs2 :=
  d_op ha hb fun v y F2 H2 hx hy s _ Q q => by
    cases hx.toStr; cases hy.toInt
    obtain ⟨h1, c, h2, rfl⟩ := ixS_some hz
    exact ⟨x, b, c, rfl, rfl, sz h1, h2, q _ F2 H2 .rfl s (.str _)⟩
/-- slices -/
theorem o_none : EvO tNoPart σ F cs none cs := fun F1 H1 g s Q q => q F1 H1 .rfl s
theorem o_some (h : EvD K te σ F cs (.int a) cs1) : EvO (tPart te) σ F cs (some a) cs1 := fun F1 H1 g1 s Q q => h F1 H1 g1 s _ fun v F2 H2 g2 s2 h2 => ⟨a, h2.toInt, q F2 H2 g2 s2⟩
theorem d_sl {α : Type} {e : α → PyData} {xs : List α} {tl th : TO} {lo hi : Option Int} (h : EvD K te σ F cs (eL e xs) cs1) (h1 : EvO tl σ F cs1 lo cs2) (h2 : EvO th σ F cs2 hi cs3) : EvD K (tSl (rSlL K) te tl th) σ F cs (eL e (cutL xs lo hi)) cs3 := fun F1 H1 g1 s Q q =>
  h F1 H1 g1 s _ fun v F2 H2 g2 s2 hv => h1 F2 H2 (g1.tr g2) s2 _ fun F3 H3 g3 s3 => h2 F3 H3 ((g1.tr g2).tr g3) s3 _ fun F4 H4 g4 s4 => by
    obtain ⟨p, vs, rfl, hl, hd⟩ := hv.toLst
    have hd' := hd.gr (g3.tr g4)
    refine ⟨p, vs, rfl, gr_L s4.fr (gr_L (g3.tr g4) hl), fun l nl => q _ _ _ ((g2.tr (g3.tr g4)).tr (Gr.new (s4.fr.back nl))) (s4.lay nl) (.lst (.inl (.inl upd_same)) ?_)⟩
    rw [← cutL_map]
    unfold cutV cutL
    rw [hd.len]
    exact ((hd'.gr (Gr.new (s4.fr.back nl))).drop _).take _
/-- == of flat things -/
theorem dec_V {α : Type} [DecidableEq α] {f : α → V} (hf : ∀ x y, f x = f y → x = y) (x y : α) : decide (f x = f y) = decide (x = y) := by
  by_cases h : x = y
  · subst h; simp
  · rw [decide_eq_false h, decide_eq_false (fun q => h (hf x y q))]
theorem d_eqI (ha : EvD K ta σ F cs (.int a) cs1) (hb : EvD K tb σ F cs1 (.int b) cs2) : EvD K (tOp rEq ta tb) σ F cs (.bool (decide (a = b))) cs2 :=
  d_op ha hb fun x y F2 H2 hx hy s _ Q q => by
    cases hx.toInt; cases hy.toInt
    exact ⟨rfl, q _ F2 H2 .rfl s (by rw [dec_V (f := V.int) (fun _ _ h => V.int.inj h)]; exact .bl _)⟩
theorem d_neI (ha : EvD K ta σ F cs (.int a) cs1) (hb : EvD K tb σ F cs1 (.int b) cs2) : EvD K (tOp rNe ta tb) σ F cs (.bool (!decide (a = b))) cs2 :=
  d_op ha hb fun x y F2 H2 hx hy s _ Q q => by
    cases hx.toInt; cases hy.toInt
    exact ⟨rfl, q _ F2 H2 .rfl s (by rw [dec_V (f := V.int) (fun _ _ h => V.int.inj h)]; exact .bl _)⟩
theorem d_eqS {x y : Str} (ha : EvD K ta σ F cs (.str x) cs1) (hb : EvD K tb σ F cs1 (.str y) cs2) : EvD K (tOp rEq ta tb) σ F cs (.bool (decide (x = y))) cs2 :=
  d_op ha hb fun _ _ F2 H2 hx hy s _ Q q => by
    cases hx.toStr; cases hy.toStr
    exact ⟨rfl, q _ F2 H2 .rfl s (by rw [dec_V (f := V.str) (fun _ _ h => V.str.inj h)]; exact .bl _)⟩
theorem d_neS {x y : Str} (ha : EvD K ta σ F cs (.str x) cs1) (hb : EvD K tb σ F cs1 (.str y) cs2) : EvD K (tOp rNe ta tb) σ F cs (.bool (!decide (x = y))) cs2 :=
  d_op ha hb fun _ _ F2 H2 hx hy s _ Q q => by
    cases hx.toStr; cases hy.toStr
    exact ⟨rfl, q _ F2 H2 .rfl s (by rw [dec_V (f := V.str) (fun _ _ h => V.str.inj h)]; exact .bl _)⟩
theorem d_eqB {x y : Bool} (ha : EvD K ta σ F cs (.bool x) cs1) (hb : EvD K tb σ F cs1 (.bool y) cs2) : EvD K (tOp rEq ta tb) σ F cs (.bool (decide (x = y))) cs2 :=
  d_op ha hb fun _ _ F2 H2 hx hy s _ Q q => by
    cases hx.toBl; cases hy.toBl
    exact ⟨rfl, q _ F2 H2 .rfl s (by rw [dec_V (f := V.bl) (fun _ _ h => V.bl.inj h)]; exact .bl _)⟩
theorem d_neB {x y : Bool} (ha : EvD K ta σ F cs (.bool x) cs1) (hb : EvD K tb σ F cs1 (.bool y) cs2) : EvD K (tOp rNe ta tb) σ F cs (.bool (!decide (x = y))) cs2 :=
  d_op ha hb fun _ _ F2 H2 hx hy s _ Q q => by
    cases hx.toBl; cases hy.toBl
    exact ⟨rfl, q _ F2 H2 .rfl s (by rw [dec_V (f := V.bl) (fun _ _ h => V.bl.inj h)]; exact .bl _)⟩
/-- == of data -/
theorem d_eqD (ha : EvD K ta σ F cs d cs1) (hb : EvD K tb σ F cs1 e cs2) (h1 : SeqAt.shaped d = true) (h2 : SeqAt.shaped e = true) : EvD K (tOp (rEqD K) ta tb) σ F cs (.bool (PyData.eqv d e)) cs2 :=
  d_op ha hb fun x y F2 H2 hx hy s _ Q q => ⟨d, e, (hx.gr s.fr).dp (SeqAt.canLay_of_shaped h1), (hy.gr s.fr).dp (SeqAt.canLay_of_shaped h2), h1, h2, q _ F2 H2 .rfl s (.bl _)⟩
theorem d_neD (ha : EvD K ta σ F cs d cs1) (hb : EvD K tb σ F cs1 e cs2) (h1 : SeqAt.shaped d = true) (h2 : SeqAt.shaped e = true) : EvD K (tOp (rNeD K) ta tb) σ F cs (.bool (!PyData.eqv d e)) cs2 :=
  d_op ha hb fun x y F2 H2 hx hy s _ Q q => ⟨d, e, (hx.gr s.fr).dp (SeqAt.canLay_of_shaped h1), (hy.gr s.fr).dp (SeqAt.canLay_of_shaped h2), h1, h2, q _ F2 H2 .rfl s (.bl _)⟩
/-- texts -/
theorem d_scat {x y z : Str} (ha : EvD K ta σ F cs (.str x) cs1) (hb : EvD K tb σ F cs1 (.str y) cs2) (hz : scatM x y = some z) : EvD K (tOp (fun x y H Q => ∃ i j, x = .str i ∧ y = .str j ∧ i.length + j.length ≤ sizeLine ∧ Q (.str (i ++ j)) H) ta tb) σ F cs (.str z) cs2 :=
  d_op ha hb fun _ _ F2 H2 hx hy s _ Q q => by
    cases hx.toStr; cases hy.toStr
    obtain ⟨h1, rfl⟩ := scatM_some hz
    exact ⟨x, y, rfl, rfl, sz h1, q _ F2 H2 .rfl s (.str _)⟩
theorem d_inS {x y : Str} (ha : EvD K ta σ F cs (.str x) cs1) (hb : EvD K tb σ F cs1 (.str y) cs2) : EvD K (tOp (fun x y H Q => ∃ i j, x = .str i ∧ y = .str j ∧ Q (.bl (!(Builtin.Str.occurrences j i 0 j.length 1).isEmpty)) H) ta tb) σ F cs (.bool (inS x y)) cs2 :=
  d_op ha hb fun _ _ F2 H2 hx hy s _ Q q => by
    cases hx.toStr; cases hy.toStr
    exact ⟨x, y, rfl, rfl, q _ F2 H2 .rfl s (.bl _)⟩
theorem d_notinS {x y : Str} (ha : EvD K ta σ F cs (.str x) cs1) (hb : EvD K tb σ F cs1 (.str y) cs2) : EvD K (tOp (fun x y H Q => ∃ i j, x = .str i ∧ y = .str j ∧ Q (.bl (!(!(Builtin.Str.occurrences j i 0 j.length 1).isEmpty))) H) ta tb) σ F cs (.bool (!inS x y)) cs2 :=
  d_op ha hb fun _ _ F2 H2 hx hy s _ Q q => by
    cases hx.toStr; cases hy.toStr
    exact ⟨x, y, rfl, rfl, q _ F2 H2 .rfl s (.bl _)⟩
/-- tests -/
theorem t_test {b : Bool} (h : EvD K te σ F cs (.bool b) cs1) : EvT (tTest te) σ F cs b cs1 := fun F1 H1 g1 s Q q =>
  h F1 H1 g1 s _ fun v F2 H2 g2 s2 h2 => ⟨b, h2.toBl, q F2 H2 g2 s2⟩
theorem t_B {b : Bool} (h : EvD K te σ F cs (.bool b) cs1) : EvT (tB te) σ F cs b cs1 := fun F1 H1 g1 s Q q =>
  h F1 H1 g1 s _ fun v F2 H2 g2 s2 h2 => ⟨b, h2.toBl, q F2 H2 g2 s2⟩
theorem t_not {t : TT} {b : Bool} (h : EvT t σ F cs b cs1) : EvT (tNot t) σ F cs (!b) cs1 := fun F1 H1 g1 s Q q => h F1 H1 g1 s _ fun F2 H2 g2 s2 => q F2 H2 g2 s2
theorem t_and {t u : TT} {a b r : Bool} (h1 : EvT t σ F cs a cs1) (h2 : a = true → EvT u σ F cs1 b cs1) (h3 : a = true → r = b) (h4 : a = false → r = false) : EvT (tAnd t u) σ F cs r cs1 := fun F1 H1 g1 s Q q => h1 F1 H1 g1 s _ fun F2 H2 g2 s2 => by
  cases a with
  | true => rw [h3 rfl] at q; exact h2 rfl F2 H2 (g1.tr g2) s2 Q fun F3 H3 g3 s3 => q F3 H3 (g2.tr g3) s3
  | false => rw [h4 rfl] at q; exact q F2 H2 g2 s2
theorem t_or {t u : TT} {a b r : Bool} (h1 : EvT t σ F cs a cs1) (h2 : a = false → EvT u σ F cs1 b cs1) (h3 : a = false → r = b) (h4 : a = true → r = true) : EvT (tOr t u) σ F cs r cs1 := fun F1 H1 g1 s Q q => h1 F1 H1 g1 s _ fun F2 H2 g2 s2 => by
  cases a with
  | false => rw [h3 rfl] at q; exact h2 rfl F2 H2 (g1.tr g2) s2 Q fun F3 H3 g3 s3 => q F3 H3 (g2.tr g3) s3
  | true => rw [h4 rfl] at q; exact q F2 H2 g2 s2
theorem d_andV {a b r : Bool} (h1 : EvD K ta σ F cs (.bool a) cs1) (h2 : a = true → EvD K tb σ F cs1 (.bool b) cs1) (h3 : a = true → r = b) (h4 : a = false → r = false) : EvD K (tAndV ta tb) σ F cs (.bool r) cs1 := fun F1 H1 g1 s Q q => h1 F1 H1 g1 s _ fun v F2 H2 g2 s2 hv => ⟨a, hv.toBl, by
  cases a with
  | true => rw [h3 rfl] at q; exact h2 rfl F2 H2 (g1.tr g2) s2 Q fun v F3 H3 g3 s3 k => q v F3 H3 (g2.tr g3) s3 k
  | false => rw [h4 rfl] at q; exact q _ F2 H2 g2 s2 (.bl _)⟩
theorem d_orV {a b r : Bool} (h1 : EvD K ta σ F cs (.bool a) cs1) (h2 : a = false → EvD K tb σ F cs1 (.bool b) cs1) (h3 : a = false → r = b) (h4 : a = true → r = true) : EvD K (tOrV ta tb) σ F cs (.bool r) cs1 := fun F1 H1 g1 s Q q => h1 F1 H1 g1 s _ fun v F2 H2 g2 s2 hv => ⟨a, hv.toBl, by
  cases a with
  | false => rw [h3 rfl] at q; exact h2 rfl F2 H2 (g1.tr g2) s2 Q fun v F3 H3 g3 s3 k => q v F3 H3 (g2.tr g3) s3 k
  | true => rw [h4 rfl] at q; exact q _ F2 H2 g2 s2 (.bl _)⟩
theorem d_notV {a : Bool} (h : EvD K ta σ F cs (.bool a) cs1) : EvD K (tNotV ta) σ F cs (.bool (!a)) cs1 := fun F1 H1 g1 s Q q => h F1 H1 g1 s _ fun v F2 H2 g2 s2 hv => ⟨a, hv.toBl, q _ F2 H2 g2 s2 (.bl _)⟩
theorem d_ifE {t : TT} {a : Bool} (h : EvT t σ F cs a cs1) (h1 : a = true → EvD K ta σ F cs1 d cs2) (h2 : a = false → EvD K tb σ F cs1 d cs2) : EvD K (tIf t ta tb) σ F cs d cs2 := fun F1 H1 g1 s Q q => h F1 H1 g1 s _ fun F2 H2 g2 s2 => by
  cases a with
  | true => exact h1 rfl F2 H2 (g1.tr g2) s2 Q fun v F3 H3 g3 s3 k => q v F3 H3 (g2.tr g3) s3 k
  | false => exact h2 rfl F2 H2 (g1.tr g2) s2 Q fun v F3 H3 g3 s3 k => q v F3 H3 (g2.tr g3) s3 k
end
end Bw

namespace Bw
open PySem L2
/-- a new list, which may change -/
def EvC (K : PySem.W.Frag) (te : TE) (σ : St) (F : Hp) (cs : Cs) (ds : List PyData) (cs' : Cs) : Prop :=
  ∀ F1 H1, Gr F F1 → Sta F1 cs H1 → ∀ Q : VK, (∀ p vs F2 H2, Gr F1 F2 → Sta F2 ((p, .lst vs) :: cs') H2 → Dts K F2 vs ds → Q (.ref p) H2) → te σ H1 Q
section
variable {K : PySem.W.Frag} {σ : St} {F F' : Hp} {cs cs1 cs2 cs3 : Cs} {ta tb tc te : TE} {d e : PyData} {as : TA} {a b c : Int}
theorem EvC.dd {ds : List PyData} (h : EvC K te σ F cs ds cs1) : EvD K te σ F cs (.list ds) cs1 := fun F1 H1 g1 s Q q => h F1 H1 g1 s Q fun p vs F2 H2 g2 s2 h2 => q _ _ H2 (g2.tr s2.gfr) s2.froze (.lst (.inl (.inl upd_same)) (h2.gr s2.gfr))
theorem c_is {ds es : List PyData} (h : EvC K te σ F cs ds cs1) (q : ds = es) : EvC K te σ F cs es cs1 := q ▸ h
theorem c_lst {ds : List PyData} (h : EvDs K as σ F cs ds cs1) (hl : ds.length ≤ 100000) : EvC K (tLst as) σ F cs ds cs1 := fun F1 H1 g1 s Q q =>
  h F1 H1 g1 s _ fun vs F2 H2 g2 s2 h2 => ⟨h2.len.symm ▸ sz hl, fun p hp => q p vs F2 _ g2 (s2.cell hp) h2⟩
theorem c_list {ds : List PyData} (ha : EvDs K as σ F cs [.list ds] cs1) : EvC K (tCB (fun xs H Q => ∃ p ys, xs = [.ref p] ∧ (SqL K H p ys ∨ SqT K H p ys) ∧ ∀ l, H l = none → Q (.ref l) (upd H l (.lst ys))) as) σ F cs ds cs1 := fun F1 H1 g1 s Q q => ha F1 H1 g1 s _ fun vs F2 H2 g2 s2 h2 => by
  obtain ⟨v, rfl, k⟩ := h2.one
  obtain ⟨p, ys, rfl, hl, hd⟩ := k.toLst
  exact ⟨p, ys, rfl, .inl (gr_L s2.fr hl), fun l nl => q _ _ _ _ g2 (s2.cell nl) hd⟩
theorem c_sl {α : Type} {e : α → PyData} {xs : List α} {tl th : TO} {lo hi : Option Int} (h : EvD K te σ F cs (eL e xs) cs1) (h1 : EvO tl σ F cs1 lo cs2) (h2 : EvO th σ F cs2 hi cs3) : EvC K (tSl (rSlL K) te tl th) σ F cs ((cutL xs lo hi).map e) cs3 := fun F1 H1 g1 s Q q =>
  h F1 H1 g1 s _ fun v F2 H2 g2 s2 hv => h1 F2 H2 (g1.tr g2) s2 _ fun F3 H3 g3 s3 => h2 F3 H3 ((g1.tr g2).tr g3) s3 _ fun F4 H4 g4 s4 => by
    obtain ⟨p, vs, rfl, hl, hd⟩ := hv.toLst
    have hd' := hd.gr (g3.tr g4)
    refine ⟨p, vs, rfl, gr_L s4.fr (gr_L (g3.tr g4) hl), fun l nl => q _ _ _ _ (g2.tr (g3.tr g4)) (s4.cell nl) ?_⟩
    rw [← cutL_map]
    unfold cutV cutL
    rw [hd.len]
    exact (hd'.drop _).take _
/-- list + list, list * int -/
def rCatS (K : PySem.W.Frag) : R2 := fun x y H Q => ∃ l b xs zs, x = .ref l ∧ y = .ref b ∧ SqL K H l xs ∧ SqL K H b zs ∧ xs.length + zs.length ≤ sizeLine ∧ ∀ p, H p = none → Q (.ref p) (upd H p (.lst (xs ++ zs)))
theorem op_catS {X : Cx} : OpR X (binaryOp .Add) (rCatS X.K) := by
  intro pins s σ H x y v u Q I rx ry h
  obtain ⟨l, b, xs, zs, rfl, rfl, hH, hB, hz, q⟩ := h
  cases rx
  cases ry
  obtain ⟨its, r, pl, _⟩ := I.list hH
  obtain ⟨its2, r2, pl2, _⟩ := I.list hB
  have e1 := r.length
  have e2 := r2.length
  obtain ⟨⟨cls, dd, data, sl⟩, ho, hc, n, hd⟩ := pl.isList
  obtain ⟨⟨cls2, dd2, data2, sl2⟩, ho2, hc2, n2, hd2⟩ := pl2.isList
  simp only at hc hd hc2 hd2
  subst hc hd hc2 hd2
  refine PySem.concat_meets ⟨_, ho, rfl⟩ ⟨_, ho2, rfl⟩ PySem.noFill_list_add PySem.seq_list_add PySem.F.slot_list_add PySem.F.entry_list_add (PySem.F.args_list_add_2 _ _)
    (PyProof.Rows.list_addW l b its.toArray its2.toArray n n2 dd dd2 sl sl2 (by simp only [List.size_toArray]; omega)) ⟨ho, ho2, ?_⟩
  rw [show its.toArray ++ its2.toArray = (its ++ its2).toArray by simp]
  exact ⟨.ref _, _, I.lnew (t' := s.toks) (r.append r2) (by rw [List.length_append]; omega), rfl, q _ I.fresh⟩
theorem c_cat {α : Type} {en : α → PyData} {xs ys zs : List α} (ha : EvD K ta σ F cs (eL en xs) cs1) (hb : EvD K tb σ F cs1 (eL en ys) cs2) (hz : catM xs ys = some zs) : EvC K (tOp (rCatS K) ta tb) σ F cs (zs.map en) cs2 := fun F1 H1 g1 s Q q =>
  ha F1 H1 g1 s _ fun v F2 H2 g2 s2 h2 => hb F2 H2 (g1.tr g2) s2 _ fun w F3 H3 g3 s3 h3 => by
    obtain ⟨p, vs, rfl, hl, hd⟩ := (h2.gr g3).toLst
    obtain ⟨p', ws, rfl, hl', hd'⟩ := h3.toLst
    obtain ⟨h4, rfl⟩ := catM_some hz
    refine ⟨p, p', vs, ws, rfl, rfl, gr_L s3.fr hl, gr_L s3.fr hl', ?_, fun l nl => q _ _ _ _ (g2.tr g3) (s3.cell nl) ?_⟩
    · rw [hd.len, hd'.len, List.length_map, List.length_map]; exact sz h4
    · rw [List.map_append]; exact hd.app hd'
theorem c_rep {α : Type} {en : α → PyData} {xs zs : List α} (ha : EvC K ta σ F cs (xs.map en) cs1) (hb : ∀ cs, EvD K tb σ F cs (.int b) cs) (hz : repM xs b = some zs) : EvC K (tOp rRep ta tb) σ F cs (zs.map en) cs1 := fun F1 H1 g1 s Q q =>
  ha F1 H1 g1 s _ fun p vs F2 H2 g2 s2 h2 => hb _ F2 H2 (g1.tr g2) s2 _ fun w F3 H3 g3 s3 h3 => by
    cases h3.toInt
    obtain ⟨⟨h4, h5, h6⟩, rfl⟩ := repM_some hz
    have s4 := s3.froze
    refine ⟨p, b, vs, rfl, rfl, s3.at List.mem_cons_self, h4, h5, ?_, fun l nl => q _ _ _ _ ((g2.tr g3).tr s3.gfr) (s4.cell nl) ?_⟩
    · rw [h2.len, List.length_map]; exact sz h6
    · have := ((h2.gr g3).gr s3.gfr).rep b.toNat
      rw [List.map_flatten, List.map_replicate]
      exact this
/-- x in a list of ints, of texts -/
theorem inV_int (x : Int) (xs : List Int) : inV (.int x) (xs.map V.int) = xs.any (fun y => y == x) := by
  unfold inV
  rw [List.any_map]
  congr 1
theorem inV_str (x : Str) (xs : List Str) : inV (.str x) (xs.map V.str) = xs.any (fun y => y == x) := by
  unfold inV
  rw [List.any_map]
  congr 1
def inL {α : Type} [BEq α] (x : α) (xs : List α) : Bool := xs.any fun y => y == x
theorem flatI (xs : List Int) : (xs.map V.int).all flatV = true := by rw [List.all_map]; exact List.all_eq_true.mpr fun _ _ => rfl
theorem flatS (xs : List Str) : (xs.map V.str).all flatV = true := by rw [List.all_map]; exact List.all_eq_true.mpr fun _ _ => rfl
theorem d_inI {xs : List Int} (ha : EvD K ta σ F cs (.int a) cs1) (hb : EvD K tb σ F cs1 (eL eI xs) cs2) : EvD K (tOp (rIn K false) ta tb) σ F cs (.bool (inL a xs)) cs2 :=
  d_op ha hb fun x y F2 H2 hx hy s _ Q q => by
    cases hx.toInt
    obtain ⟨p, vs, rfl, hl, hd⟩ := hy.toLst
    cases hd.ints
    refine ⟨p, _, rfl, .inl (gr_L s.fr hl), rfl, flatI xs, q _ F2 H2 .rfl s ?_⟩
    rw [inV_int]; exact .bl _
theorem d_ninI {xs : List Int} (ha : EvD K ta σ F cs (.int a) cs1) (hb : EvD K tb σ F cs1 (eL eI xs) cs2) : EvD K (tOp (rIn K true) ta tb) σ F cs (.bool (!inL a xs)) cs2 :=
  d_op ha hb fun x y F2 H2 hx hy s _ Q q => by
    cases hx.toInt
    obtain ⟨p, vs, rfl, hl, hd⟩ := hy.toLst
    cases hd.ints
    refine ⟨p, _, rfl, .inl (gr_L s.fr hl), rfl, flatI xs, q _ F2 H2 .rfl s ?_⟩
    rw [inV_int]; exact .bl _
theorem d_inSs {x : Str} {xs : List Str} (ha : EvD K ta σ F cs (.str x) cs1) (hb : EvD K tb σ F cs1 (eL eS xs) cs2) : EvD K (tOp (rIn K false) ta tb) σ F cs (.bool (inL x xs)) cs2 :=
  d_op ha hb fun _ y F2 H2 hx hy s _ Q q => by
    cases hx.toStr
    obtain ⟨p, vs, rfl, hl, hd⟩ := hy.toLst
    cases hd.strs
    refine ⟨p, _, rfl, .inl (gr_L s.fr hl), rfl, flatS xs, q _ F2 H2 .rfl s ?_⟩
    rw [inV_str]; exact .bl _
theorem d_ninSs {x : Str} {xs : List Str} (ha : EvD K ta σ F cs (.str x) cs1) (hb : EvD K tb σ F cs1 (eL eS xs) cs2) : EvD K (tOp (rIn K true) ta tb) σ F cs (.bool (!inL x xs)) cs2 :=
  d_op ha hb fun _ y F2 H2 hx hy s _ Q q => by
    cases hx.toStr
    obtain ⟨p, vs, rfl, hl, hd⟩ := hy.toLst
    cases hd.strs
    refine ⟨p, _, rfl, .inl (gr_L s.fr hl), rfl, flatS xs, q _ F2 H2 .rfl s ?_⟩
    rw [inV_str]; exact .bl _
/-- sep.join(xs) -/
def joinM (x : Str) (xs : List Str) : Option Str := if ((xs.map (·.length)).sum + x.length * xs.length) ≤ 100000 then some (Txt.join x xs) else none

/-! walks -/
theorem src_list {p : Addr} {vs : List V} {ds : List PyData} (h : SqL K F p vs) (hd : Dts K F vs ds) : Src K (Itl K p) F ds := fun F1 c1 H1 g s => by
  have q : SqL K H1 p vs := gr_L s.fr (gr_L g h)
  refine ⟨fun i hi => ?_, ⟨vs, q, by rw [hd.len]; exact Nat.le_refl _⟩, fun i v H2 d e y => ?_⟩
  · have hi' : i < vs.length := by rw [hd.len]; exact hi
    exact ⟨vs, vs[i], q, List.getElem?_eq_getElem hi'⟩
  · obtain ⟨rfl, y⟩ := y
    obtain ⟨d', e', h'⟩ := hd.get (y vs q)
    rw [e] at e'; cases e'
    exact ⟨F1, .rfl, s, h'.gr g⟩
theorem src_enum {p : Addr} {vs : List V} {ds : List PyData} (h : SqL K F p vs) (hd : Dts K F vs ds) : Src K (Ite K p) F (ds.mapIdx fun i d => .tuple [.int i, d]) := fun F1 c1 H1 g s => by
  have q : SqL K H1 p vs := gr_L s.fr (gr_L g h)
  refine ⟨fun i hi => ?_, ⟨vs, q, by rw [hd.len]; simp⟩, fun i v H2 d e y => ?_⟩
  · have hi' : i < vs.length := by rw [hd.len]; simpa using hi
    exact ⟨vs, vs[i], q, List.getElem?_eq_getElem hi'⟩
  · obtain ⟨T, x, rfl, nT, rfl, y⟩ := y
    obtain ⟨d', e', h'⟩ := hd.get (y vs q)
    rw [List.getElem?_mapIdx, e'] at e
    cases e
    exact ⟨_, Gr.new (s.fr.back nT), s.lay nT, .tup (.inl (.inl upd_same)) (.cons (.int _) (.cons (h'.gr (g.tr (Gr.new (s.fr.back nT)))) .nil))⟩
theorem src_zip {p p' : Addr} {vs ws : List V} {ds es : List PyData} (h : SqL K F p vs) (hd : Dts K F vs ds) (h' : SqL K F p' ws) (hd' : Dts K F ws es) : Src K (Itz K p p') F (List.zipWith (fun d e => .tuple [d, e]) ds es) := fun F1 c1 H1 g s => by
  have q : SqL K H1 p vs := gr_L s.fr (gr_L g h)
  have q' : SqL K H1 p' ws := gr_L s.fr (gr_L g h')
  refine ⟨fun i hi => ?_, ⟨vs, ws, q, q', by rw [hd.len, hd'.len, List.length_zipWith]; omega⟩, fun i v H2 d e y => ?_⟩
  · rw [List.length_zipWith] at hi
    have h1 : i < vs.length := by rw [hd.len]; omega
    have h2 : i < ws.length := by rw [hd'.len]; omega
    exact ⟨vs, ws, vs[i], ws[i], q, q', List.getElem?_eq_getElem h1, List.getElem?_eq_getElem h2⟩
  · obtain ⟨T, x, z, rfl, nT, rfl, y, y'⟩ := y
    obtain ⟨d1, e1, h1⟩ := hd.get (y vs q)
    obtain ⟨d2, e2, h2⟩ := hd'.get (y' ws q')
    rw [List.getElem?_zipWith, e1, e2] at e
    cases e
    have gg := g.tr (Gr.new (o := .tup [x, z]) (s.fr.back nT))
    exact ⟨_, Gr.new (s.fr.back nT), s.lay nT, .tup (.inl (.inl upd_same)) (.cons (h1.gr gg) (.cons (h2.gr gg) .nil))⟩
theorem i_list {α : Type} {en : α → PyData} {xs : List α} (h : EvD K te σ F cs (eL en xs) cs1) : EvI K (iList K te) σ F cs (xs.map en) cs1 := fun F1 H1 g1 s R q =>
  h F1 H1 g1 s _ fun v F2 H2 g2 s2 h2 => by
    obtain ⟨p, vs, rfl, hs, hd⟩ := h2.toLst
    exact ⟨p, rfl, ⟨vs, gr_L s2.fr hs⟩, q _ F2 H2 g2 s2 (src_list hs hd)⟩
theorem enum_map {α : Type} (en : α → PyData) (xs : List α) : (xs.map en).mapIdx (fun i d => PyData.tuple [.int i, d]) = (enumM xs).map (eT2 eI en) := by
  unfold enumM
  apply List.ext_getElem? 
  intro i
  simp only [List.getElem?_mapIdx, List.getElem?_map]
  cases xs[i]? <;> rfl
theorem i_enum {α : Type} {en : α → PyData} {xs : List α} (h : EvDs K as σ F cs [eL en xs] cs1) : EvI K (iEnum K as) σ F cs ((enumM xs).map (eT2 eI en)) cs1 := fun F1 H1 g1 s R q =>
  h F1 H1 g1 s _ fun v F2 H2 g2 s2 h2 => by
    obtain ⟨v, rfl, k⟩ := h2.one
    obtain ⟨p, vs, rfl, hs, hd⟩ := k.toLst
    refine ⟨p, vs, rfl, gr_L s2.fr hs, q _ F2 H2 g2 s2 ?_⟩
    rw [← enum_map]
    exact src_enum hs hd
theorem zip_map {α β : Type} (en : α → PyData) (em : β → PyData) : ∀ (xs : List α) (ys : List β), List.zipWith (fun d e => PyData.tuple [d, e]) (xs.map en) (ys.map em) = (xs.zip ys).map (eT2 en em)
  | [], _ => rfl
  | _ :: _, [] => rfl
  | x :: xs, y :: ys => by
    simp only [List.map_cons, List.zipWith_cons_cons, List.zip_cons_cons]
    rw [zip_map en em xs ys]
theorem i_zip {α β : Type} {en : α → PyData} {em : β → PyData} {xs : List α} {ys : List β} (h : EvDs K as σ F cs [eL en xs, eL em ys] cs1) : EvI K (iZip K as) σ F cs ((xs.zip ys).map (eT2 en em)) cs1 := fun F1 H1 g1 s R q =>
  h F1 H1 g1 s _ fun v F2 H2 g2 s2 h2 => by
    obtain ⟨v, w, rfl, k1, k2⟩ := h2.two
    obtain ⟨p, vs, rfl, hs, hd⟩ := k1.toLst
    obtain ⟨p', ws, rfl, hs', hd'⟩ := k2.toLst
    refine ⟨p, p', vs, ws, rfl, gr_L s2.fr hs, gr_L s2.fr hs', q _ F2 H2 g2 s2 ?_⟩
    rw [← zip_map]
    exact src_zip hs hd hs' hd'
theorem src_rng {lo : Int} {n : Nat} : Src K (Itr lo n) F ((List.range n).map fun (i : Nat) => PyData.int (lo + (i : Int))) := fun F1 c1 H1 g s => by
  refine ⟨fun i hi => (by simpa using hi : i < n), by show n ≤ _; simp, fun i v H2 d e y => ?_⟩
  obtain ⟨rfl, rfl⟩ := y
  rw [List.getElem?_map] at e
  cases q : (List.range n)[i]? with
  | none => rw [q] at e; cases e
  | some j =>
    rw [q] at e
    have : i = j := by
      obtain ⟨h1, h2⟩ := List.getElem?_eq_some_iff.mp q
      simpa using h2
    subst this
    cases e
    exact ⟨F1, .rfl, s, .int _⟩
theorem i_rng1 {xs : List Int} (h : EvDs K as σ F cs [.int b] cs1) (hx : rngM 0 b = some xs) : EvI K (iRng1 as) σ F cs (xs.map eI) cs1 := fun F1 H1 g1 s R q =>
  h F1 H1 g1 s _ fun v F2 H2 g2 s2 h2 => by
    obtain ⟨v, rfl, k⟩ := h2.one; cases k.toInt
    obtain ⟨⟨_, _, h3, h4⟩, rfl⟩ := rngM_some hx
    refine ⟨b, rfl, h3, h4, q _ F2 H2 g2 s2 ?_⟩
    have := src_rng (K := K) (F := F2) (lo := 0) (n := b.toNat)
    unfold rngL
    rw [List.map_map, Int.sub_zero]
    exact this
theorem i_rng2 {xs : List Int} (h : EvDs K as σ F cs [.int a, .int b] cs1) (hx : rngM a b = some xs) : EvI K (iRng2 as) σ F cs (xs.map eI) cs1 := fun F1 H1 g1 s R q =>
  h F1 H1 g1 s _ fun v F2 H2 g2 s2 h2 => by
    obtain ⟨v, w, rfl, k1, k2⟩ := h2.two; cases k1.toInt; cases k2.toInt
    obtain ⟨h3, rfl⟩ := rngM_some hx
    refine ⟨a, b, rfl, h3, q _ F2 H2 g2 s2 ?_⟩
    have := src_rng (K := K) (F := F2) (lo := a) (n := (b - a).toNat)
    unfold rngL
    rw [List.map_map]
    exact this
theorem i_str {x : Str} (h : EvD K te σ F cs (.str x) cs1) : EvI K (iStr te) σ F cs ((signs x).map eS) cs1 := fun F1 H1 g1 s R q =>
  h F1 H1 g1 s _ fun v F2 H2 g2 s2 h2 => by
    refine ⟨x, h2.toStr, q _ F2 H2 g2 s2 fun F3 c3 H3 g3 s3 => ⟨fun i hi => by simpa [signs, Its] using hi, by simp [signs, Its], fun i v H4 d e y => ?_⟩⟩
    obtain ⟨rfl, c, hc, rfl⟩ := y
    unfold signs at e
    rw [List.map_map, List.getElem?_map, Array.getElem?_toList, hc] at e
    cases e
    exact ⟨F3, .rfl, s3, .str _⟩
end
end Bw

namespace Bw
open PySem L2
/-! what a loop's turn leaves -/
inductive Fl (S R : Type) where
  | nx (s : S) | br (s : S) | rt (r : R)
def forF {α S R : Type} (body : S → α → Option (Fl S R)) : List α → S → Option (Fl S R)
  | [], s => some (.nx s)
  | x :: xs, s => (body s x).bind fun f => match f with
    | .nx s' => forF body xs s'
    | .br s' => some (.br s')
    | .rt r => some (.rt r)
def whileF {S R : Type} (c : S → Option Bool) (body : S → Option (Fl S R)) : Nat → S → Option (Fl S R)
  | 0, _ => none
  | n + 1, s => (c s).bind fun b => if b = true then (body s).bind fun f => match f with
      | .nx s' => whileF c body n s'
      | .br s' => some (.br s')
      | .rt r => some (.rt r)
    else some (.nx s)
def lcM {α β : Type} (f : α → Option (Option β)) : List α → Option (List β)
  | [] => some []
  | x :: xs => (f x).bind fun o => (lcM f xs).bind fun ys => some (match o with
    | some y => y :: ys
    | none => ys)
theorem lcM_len {α β : Type} {f : α → Option (Option β)} : ∀ {xs : List α} {ys : List β}, lcM f xs = some ys → ys.length ≤ xs.length
  | [], ys, h => by cases h; exact Nat.le_refl _
  | x :: xs, ys, h => by
    obtain ⟨o, h1, h⟩ := bnd h
    obtain ⟨zs, h2, h⟩ := bnd h
    have := lcM_len h2
    cases o with
    | none => cases h; exact Nat.le_succ_of_le this
    | some y => cases h; exact Nat.succ_le_succ this
theorem lcM_map {α β : Type} (f : α → β) : ∀ xs : List α, lcM (fun x => some (some (f x))) xs = some (xs.map f)
  | [] => rfl
  | x :: xs => by show (lcM _ xs).bind _ = _; rw [lcM_map f xs]; rfl
theorem lcM_filter {α β : Type} (p : α → Bool) (f : α → β) : ∀ xs : List α, lcM (fun x => some (if p x = true then some (f x) else none)) xs = some ((xs.filter p).map f)
  | [] => rfl
  | x :: xs => by
    show (lcM _ xs).bind _ = _
    rw [lcM_filter p f xs, List.filter_cons]
    by_cases h : p x = true
    · simp [h]
    · simp [h]
section
variable {K : PySem.W.Frag} {σ : St} {F F' : Hp} {cs cs1 cs2 cs3 : Cs} {ta tb tc te : TE} {d e : PyData} {as : TA} {a b c : Int} {nx bk ct : St → Hp → Prop} {rt : VK} {H : Hp} {t u : TS}
/-! statements -/
theorem go {D : Ends} {σ' : St} (e : σ = σ') (h : t D σ' H) : t D σ H := e ▸ h
theorem s_set {i : Nat} {σ' : V → St} (s : Sta F cs H) (h : EvD K te σ F cs d cs1) (hσ : ∀ v, σ.set i (some v) = σ' v) (q : ∀ v F2 H2, Gr F F2 → Sta F2 cs1 H2 → Dt K F2 v d → nx (σ' v) H2) : tAsg te (gName i) ⟨nx, rt, bk, ct⟩ σ H := h F H .rfl s _ fun v F2 H2 g2 s2 h2 => by
  show nx (σ.set i (some v)) H2
  rw [hσ v]; exact q v F2 H2 g2 s2 h2
/-- a flat value -/
theorem s_setV {i : Nat} {σ' : St} {w : V} (hw : ∀ F v, Dt K F v d → v = w) (s : Sta F cs H) (h : EvD K te σ F cs d cs1) (hσ : σ.set i (some w) = σ') (q : ∀ F2 H2, Gr F F2 → Sta F2 cs1 H2 → nx σ' H2) : tAsg te (gName i) ⟨nx, rt, bk, ct⟩ σ H := h F H .rfl s _ fun v F2 H2 g2 s2 h2 => by
  cases hw F2 v h2
  show nx (σ.set i (some w)) H2
  rw [hσ]; exact q F2 H2 g2 s2
theorem s_setC {ds : List PyData} {i : Nat} {σ' : Addr → St} (s : Sta F cs H) (h : EvC K te σ F cs ds cs1) (hσ : ∀ p, σ.set i (some (.ref p)) = σ' p) (q : ∀ p vs F2 H2, Gr F F2 → Sta F2 ((p, .lst vs) :: cs1) H2 → Dts K F2 vs ds → nx (σ' p) H2) : tAsg te (gName i) ⟨nx, rt, bk, ct⟩ σ H := h F H .rfl s _ fun p vs F2 H2 g2 s2 h2 => by
  show nx (σ.set i (some (.ref p))) H2
  rw [hσ p]; exact q p vs F2 H2 g2 s2 h2
theorem s_ret (s : Sta F cs H) (h : EvD K te σ F cs d cs1) (q : ∀ v F2 H2, Gr F F2 → Sta F2 cs1 H2 → Dt K F2 v d → rt v H2) : tRet te ⟨nx, rt, bk, ct⟩ σ H := h F H .rfl s _ q
theorem s_drop (s : Sta F cs H) (h : EvD K te σ F cs d cs1) (q : ∀ F2 H2, Gr F F2 → Sta F2 cs1 H2 → nx σ H2) : tDrop te ⟨nx, rt, bk, ct⟩ σ H := h F H .rfl s _ fun v F2 H2 g2 s2 _ => q F2 H2 g2 s2
theorem s_if {c : TT} {b : Bool} (s : Sta F cs H) (h : EvT c σ F cs b cs1) (qt : b = true → ∀ F2 H2, Gr F F2 → Sta F2 cs1 H2 → t ⟨nx, rt, bk, ct⟩ σ H2) (qf : b = false → ∀ F2 H2, Gr F F2 → Sta F2 cs1 H2 → u ⟨nx, rt, bk, ct⟩ σ H2) : tIfS c t u ⟨nx, rt, bk, ct⟩ σ H :=
  h F H .rfl s _ fun F2 H2 g2 s2 => by
    cases b with
    | true => exact qt rfl F2 H2 g2 s2
    | false => exact qf rfl F2 H2 g2 s2
/-- cells: append, item, pop -/
theorem s_app {l1 l2 : Cs} {i : Nat} {p : Addr} {vs : List V} (s : Sta F (l1 ++ (p, .lst vs) :: l2) H) (hi : σ[i]? = some (some (.ref p))) (h : EvD K te σ F (l1 ++ (p, .lst vs) :: l2) d (l1 ++ (p, .lst vs) :: l2)) (hl : vs.length < 100000)
    (q : ∀ v F2 H2, Gr F F2 → Sta F2 (l1 ++ (p, .lst (vs ++ [v])) :: l2) H2 → Dt K F2 v d → nx σ H2) : tDrop (tBM K "list" rAppend (tVar i) (tCons te tNil)) ⟨nx, rt, bk, ct⟩ σ H :=
  ⟨.ref p, hi, .inl ⟨rfl, _, .inl (.inl s.getAt)⟩, h F H .rfl s _ fun v F2 H2 g2 s2 h2 => ⟨p, vs, v, rfl, rfl, s2.getAt, szl hl, q v F2 _ g2 s2.putAt h2⟩⟩
theorem s_item {l1 l2 : Cs} {i : Nat} {p : Addr} {vs : List V} {ti : TE} {k : Int} {j : Nat} (s : Sta F (l1 ++ (p, .lst vs) :: l2) H) (hi : σ[i]? = some (some (.ref p))) (h : EvD K te σ F (l1 ++ (p, .lst vs) :: l2) d (l1 ++ (p, .lst vs) :: l2))
    (h2 : EvD K ti σ F (l1 ++ (p, .lst vs) :: l2) (.int k) (l1 ++ (p, .lst vs) :: l2)) (hj : ixN vs.length k = some j) (q : ∀ v F2 H2, Gr F F2 → Sta F2 (l1 ++ (p, .lst (vs.set j v)) :: l2) H2 → Dt K F2 v d → nx σ H2) : tAsg te (gSub (tVar i) ti rSetL) ⟨nx, rt, bk, ct⟩ σ H :=
  h F H .rfl s _ fun v F2 H2 g2 s2 hv => ⟨.ref p, hi, h2 F2 H2 g2 s2 _ fun w F3 H3 g3 s3 hw => ⟨p, vs, k, j, rfl, hw.toInt, s3.getAt, hj, q v F3 _ (g2.tr g3) s3.putAt (hv.gr g3)⟩⟩
/-- a cell lent for a flat answer -/
theorem d_lend {l1 l2 : Cs} {p : Addr} {o : HO} {w : V} (hw : ∀ F v, Dt K F v d → v = w) (hd : ∀ F, Dt K F w d) (h : ∀ F1, Gr F F1 → F1 p = none → EvD K te σ (upd F1 p o) (l1 ++ l2) d (l1 ++ l2)) : EvD K te σ F (l1 ++ (p, o) :: l2) d (l1 ++ (p, o) :: l2) := fun F1 H1 g1 s Q q => by
  refine h F1 g1 s.freeAt (upd F1 p o) H1 .rfl s.frozeAt Q fun v F2 H2 g2 s2 h2 => ?_
  cases hw F2 v h2
  exact q w (cut F2 p) H2 (gr_cut s.freeAt g2) (Sta.lent g2 s2) (hd _)
theorem t_lend {l1 l2 : Cs} {p : Addr} {o : HO} {t : TT} {b : Bool} (h : ∀ F1, Gr F F1 → F1 p = none → EvT t σ (upd F1 p o) (l1 ++ l2) b (l1 ++ l2)) : EvT t σ F (l1 ++ (p, o) :: l2) b (l1 ++ (p, o) :: l2) := fun F1 H1 g1 s Q q => by
  refine h F1 g1 s.freeAt (upd F1 p o) H1 .rfl s.frozeAt Q fun F2 H2 g2 s2 => ?_
  exact q (cut F2 p) H2 (gr_cut s.freeAt g2) (Sta.lent g2 s2)
theorem lent_l {p : Addr} {vs : List V} {ds : List PyData} (hn : F p = none) (h : Dts K F vs ds) : Dt K (upd F p (.lst vs)) (.ref p) (.list ds) := .lst (.inl (.inl upd_same)) (h.gr (Gr.new hn))
/-- unpacking -/
theorem u2 {v : V} {d1 d2 : PyData} (h : Dt K F v (.tuple [d1, d2])) : ∃ p v1 v2, v = .ref p ∧ SqT K F p [v1, v2] ∧ Dt K F v1 d1 ∧ Dt K F v2 d2 := by
  obtain ⟨p, vs, rfl, h1, h2⟩ := h.toTup
  obtain ⟨v1, v2, rfl, k1, k2⟩ := h2.two
  exact ⟨p, v1, v2, rfl, h1, k1, k2⟩
theorem u3 {v : V} {d1 d2 d3 : PyData} (h : Dt K F v (.tuple [d1, d2, d3])) : ∃ p v1 v2 v3, v = .ref p ∧ SqT K F p [v1, v2, v3] ∧ Dt K F v1 d1 ∧ Dt K F v2 d2 ∧ Dt K F v3 d3 := by
  obtain ⟨p, vs, rfl, h1, h2⟩ := h.toTup
  obtain ⟨v1, v2, v3, rfl, k1, k2, k3⟩ := h2.three
  exact ⟨p, v1, v2, v3, rfl, h1, k1, k2, k3⟩
theorem u4 {v : V} {d1 d2 d3 d4 : PyData} (h : Dt K F v (.tuple [d1, d2, d3, d4])) : ∃ p v1 v2 v3 v4, v = .ref p ∧ SqT K F p [v1, v2, v3, v4] ∧ Dt K F v1 d1 ∧ Dt K F v2 d2 ∧ Dt K F v3 d3 ∧ Dt K F v4 d4 := by
  obtain ⟨p, vs, rfl, h1, h2⟩ := h.toTup
  obtain ⟨v1, v2, v3, v4, rfl, k1, k2, k3, k4⟩ := h2.four
  exact ⟨p, v1, v2, v3, v4, rfl, h1, k1, k2, k3, k4⟩
/-! loops -/
theorem s_for {α S : Type} {wi : TI} {g : TG} {tb : TS} {xs : List α} {en : α → PyData} (st : S → Hp → St → Cs → Prop) {body : S → α → Option S} {s0 r : S}
    (s : Sta F cs H) (hi : EvI K wi σ F cs (xs.map en) cs1) (h0 : ∀ F', Gr F F' → st s0 F' σ cs1) (hm : xs.foldlM body s0 = some r)
    (turn : ∀ x a b F1 F3 σ1 c1 H3 v (N : St → Hp → Prop), Gr F F1 → st a F1 σ1 c1 → Gr F1 F3 → Sta F3 c1 H3 → Dt K F3 v (en x) → body a x = some b → (∀ F4 σ4 c4 H4, Gr F3 F4 → Sta F4 c4 H4 → st b F4 σ4 c4 → N σ4 H4) →
      g v σ1 H3 fun σ2 H2 => tb ⟨N, rt, nx, N⟩ σ2 H2)
    (done : ∀ F1 σ1 c1 H1, Gr F F1 → Sta F1 c1 H1 → st r F1 σ1 c1 → nx σ1 H1) : tFor wi g tb ⟨nx, rt, bk, ct⟩ σ H :=
  hi F H .rfl s _ fun J F2 H2 g2 s2 hs => by
    refine ⟨fun i m σ1 H1 => m = xs.length - i ∧ i ≤ xs.length ∧ ∃ a F1 c1, Gr F2 F1 ∧ Sta F1 c1 H1 ∧ st a F1 σ1 c1 ∧ (xs.drop i).foldlM body a = some r, ⟨xs.length, by simp, Nat.zero_le _, s0, F2, cs1, .rfl, s2, h0 F2 g2, by simpa using hm⟩, ?_⟩
    rintro i m σ1 H1 ⟨rfl, hi, a, F1, c1, g1, s1, ha, hr⟩
    obtain ⟨hgo, hstop, hy⟩ := hs F1 c1 H1 g1 s1
    by_cases hlt : i < xs.length
    · rw [List.drop_eq_getElem_cons hlt, List.foldlM_cons] at hr
      cases hb : body a xs[i] with
      | none => rw [hb] at hr; cases hr
      | some b =>
        rw [hb] at hr
        refine .inr ⟨hgo i (by simpa using hlt), fun σ2 H2 => ∃ F3 c3, Gr F2 F3 ∧ Sta F3 c3 H2 ∧ st b F3 σ2 c3, fun σ' H' ⟨F3, c3, g3, s3, h3⟩ => ⟨xs.length - (i + 1), by omega, rfl, hlt, b, F3, c3, g3, s3, h3, hr⟩, fun x H' y => ?_⟩
        obtain ⟨F3, g3, s3, d3⟩ := hy i x H' (en xs[i]) (by rw [List.getElem?_map, List.getElem?_eq_getElem hlt]; rfl) y
        exact turn xs[i] a b F1 F3 σ1 c1 H' x _ (g2.tr g1) ha g3 s3 d3 hb fun F4 σ4 c4 H4 g4 s4 h4 => ⟨F4, c4, (g1.tr g3).tr g4, s4, h4⟩
    · have e : i = xs.length := by omega
      subst e
      rw [List.drop_length] at hr
      cases hr
      exact .inl ⟨by simpa using hstop, done F1 σ1 c1 H1 (g2.tr g1) s1 ha⟩
/-- .. that may be left -/
theorem s_forF {α S R : Type} {wi : TI} {g : TG} {tb : TS} {xs : List α} {en : α → PyData} (st : S → Hp → St → Cs → Prop) {body : S → α → Option (Fl S R)} {s0 : S} {r : Fl S R}
    (s : Sta F cs H) (hi : EvI K wi σ F cs (xs.map en) cs1) (h0 : ∀ F', Gr F F' → st s0 F' σ cs1) (hm : forF body xs s0 = some r)
    (done : ∀ z F1 σ1 c1 H1, r = .nx z ∨ r = .br z → Gr F F1 → Sta F1 c1 H1 → st z F1 σ1 c1 → nx σ1 H1)
    (turn : ∀ x a b F1 F3 σ1 c1 H3 v (N B : St → Hp → Prop), Gr F F1 → st a F1 σ1 c1 → Gr F1 F3 → Sta F3 c1 H3 → Dt K F3 v (en x) → body a x = some b → (∀ z F4 σ4 c4 H4, b = .nx z → Gr F3 F4 → Sta F4 c4 H4 → st z F4 σ4 c4 → N σ4 H4) →
      (∀ z F4 σ4 c4 H4, b = .br z → Gr F3 F4 → Sta F4 c4 H4 → st z F4 σ4 c4 → B σ4 H4) → (∀ z, b = .rt z → r = .rt z) →
      g v σ1 H3 fun σ2 H2 => tb ⟨N, rt, B, N⟩ σ2 H2) : tFor wi g tb ⟨nx, rt, bk, ct⟩ σ H :=
  hi F H .rfl s _ fun J F2 H2 g2 s2 hs => by
    refine ⟨fun i m σ1 H1 => m = xs.length - i ∧ i ≤ xs.length ∧ ∃ a F1 c1, Gr F2 F1 ∧ Sta F1 c1 H1 ∧ st a F1 σ1 c1 ∧ forF body (xs.drop i) a = some r, ⟨xs.length, by simp, Nat.zero_le _, s0, F2, cs1, .rfl, s2, h0 F2 g2, by simpa using hm⟩, ?_⟩
    rintro i m σ1 H1 ⟨rfl, hi, a, F1, c1, g1, s1, ha, hr⟩
    obtain ⟨hgo, hstop, hy⟩ := hs F1 c1 H1 g1 s1
    by_cases hlt : i < xs.length
    · rw [List.drop_eq_getElem_cons hlt] at hr
      obtain ⟨b, hb, hr⟩ := bnd (show (body a xs[i]).bind _ = some r from hr)
      refine .inr ⟨hgo i (by simpa using hlt), fun σ2 H2 => ∃ z F3 c3, b = .nx z ∧ Gr F2 F3 ∧ Sta F3 c3 H2 ∧ st z F3 σ2 c3, fun σ' H' ⟨z, F3, c3, e3, g3, s3, h3⟩ => ⟨xs.length - (i + 1), by omega, rfl, hlt, z, F3, c3, g3, s3, h3, by subst e3; exact hr⟩, fun x H' y => ?_⟩
      obtain ⟨F3, g3, s3, d3⟩ := hy i x H' (en xs[i]) (by rw [List.getElem?_map, List.getElem?_eq_getElem hlt]; rfl) y
      refine turn xs[i] a b F1 F3 σ1 c1 H' x _ _ (g2.tr g1) ha g3 s3 d3 hb (fun z F4 σ4 c4 H4 e4 g4 s4 h4 => ⟨z, F4, c4, e4, (g1.tr g3).tr g4, s4, h4⟩) (fun z F4 σ4 c4 H4 e4 g4 s4 h4 => ?_) (fun z e => ?_)
      · subst e4
        exact done z F4 σ4 c4 H4 (.inr (Option.some.inj hr).symm) (((g2.tr g1).tr g3).tr g4) s4 h4
      · subst e
        exact (Option.some.inj hr).symm
    · have e : i = xs.length := by omega
      subst e
      rw [List.drop_length] at hr
      cases hr
      exact .inl ⟨by simpa using hstop, done a F1 σ1 c1 H1 (.inl rfl) (g2.tr g1) s1 ha⟩
/-- a while -/
theorem s_while {S R : Type} {tc : TT} {tb : TS} (st : S → Hp → St → Cs → Prop) {c : S → Option Bool} {body : S → Option (Fl S R)} {s0 : S} {r : Fl S R} {n : Nat}
    (s : Sta F cs H) (h0 : st s0 F σ cs) (hm : whileF c body n s0 = some r)
    (done : ∀ z F1 σ1 c1 H1, r = .nx z ∨ r = .br z → Gr F F1 → Sta F1 c1 H1 → st z F1 σ1 c1 → nx σ1 H1)
    (test : ∀ z k F1 σ1 c1, Gr F F1 → st z F1 σ1 c1 → c z = some k → EvT tc σ1 F1 c1 k c1) (mono : ∀ z F1 F2 σ1 c1, st z F1 σ1 c1 → Gr F1 F2 → st z F2 σ1 c1)
    (turn : ∀ a b F1 σ1 c1 H1 (N B : St → Hp → Prop), Gr F F1 → st a F1 σ1 c1 → Sta F1 c1 H1 → body a = some b → (∀ z F4 σ4 c4 H4, b = .nx z → Gr F1 F4 → Sta F4 c4 H4 → st z F4 σ4 c4 → N σ4 H4) →
      (∀ z F4 σ4 c4 H4, b = .br z → Gr F1 F4 → Sta F4 c4 H4 → st z F4 σ4 c4 → B σ4 H4) → (∀ z, b = .rt z → r = .rt z) →
      tb ⟨N, rt, B, N⟩ σ1 H1) : tWhile tc tb ⟨nx, rt, bk, ct⟩ σ H := by
  refine ⟨fun m σ1 H1 => ∃ a F1 c1, Gr F F1 ∧ Sta F1 c1 H1 ∧ st a F1 σ1 c1 ∧ whileF c body m a = some r, ⟨n, s0, F, cs, .rfl, s, h0, hm⟩, ?_⟩
  rintro m σ1 H1 ⟨a, F1, c1, g1, s1, ha, hr⟩
  cases m with
  | zero => cases hr
  | succ m =>
    obtain ⟨k, hk, hr⟩ := bnd (show (c a).bind _ = some r from hr)
    refine test a k F1 σ1 c1 g1 ha hk F1 H1 .rfl s1 _ fun F2 H2 g2 s2 => ?_
    cases k with
    | false =>
      cases hr
      exact done a F2 σ1 c1 H2 (.inl rfl) (g1.tr g2) s2 (mono a F1 F2 σ1 c1 ha g2)
    | true =>
      obtain ⟨b, hb, hr⟩ := bnd (show (body a).bind _ = some r from hr)
      refine ⟨fun σ2 H2 => ∃ z F3 c3, b = .nx z ∧ Gr F F3 ∧ Sta F3 c3 H2 ∧ st z F3 σ2 c3, fun σ' H' ⟨z, F3, c3, e3, g3, s3, h3⟩ => ⟨m, Nat.lt_succ_self m, z, F3, c3, g3, s3, h3, by subst e3; exact hr⟩, ?_⟩
      refine turn a b F2 σ1 c1 H2 _ _ (g1.tr g2) (mono a F1 F2 σ1 c1 ha g2) s2 hb (fun z F4 σ4 c4 H4 e4 g4 s4 h4 => ⟨z, F4, c4, e4, (g1.tr g2).tr g4, s4, h4⟩) (fun z F4 σ4 c4 H4 e4 g4 s4 h4 => ?_) (fun z e => ?_)
      · subst e4
        exact done z F4 σ4 c4 H4 (.inr (Option.some.inj hr).symm) ((g1.tr g2).tr g4) s4 h4
      · subst e
        exact (Option.some.inj hr).symm
/-! list comprehensions, whose elements change nothing -/
theorem c_lc {α β : Type} {wi : TI} {g : TG} {tt : TT} {vs : List Nat} {xs : List α} {en : α → PyData} {em : β → PyData} {f : α → Option (Option β)} {ys : List β}
    (hi : EvI K wi σ F cs (xs.map en) cs1) (hm : lcM f xs = some ys) (hl : xs.length ≤ 100000)
    (turn : ∀ x o v F1 p us, Gr F F1 → Dt K F1 v (en x) → f x = some o → ∃ σ2 : St, (∀ H (Q : St → Hp → Prop), Sta F1 ((p, .lst us) :: cs1) H → Q σ2 H → g v (wipe σ vs) H Q) ∧ wipe σ2 vs = wipe σ vs ∧
      EvT tt σ2 F1 ((p, .lst us) :: cs1) o.isSome ((p, .lst us) :: cs1) ∧ ∀ y, o = some y → EvD K te σ2 F1 ((p, .lst us) :: cs1) (em y) ((p, .lst us) :: cs1)) :
    EvC K (tLc wi g tt te vs) σ F cs (ys.map em) cs1 := fun F1 H1 g1 s Q q =>
  hi F1 H1 g1 s _ fun J F2 H2 g2 s2 hs => by
    intro p hp
    have s3 : Sta F2 ((p, .lst []) :: cs1) (upd H2 p (.lst [])) := s2.cell hp
    refine ⟨fun i m H4 => m = xs.length - i ∧ i ≤ xs.length ∧ ∃ us done rest F4, us.length ≤ i ∧ Gr F2 F4 ∧ Sta F4 ((p, .lst us) :: cs1) H4 ∧ Dts K F4 us (done.map em) ∧ lcM f (xs.drop i) = some rest ∧ done ++ rest = ys,
      ⟨xs.length, by simp, Nat.zero_le _, [], [], ys, F2, Nat.le_refl _, .rfl, s3, .nil, by simpa using hm, rfl⟩, ?_⟩
    rintro i m H4 ⟨rfl, hi, us, done, rest, F4, hu, g4, s4, hd, hr, he⟩
    obtain ⟨hgo, hstop, hy⟩ := hs F4 _ H4 g4 s4
    by_cases hlt : i < xs.length
    · rw [List.drop_eq_getElem_cons hlt] at hr
      obtain ⟨o, ho, hr⟩ := bnd (show (f xs[i]).bind _ = some rest from hr)
      obtain ⟨zs, hz, hr⟩ := bnd hr
      refine .inr ⟨hgo i (by simpa using hlt), fun H' => i + 1 ≤ xs.length ∧ ∃ us done rest F4, us.length ≤ i + 1 ∧ Gr F2 F4 ∧ Sta F4 ((p, .lst us) :: cs1) H' ∧ Dts K F4 us (done.map em) ∧ lcM f (xs.drop (i + 1)) = some rest ∧ done ++ rest = ys, fun H' h' => ⟨xs.length - (i + 1), by omega, rfl, h'⟩, fun x H' y => ?_⟩
      obtain ⟨F5, g5, s5, d5⟩ := hy i x H' (en xs[i]) (by rw [List.getElem?_map, List.getElem?_eq_getElem hlt]; rfl) y
      obtain ⟨σ2, h1, h2, h3, h4⟩ := turn xs[i] o x F5 p us (g1.tr (g2.tr (g4.tr g5))) d5 ho
      refine h1 H' _ s5 ⟨h2, h3 F5 H' .rfl s5 _ fun F6 H6 g6 s6 => ?_⟩
      cases o with
      | none =>
        cases hr
        exact ⟨hlt, us, done, zs, F6, Nat.le_succ_of_le hu, g4.tr (g5.tr g6), s6, hd.gr (g5.tr g6), hz, he⟩
      | some z =>
        cases hr
        refine (h4 z rfl) F6 H6 g6 s6 _ fun v F7 H7 g7 s7 hv => ⟨us, s7.at List.mem_cons_self, szl (by omega), hlt, us ++ [v], done ++ [z], zs, F7, by rw [List.length_append]; exact Nat.succ_le_succ hu, g4.tr (g5.tr (g6.tr g7)), s7.put, ?_, hz, ?_⟩
        · rw [List.map_append]
          exact (hd.gr (g5.tr (g6.tr g7))).app (.cons hv .nil)
        · rw [List.append_assoc]; exact he
    · have e : i = xs.length := by omega
      subst e
      rw [List.drop_length] at hr
      cases hr
      rw [List.append_nil] at he
      subst he
      exact .inl ⟨by simpa using hstop, q p us F4 H4 (g2.tr g4) s4 hd⟩
theorem t_yes : EvT tYes σ F cs true cs := fun F1 H1 g s Q q => q F1 H1 .rfl s
/-! functions -/
def spP (K : PySem.W.Frag) {α β : Type} (A : α → List PyData) (B : β → PyData) (f : α → Option β) : Sp := fun vs H Q _ => ∃ F cs x y, Dts K F vs (A x) ∧ Sta F cs H ∧ f x = some y ∧ ∀ v F2 H2, Gr F F2 → Sta F2 cs H2 → Dt K F2 v (B y) → Q v H2
theorem d_call {α β : Type} {A : α → List PyData} {B : β → PyData} {f : α → Option β} {x : α} {y : β} {E : XK} (h : EvDs K as σ F cs (A x) cs1) (hf : f x = some y) : EvD K (tCall (spP K A B f) [] E as) σ F cs (B y) cs1 := fun F1 H1 g1 s Q q =>
  h F1 H1 g1 s _ fun vs F2 H2 g2 s2 h2 => ⟨F2, cs1, x, y, by rw [List.append_nil]; exact h2, s2, hf, fun v F3 H3 g3 s3 h3 => q v F3 H3 (g2.tr g3) s3 h3⟩
end
/-! == of typed data -/
def EqE {α : Type} [DecidableEq α] (e : α → PyData) : Prop := ∀ x y, PyData.eqv (e x) (e y) = decide (x = y)
def ShE {α : Type} (n : Nat) (e : α → PyData) : Prop := ∀ x, (e x).canLay0 = true ∧ (e x).depth ≤ n
theorem shp {α : Type} {n : Nat} {e : α → PyData} (h : ShE n e) (hn : n ≤ 64) (x : α) : SeqAt.shaped (e x) = true := by
  unfold SeqAt.shaped
  rw [(h x).1, decide_eq_true (Nat.le_trans (h x).2 hn)]
  rfl
theorem beq_dec {α : Type} [BEq α] [LawfulBEq α] [DecidableEq α] (x y : α) : (x == y) = decide (x = y) := by
  rw [Bool.eq_iff_iff]; simp
theorem eqE_I : EqE eI := fun x y => by simp only [PyData.eqv]; exact beq_dec x y
theorem eqE_B : EqE eB := fun x y => by simp only [PyData.eqv]; exact beq_dec x y
theorem eqE_S : EqE eS := fun x y => by simp only [PyData.eqv]; exact beq_dec x y
theorem eqE_N : EqE eN := fun x y => by simp [PyData.eqv]
theorem eqAll_map {α : Type} [DecidableEq α] {e : α → PyData} (h : EqE e) : ∀ xs ys : List α, PyData.eqvAll (xs.map e) (ys.map e) = decide (xs = ys)
  | [], [] => by simp [PyData.eqvAll]
  | [], _ :: _ => by simp [PyData.eqvAll]
  | _ :: _, [] => by simp [PyData.eqvAll]
  | x :: xs, y :: ys => by
    simp only [List.map_cons, PyData.eqvAll]
    rw [h x y, eqAll_map h xs ys, Bool.eq_iff_iff]
    simp
theorem EqE.l {α : Type} [DecidableEq α] {e : α → PyData} (h : EqE e) : EqE (eL e) := fun xs ys => by
  show PyData.eqv (.list _) (.list _) = _
  simp only [PyData.eqv]
  exact eqAll_map h xs ys
theorem EqE.t2 {α β : Type} [DecidableEq α] [DecidableEq β] {e : α → PyData} {f : β → PyData} (h : EqE e) (k : EqE f) : EqE (eT2 e f) := fun x y => by
  show PyData.eqv (.tuple _) (.tuple _) = _
  simp only [PyData.eqv, PyData.eqvAll]
  rw [h, k, Bool.eq_iff_iff]
  obtain ⟨x1, x2⟩ := x; obtain ⟨y1, y2⟩ := y
  simp
theorem EqE.t3 {α β γ : Type} [DecidableEq α] [DecidableEq β] [DecidableEq γ] {e : α → PyData} {f : β → PyData} {g : γ → PyData} (h : EqE e) (k : EqE f) (l : EqE g) : EqE (eT3 e f g) := fun x y => by
  show PyData.eqv (.tuple _) (.tuple _) = _
  simp only [PyData.eqv, PyData.eqvAll]
  rw [h, k, l, Bool.eq_iff_iff]
  obtain ⟨x1, x2, x3⟩ := x; obtain ⟨y1, y2, y3⟩ := y
  simp
theorem EqE.t4 {α β γ δ : Type} [DecidableEq α] [DecidableEq β] [DecidableEq γ] [DecidableEq δ] {e : α → PyData} {f : β → PyData} {g : γ → PyData} {m : δ → PyData} (h : EqE e) (k : EqE f) (l : EqE g) (n : EqE m) : EqE (eT4 e f g m) := fun x y => by
  show PyData.eqv (.tuple _) (.tuple _) = _
  simp only [PyData.eqv, PyData.eqvAll]
  rw [h, k, l, n, Bool.eq_iff_iff]
  obtain ⟨x1, x2, x3, x4⟩ := x; obtain ⟨y1, y2, y3, y4⟩ := y
  simp
theorem sh_I : ShE 0 eI := fun x => ⟨by simp [PyData.canLay0], by simp [PyData.depth]⟩
theorem sh_B : ShE 0 eB := fun x => ⟨by simp [PyData.canLay0], by simp [PyData.depth]⟩
theorem sh_N : ShE 0 eN := fun x => ⟨by simp [PyData.canLay0], by simp [PyData.depth]⟩
theorem sh_all {α : Type} {n : Nat} {e : α → PyData} (h : ShE n e) : ∀ xs : List α, PyData.canLayAll0 (xs.map e) = true ∧ PyData.depthAll (xs.map e) ≤ n
  | [] => ⟨by simp [PyData.canLayAll0], by simp [PyData.depthAll]⟩
  | x :: xs => by
    obtain ⟨h1, h2⟩ := sh_all h xs
    simp only [List.map_cons, PyData.canLayAll0, PyData.depthAll]
    exact ⟨by rw [(h x).1, h1]; rfl, Nat.max_le.mpr ⟨(h x).2, h2⟩⟩
theorem ShE.l {α : Type} {n : Nat} {e : α → PyData} (h : ShE n e) : ShE (n + 1) (eL e) := fun xs => by
  show (PyData.list _).canLay0 = true ∧ (PyData.list _).depth ≤ _
  simp only [PyData.canLay0, PyData.depth]
  exact ⟨(sh_all h xs).1, Nat.succ_le_succ (sh_all h xs).2⟩
theorem ShE.t2 {α β : Type} {n m : Nat} {e : α → PyData} {f : β → PyData} (h : ShE n e) (k : ShE m f) : ShE (max n m + 1) (eT2 e f) := fun x => by
  show (PyData.tuple _).canLay0 = true ∧ (PyData.tuple _).depth ≤ _
  simp only [PyData.canLay0, PyData.depth, PyData.canLayAll0, PyData.depthAll]
  have := (h x.1).2; have := (k x.2).2
  exact ⟨by rw [(h _).1, (k _).1]; rfl, by omega⟩
theorem ShE.t3 {α β γ : Type} {n m l : Nat} {e : α → PyData} {f : β → PyData} {g : γ → PyData} (h : ShE n e) (k : ShE m f) (j : ShE l g) : ShE (max n (max m l) + 1) (eT3 e f g) := fun x => by
  show (PyData.tuple _).canLay0 = true ∧ (PyData.tuple _).depth ≤ _
  simp only [PyData.canLay0, PyData.depth, PyData.canLayAll0, PyData.depthAll]
  have := (h x.1).2; have := (k x.2.1).2; have := (j x.2.2).2
  exact ⟨by rw [(h _).1, (k _).1, (j _).1]; rfl, by omega⟩
theorem ShE.t4 {α β γ δ : Type} {n m l i : Nat} {e : α → PyData} {f : β → PyData} {g : γ → PyData} {z : δ → PyData} (h : ShE n e) (k : ShE m f) (j : ShE l g) (p : ShE i z) : ShE (max n (max m (max l i)) + 1) (eT4 e f g z) := fun x => by
  show (PyData.tuple _).canLay0 = true ∧ (PyData.tuple _).depth ≤ _
  simp only [PyData.canLay0, PyData.depth, PyData.canLayAll0, PyData.depthAll]
  have := (h x.1).2; have := (k x.2.1).2; have := (j x.2.2.1).2; have := (p x.2.2.2).2
  exact ⟨by rw [(h _).1, (k _).1, (j _).1, (p _).1]; rfl, by omega⟩
section
variable {K : PySem.W.Frag} {σ : St} {F F' : Hp} {cs cs1 cs2 cs3 : Cs} {ta tb tc te : TE}
theorem d_eqT {α : Type} [DecidableEq α] {n : Nat} {e : α → PyData} {x y : α} (he : EqE e) (hs : ShE n e) (hn : n ≤ 64) (ha : EvD K ta σ F cs (e x) cs1) (hb : EvD K tb σ F cs1 (e y) cs2) : EvD K (tOp (rEqD K) ta tb) σ F cs (.bool (decide (x = y))) cs2 :=
  he x y ▸ d_eqD ha hb (shp hs hn x) (shp hs hn y)
theorem d_neT {α : Type} [DecidableEq α] {n : Nat} {e : α → PyData} {x y : α} (he : EqE e) (hs : ShE n e) (hn : n ≤ 64) (ha : EvD K ta σ F cs (e x) cs1) (hb : EvD K tb σ F cs1 (e y) cs2) : EvD K (tOp (rNeD K) ta tb) σ F cs (.bool (!decide (x = y))) cs2 :=
  he x y ▸ d_neD ha hb (shp hs hn x) (shp hs hn y)
def eqTM {α : Type} [DecidableEq α] (e : α → PyData) (x y : α) : Option Bool := if SeqAt.shaped (e x) = true ∧ SeqAt.shaped (e y) = true then some (decide (x = y)) else none
def eqDM (x y : PyData) : Option Bool := if SeqAt.shaped x = true ∧ SeqAt.shaped y = true then some (PyData.eqv x y) else none
theorem d_eqTM {α : Type} [DecidableEq α] {e : α → PyData} {x y : α} {b : Bool} (he : EqE e) (ha : EvD K ta σ F cs (e x) cs1) (hb : EvD K tb σ F cs1 (e y) cs2) (hm : eqTM e x y = some b) : EvD K (tOp (rEqD K) ta tb) σ F cs (.bool b) cs2 := by
  unfold eqTM at hm; split at hm
  · rename_i h; cases hm; exact he x y ▸ d_eqD ha hb h.1 h.2
  · cases hm
theorem d_neTM {α : Type} [DecidableEq α] {e : α → PyData} {x y : α} {b : Bool} (he : EqE e) (ha : EvD K ta σ F cs (e x) cs1) (hb : EvD K tb σ F cs1 (e y) cs2) (hm : eqTM e x y = some b) : EvD K (tOp (rNeD K) ta tb) σ F cs (.bool (!b)) cs2 := by
  unfold eqTM at hm; split at hm
  · rename_i h; cases hm; exact he x y ▸ d_neD ha hb h.1 h.2
  · cases hm
theorem d_eqDM {x y : PyData} {b : Bool} (ha : EvD K ta σ F cs x cs1) (hb : EvD K tb σ F cs1 y cs2) (hm : eqDM x y = some b) : EvD K (tOp (rEqD K) ta tb) σ F cs (.bool b) cs2 := by
  unfold eqDM at hm; split at hm
  · rename_i h; cases hm; exact d_eqD ha hb h.1 h.2
  · cases hm
theorem d_neDM {x y : PyData} {b : Bool} (ha : EvD K ta σ F cs x cs1) (hb : EvD K tb σ F cs1 y cs2) (hm : eqDM x y = some b) : EvD K (tOp (rNeD K) ta tb) σ F cs (.bool (!b)) cs2 := by
  unfold eqDM at hm; split at hm
  · rename_i h; cases hm; exact d_neD ha hb h.1 h.2
  · cases hm
end
end Bw

namespace Bw
open PySem L2
/-! names for readings -/
abbrev rAbs : List V → Hp → VK → Prop := fun xs H Q => ∃ i, xs = [.int i] ∧ Q (.int (if i < 0 then -i else i)) H
abbrev rMax2 : List V → Hp → VK → Prop := fun xs H Q => ∃ i j, xs = [.int i, .int j] ∧ Q (.int (if j > i then j else i)) H
abbrev rMin2 : List V → Hp → VK → Prop := fun xs H Q => ∃ i j, xs = [.int i, .int j] ∧ Q (.int (if j < i then j else i)) H
abbrev rLenL (K : PySem.W.Frag) : List V → Hp → VK → Prop := fun xs H Q => ∃ p ys, xs = [.ref p] ∧ (SqL K H p ys ∨ SqT K H p ys) ∧ Q (.int ys.length) H
abbrev rLenS : List V → Hp → VK → Prop := fun xs H Q => ∃ z, xs = [.str z] ∧ z.length ≤ sizeLine ∧ Q (.int z.length) H
abbrev rInt : List V → Hp → VK → Prop := fun xs H Q => (∃ i, xs = [.int i] ∧ Q (.int i) H) ∨ ∃ k, xs = [.bl k] ∧ Q (.int (if k then 1 else 0)) H
abbrev rStrI : List V → Hp → VK → Prop := fun xs H Q => ∃ i, xs = [.int i] ∧ i.natAbs.log2 < 1920 ∧ Q (.str (toString i)) H
abbrev rListS (K : PySem.W.Frag) : List V → Hp → VK → Prop := fun xs H Q => ∃ p ys, xs = [.ref p] ∧ (SqL K H p ys ∨ SqT K H p ys) ∧ ∀ l, H l = none → Q (.ref l) (upd H l (.lst ys))
abbrev rScat : R2 := fun x y H Q => ∃ i j, x = .str i ∧ y = .str j ∧ i.length + j.length ≤ sizeLine ∧ Q (.str (i ++ j)) H
abbrev rInS : R2 := fun x y H Q => ∃ i j, x = .str i ∧ y = .str j ∧ Q (.bl (!(Builtin.Str.occurrences j i 0 j.length 1).isEmpty)) H
abbrev rNinS : R2 := fun x y H Q => ∃ i j, x = .str i ∧ y = .str j ∧ Q (.bl (!(!(Builtin.Str.occurrences j i 0 j.length 1).isEmpty))) H
abbrev rIsN : R2 := fun x y H Q => y = .non ∧ Q (.bl (decide (x = .non))) H
abbrev rNotN : R2 := fun x y H Q => y = .non ∧ Q (.bl (!decide (x = .non))) H
abbrev rJoin (K : PySem.W.Frag) : V → List V → Hp → VK → Prop := fun x xs H Q => ∃ a p, ∃ ys : List Str, x = .str a ∧ xs = [.ref p] ∧ (SqL K H p (ys.map V.str) ∨ SqT K H p (ys.map V.str)) ∧ (ys.map (·.length)).sum + ys.length * a.length ≤ 16777216 ∧ Q (.str (Txt.join a ys)) H
section
variable {X : Cx}
theorem cr_abs : CallR X (.builtin "abs") rAbs := call_abs
theorem cr_max2 (hc : X.calm = true) : CallR X (.builtin "max") rMax2 := call_max2 hc
theorem cr_min2 (hc : X.calm = true) : CallR X (.builtin "min") rMin2 := call_min2 hc
theorem cr_lenL : CallR X (.builtin "len") (rLenL X.K) := call_len_seq
theorem cr_lenS : CallR X (.builtin "len") rLenS := call_len_str
theorem cr_int : CallR X (.type "int") rInt := call_int1
theorem cr_str : CallR X (.type "str") rStrI := call_str_int
theorem cr_list : CallR X (.type "list") (rListS X.K) := call_list_of
theorem op_scatR : OpR X (binaryOp .Add) rScat := op_add_str
theorem op_inR : OpR X (compareOp .In) rInS := op_in_str
theorem op_ninR : OpR X (compareOp .NotIn) rNinS := op_notin_str
theorem op_isNR : OpR X (compareOp .Is) rIsN := op_isN
theorem op_notNR : OpR X (compareOp .IsNot) rNotN := op_notN
end
theorem bf {b : Bool} (h : b = false) : ¬ b = true := by rw [h]; decide
theorem bt {b : Bool} (h : ¬ b = true) : b = false := by cases b <;> simp_all
theorem isS {α : Type} {c : Bool} {a : α} : (if c = true then some a else none : Option α).isSome = c := by cases c <;> rfl
theorem isSm {α : Type} {c : Bool} {a y : α} (h : (if c = true then some a else none : Option α) = some y) : a = y := by
  cases c with
  | true => exact Option.some.inj h
  | false => cases h
theorem pr2 {α β : Type} {a a' : α} {b b' : β} (h : (a, b) = (a', b')) : a = a' ∧ b = b' := by cases h; exact ⟨rfl, rfl⟩
theorem pr3 {α β γ : Type} {a a' : α} {b b' : β} {c c' : γ} (h : (a, b, c) = (a', b', c')) : a = a' ∧ b = b' ∧ c = c' := by cases h; exact ⟨rfl, rfl, rfl⟩
theorem pr4 {α β γ δ : Type} {a a' : α} {b b' : β} {c c' : γ} {d d' : δ} (h : (a, b, c, d) = (a', b', c', d')) : a = a' ∧ b = b' ∧ c = c' ∧ d = d' := by cases h; exact ⟨rfl, rfl, rfl, rfl⟩
theorem pr5 {α β γ δ ε : Type} {a a' : α} {b b' : β} {c c' : γ} {d d' : δ} {e e' : ε} (h : (a, b, c, d, e) = (a', b', c', d', e')) : a = a' ∧ b = b' ∧ c = c' ∧ d = d' ∧ e = e' := by cases h; exact ⟨rfl, rfl, rfl, rfl, rfl⟩
theorem dt_oI {K : PySem.W.Frag} {F : Hp} (o : Option Int) : Dt K F (oV V.int o) (eO eI o) := by cases o with
  | none => exact .non
  | some x => exact .int x
theorem dt_oS {K : PySem.W.Frag} {F : Hp} (o : Option Str) : Dt K F (oV V.str o) (eO eS o) := by cases o with
  | none => exact .non
  | some x => exact .str x
theorem dt_toI {K : PySem.W.Frag} {F : Hp} {v : V} {o : Option Int} (h : Dt K F v (eO eI o)) : v = oV V.int o := by cases o with
  | none => exact h.toNon
  | some x => exact h.toInt
theorem dt_toS {K : PySem.W.Frag} {F : Hp} {v : V} {o : Option Str} (h : Dt K F v (eO eS o)) : v = oV V.str o := by cases o with
  | none => exact h.toNon
  | some x => exact h.toStr
def mapC {α β : Type} (f : α → β) (xs : List α) : Option (List β) := if xs.length ≤ 100000 then some (xs.map f) else none
def filC {α β : Type} (p : α → Bool) (f : α → β) (xs : List α) : Option (List β) := if xs.length ≤ 100000 then some ((xs.filter p).map f) else none
def lcC {α β : Type} (f : α → Option (Option β)) (xs : List α) : Option (List β) := if xs.length ≤ 100000 then lcM f xs else none
section
variable {K : PySem.W.Frag} {σ : St} {F F' : Hp} {cs cs1 cs2 cs3 : Cs} {ta tb tc te : TE} {d e : PyData} {as : TA} {a b c : Int} {nx bk ct : St → Hp → Prop} {rt : VK} {H : Hp} {t u : TS}
theorem d_mulC (ha : EvD K ta σ F cs (.int a) cs1) (hb : EvD K tb σ F cs1 (.int b) cs2) (hc : CMul a b) : EvD K (tOp (rI CMul fun i j => .int (i * j)) ta tb) σ F cs (.int (a * b)) cs2 := d_I ha hb hc fun _ => .int _
theorem d_modC (ha : EvD K ta σ F cs (.int a) cs1) (hb : EvD K tb σ F cs1 (.int b) cs2) (hc : 0 < b) : EvD K (tOp (rI (fun _ j => 0 < j) fun i j => .int (i % j)) ta tb) σ F cs (.int (a % b)) cs2 := d_I (C := fun _ j => 0 < j) ha hb hc fun _ => .int _
theorem d_fdivC (ha : EvD K ta σ F cs (.int a) cs1) (hb : EvD K tb σ F cs1 (.int b) cs2) (hc : CDiv a b) : EvD K (tOp (rI CDiv fun i j => .int (i / j)) ta tb) σ F cs (.int (a / b)) cs2 := d_I ha hb hc fun _ => .int _
theorem d_powC (ha : EvD K ta σ F cs (.int a) cs1) (hb : EvD K tb σ F cs1 (.int b) cs2) (hc : CPow a b) : EvD K (tOp (rI CPow fun i j => .int (i ^ j.toNat)) ta tb) σ F cs (.int (a ^ b.toNat)) cs2 := d_I ha hb hc fun _ => .int _
theorem d_chain {g g' : Int → Int → Bool} (ha : EvD K ta σ F cs (.int a) cs1) (hb : EvD K tb σ F cs1 (.int b) cs2) (hc : EvD K tc σ F cs2 (.int c) cs2) : EvD K (tChain (rI0 fun i j => .bl (g i j)) (rI0 fun i j => .bl (g' i j)) ta tb tc) σ F cs (.bool (g a b && g' b c)) cs2 := fun F1 H1 g1 s Q q =>
  ha F1 H1 g1 s _ fun v F2 H2 g2 s2 h2 => hb F2 H2 (g1.tr g2) s2 _ fun w F3 H3 g3 s3 h3 => by
    cases h2.toInt; cases h3.toInt
    refine ⟨a, b, rfl, rfl, g a b, rfl, ?_⟩
    cases e : g a b with
    | true => exact hc F3 H3 ((g1.tr g2).tr g3) s3 _ fun z F4 H4 g4 s4 h4 => ⟨b, c, rfl, h4.toInt, q _ F4 H4 ((g2.tr g3).tr g4) s4 (by rw [e, Bool.true_and]; exact .bl _)⟩
    | false => exact q _ F3 H3 (g2.tr g3) s3 (by rw [e, Bool.false_and]; exact .bl _)
theorem t_andP {t u : TT} {a b : Bool} (h1 : EvT t σ F cs a cs1) (h2 : a = true → EvT u σ F cs1 b cs1) : EvT (tAnd t u) σ F cs (a && b) cs1 := t_and h1 h2 (fun h => by rw [h, Bool.true_and]) (fun h => by rw [h, Bool.false_and])
theorem t_orP {t u : TT} {a b : Bool} (h1 : EvT t σ F cs a cs1) (h2 : a = false → EvT u σ F cs1 b cs1) : EvT (tOr t u) σ F cs (a || b) cs1 := t_or h1 h2 (fun h => by rw [h, Bool.false_or]) (fun h => by rw [h, Bool.true_or])
theorem t_andM {t u : TT} {a r : Bool} (h1 : EvT t σ F cs a cs1) (h2 : a = true → EvT u σ F cs1 r cs1) (h4 : a = false → r = false) : EvT (tAnd t u) σ F cs r cs1 := t_and h1 h2 (fun _ => rfl) h4
theorem t_orM {t u : TT} {a r : Bool} (h1 : EvT t σ F cs a cs1) (h2 : a = false → EvT u σ F cs1 r cs1) (h4 : a = true → r = true) : EvT (tOr t u) σ F cs r cs1 := t_or h1 h2 (fun _ => rfl) h4
theorem d_andP {a b : Bool} (h1 : EvD K ta σ F cs (.bool a) cs1) (h2 : a = true → EvD K tb σ F cs1 (.bool b) cs1) : EvD K (tAndV ta tb) σ F cs (.bool (a && b)) cs1 := d_andV h1 h2 (fun h => by rw [h, Bool.true_and]) (fun h => by rw [h, Bool.false_and])
theorem d_orP {a b : Bool} (h1 : EvD K ta σ F cs (.bool a) cs1) (h2 : a = false → EvD K tb σ F cs1 (.bool b) cs1) : EvD K (tOrV ta tb) σ F cs (.bool (a || b)) cs1 := d_orV h1 h2 (fun h => by rw [h, Bool.false_or]) (fun h => by rw [h, Bool.true_or])
theorem d_andM {a r : Bool} (h1 : EvD K ta σ F cs (.bool a) cs1) (h2 : a = true → EvD K tb σ F cs1 (.bool r) cs1) (h4 : a = false → r = false) : EvD K (tAndV ta tb) σ F cs (.bool r) cs1 := d_andV h1 h2 (fun _ => rfl) h4
theorem d_orM {a r : Bool} (h1 : EvD K ta σ F cs (.bool a) cs1) (h2 : a = false → EvD K tb σ F cs1 (.bool r) cs1) (h4 : a = true → r = true) : EvD K (tOrV ta tb) σ F cs (.bool r) cs1 := d_orV h1 h2 (fun _ => rfl) h4
theorem d_join {x z : Str} {xs : List Str} (ha : EvD K ta σ F cs (.str x) cs1) (hb : EvD K tb σ F cs1 (eL eS xs) cs2) (hz : joinM x xs = some z) : EvD K (tM1 (rJoin K) ta tb) σ F cs (.str z) cs2 := fun F1 H1 g1 s Q q =>
  ha F1 H1 g1 s _ fun v F2 H2 g2 s2 h2 => ⟨⟨x, h2.toStr⟩, hb F2 H2 (g1.tr g2) s2 _ fun w F3 H3 g3 s3 h3 => by
    obtain ⟨p, vs, rfl, hl, hd⟩ := h3.toLst
    cases hd.strs
    unfold joinM at hz; split at hz
    · rename_i h; cases hz
      refine ⟨x, p, xs, h2.toStr, rfl, .inl (gr_L s3.fr hl), ?_, q _ F3 H3 (g2.tr g3) s3 (.str _)⟩
      rw [Nat.mul_comm xs.length]
      exact Nat.le_trans h (by decide)
    · cases hz⟩
theorem c_lcC {α β : Type} {wi : TI} {g : TG} {tt : TT} {vs : List Nat} {xs : List α} {en : α → PyData} {em : β → PyData} {f : α → Option (Option β)} {ys : List β}
    (hi : EvI K wi σ F cs (xs.map en) cs1) (hm : lcC f xs = some ys)
    (turn : ∀ x o v F1 p us, Gr F F1 → Dt K F1 v (en x) → f x = some o → ∃ σ2 : St, (∀ H (Q : St → Hp → Prop), Sta F1 ((p, .lst us) :: cs1) H → Q σ2 H → g v (wipe σ vs) H Q) ∧ wipe σ2 vs = wipe σ vs ∧
      EvT tt σ2 F1 ((p, .lst us) :: cs1) o.isSome ((p, .lst us) :: cs1) ∧ ∀ y, o = some y → EvD K te σ2 F1 ((p, .lst us) :: cs1) (em y) ((p, .lst us) :: cs1)) :
    EvC K (tLc wi g tt te vs) σ F cs (ys.map em) cs1 := by
  unfold lcC at hm; split at hm
  · rename_i h; exact c_lc hi hm h turn
  · cases hm
theorem c_mapC {α β : Type} {wi : TI} {g : TG} {tt : TT} {vs : List Nat} {xs : List α} {en : α → PyData} {em : β → PyData} {f : α → β} {ys : List β}
    (hi : EvI K wi σ F cs (xs.map en) cs1) (hm : mapC f xs = some ys)
    (turn : ∀ x o v F1 p us, Gr F F1 → Dt K F1 v (en x) → some (some (f x)) = some o → ∃ σ2 : St, (∀ H (Q : St → Hp → Prop), Sta F1 ((p, .lst us) :: cs1) H → Q σ2 H → g v (wipe σ vs) H Q) ∧ wipe σ2 vs = wipe σ vs ∧
      EvT tt σ2 F1 ((p, .lst us) :: cs1) o.isSome ((p, .lst us) :: cs1) ∧ ∀ y, o = some y → EvD K te σ2 F1 ((p, .lst us) :: cs1) (em y) ((p, .lst us) :: cs1)) :
    EvC K (tLc wi g tt te vs) σ F cs (ys.map em) cs1 := by
  unfold mapC at hm; split at hm
  · rename_i h; cases hm; exact c_lc (f := fun x => some (some (f x))) hi (lcM_map f xs) h turn
  · cases hm
theorem c_filC {α β : Type} {wi : TI} {g : TG} {tt : TT} {vs : List Nat} {xs : List α} {en : α → PyData} {em : β → PyData} {p : α → Bool} {f : α → β} {ys : List β}
    (hi : EvI K wi σ F cs (xs.map en) cs1) (hm : filC p f xs = some ys)
    (turn : ∀ x o v F1 p' us, Gr F F1 → Dt K F1 v (en x) → some (if p x = true then some (f x) else none) = some o → ∃ σ2 : St, (∀ H (Q : St → Hp → Prop), Sta F1 ((p', .lst us) :: cs1) H → Q σ2 H → g v (wipe σ vs) H Q) ∧ wipe σ2 vs = wipe σ vs ∧
      EvT tt σ2 F1 ((p', .lst us) :: cs1) o.isSome ((p', .lst us) :: cs1) ∧ ∀ y, o = some y → EvD K te σ2 F1 ((p', .lst us) :: cs1) (em y) ((p', .lst us) :: cs1)) :
    EvC K (tLc wi g tt te vs) σ F cs (ys.map em) cs1 := by
  unfold filC at hm; split at hm
  · rename_i h; cases hm; exact c_lc (f := fun x => some (if p x = true then some (f x) else none)) hi (lcM_filter p f xs) h turn
  · cases hm
theorem nxt (h : nx σ H) : tNext ⟨nx, rt, bk, ct⟩ σ H := h
theorem tg {g : TG} {v : V} {σ' : St} {Q : St → Hp → Prop} (h1 : ∀ Q : St → Hp → Prop, Q σ' H → g v σ H Q) (h2 : Q σ' H) : g v σ H Q := h1 Q h2
theorem s_asg {g : TG} (s : Sta F cs H) (h : EvD K te σ F cs d cs1) (q : ∀ v F2 H2, Gr F F2 → Sta F2 cs1 H2 → Dt K F2 v d → g v σ H2 nx) : tAsg te g ⟨nx, rt, bk, ct⟩ σ H := h F H .rfl s _ q
theorem s_ifJ {c : TT} {b : Bool} (J : St → Hp → Prop) (s : Sta F cs H) (h : EvT c σ F cs b cs1) (rest : ∀ σ' H', J σ' H' → nx σ' H') (qt : (∀ σ' H', J σ' H' → nx σ' H') → b = true → ∀ F2 H2, Gr F F2 → Sta F2 cs1 H2 → t ⟨nx, rt, bk, ct⟩ σ H2)
    (qf : (∀ σ' H', J σ' H' → nx σ' H') → b = false → ∀ F2 H2, Gr F F2 → Sta F2 cs1 H2 → u ⟨nx, rt, bk, ct⟩ σ H2) : tIfS c t u ⟨nx, rt, bk, ct⟩ σ H := s_if s h (qt rest) (qf rest)
theorem s_appF {α : Type} {vf : α → V} {en : α → PyData} {l1 l2 : Cs} {i : Nat} {p : Addr} {xs ys : List α} {x : α} (hw : ∀ F v x, Dt K F v (en x) → v = vf x) (s : Sta F (l1 ++ (p, .lst (xs.map vf)) :: l2) H) (hi : σ[i]? = some (some (.ref p))) (h : EvD K te σ F (l1 ++ (p, .lst (xs.map vf)) :: l2) (en x) (l1 ++ (p, .lst (xs.map vf)) :: l2)) (hm : appM xs x = some ys)
    (q : ∀ F2 H2, Gr F F2 → Sta F2 (l1 ++ (p, .lst (ys.map vf)) :: l2) H2 → nx σ H2) : tDrop (tBM K "list" rAppend (tVar i) (tCons te tNil)) ⟨nx, rt, bk, ct⟩ σ H := by
  obtain ⟨hl, rfl⟩ := appM_some hm
  refine s_app s hi h (by rw [List.length_map]; exact hl) fun v F2 H2 g2 s2 h2 => q F2 H2 g2 ?_
  cases hw F2 v x h2
  rw [List.map_append]; exact s2
theorem s_appG {α : Type} {en : α → PyData} {l1 l2 : Cs} {i : Nat} {p : Addr} {vs : List V} {xs ys : List α} {x : α} (s : Sta F (l1 ++ (p, .lst vs) :: l2) H) (hf : Dts K F vs (xs.map en)) (hi : σ[i]? = some (some (.ref p))) (h : EvD K te σ F (l1 ++ (p, .lst vs) :: l2) (en x) (l1 ++ (p, .lst vs) :: l2)) (hm : appM xs x = some ys)
    (q : ∀ us F2 H2, Gr F F2 → Sta F2 (l1 ++ (p, .lst us) :: l2) H2 → Dts K F2 us (ys.map en) → nx σ H2) : tDrop (tBM K "list" rAppend (tVar i) (tCons te tNil)) ⟨nx, rt, bk, ct⟩ σ H := by
  obtain ⟨hl, rfl⟩ := appM_some hm
  refine s_app s hi h (by rw [hf.len, List.length_map]; exact hl) fun v F2 H2 g2 s2 h2 => q _ F2 H2 g2 s2 ?_
  rw [List.map_append]; exact (hf.gr g2).app (.cons h2 .nil)
theorem s_itemF {α : Type} {vf : α → V} {en : α → PyData} {l1 l2 : Cs} {i : Nat} {p : Addr} {xs ys : List α} {x : α} {ti : TE} {k : Int} (hw : ∀ F v x, Dt K F v (en x) → v = vf x) (s : Sta F (l1 ++ (p, .lst (xs.map vf)) :: l2) H) (hi : σ[i]? = some (some (.ref p))) (h : EvD K te σ F (l1 ++ (p, .lst (xs.map vf)) :: l2) (en x) (l1 ++ (p, .lst (xs.map vf)) :: l2))
    (h2 : EvD K ti σ F (l1 ++ (p, .lst (xs.map vf)) :: l2) (.int k) (l1 ++ (p, .lst (xs.map vf)) :: l2)) (hm : setM xs k x = some ys) (q : ∀ F2 H2, Gr F F2 → Sta F2 (l1 ++ (p, .lst (ys.map vf)) :: l2) H2 → nx σ H2) : tAsg te (gSub (tVar i) ti rSetL) ⟨nx, rt, bk, ct⟩ σ H := by
  obtain ⟨j, hj, rfl⟩ := setM_some hm
  refine s_item (j := j) s hi h h2 (by rw [List.length_map]; exact hj) fun v F2 H2 g2 s2 hv => q F2 H2 g2 ?_
  cases hw F2 v x hv
  rw [List.map_set]; exact s2
theorem s_itemG {α : Type} {en : α → PyData} {l1 l2 : Cs} {i : Nat} {p : Addr} {vs : List V} {xs ys : List α} {x : α} {ti : TE} {k : Int} (s : Sta F (l1 ++ (p, .lst vs) :: l2) H) (hf : Dts K F vs (xs.map en)) (hi : σ[i]? = some (some (.ref p))) (h : EvD K te σ F (l1 ++ (p, .lst vs) :: l2) (en x) (l1 ++ (p, .lst vs) :: l2))
    (h2 : EvD K ti σ F (l1 ++ (p, .lst vs) :: l2) (.int k) (l1 ++ (p, .lst vs) :: l2)) (hm : setM xs k x = some ys) (q : ∀ us F2 H2, Gr F F2 → Sta F2 (l1 ++ (p, .lst us) :: l2) H2 → Dts K F2 us (ys.map en) → nx σ H2) : tAsg te (gSub (tVar i) ti rSetL) ⟨nx, rt, bk, ct⟩ σ H := by
  obtain ⟨j, hj, rfl⟩ := setM_some hm
  refine s_item (j := j) s hi h h2 (by rw [hf.len, List.length_map]; exact hj) fun v F2 H2 g2 s2 hv => q _ F2 H2 g2 s2 ?_
  rw [List.map_set]; exact (hf.gr g2).setAt j hv
end
/-! isinstance -/
def kindD : PyData → String
  | .none => "NoneType"
  | .bool _ => "bool"
  | .int _ => "int"
  | .str _ => "str"
  | .list _ => "list"
  | .tuple _ => "tuple"
  | .dict _ => "dict"
def isiD (c : String) (d : PyData) : Bool := kindD d == c || (kindD d == "bool" && c == "int")
def isiK : List String := ["int", "str", "bool", "list", "tuple", "dict"]
theorem kit_isi {K : PySem.W.Frag} {c : String} (hc : c ∈ isiK) (d : PyData) : PySem.W.kitOne K (.type (kindD d)) (.type c) = some (isiD c d) := by
  have h : ∀ k ∈ ["NoneType", "bool", "int", "str", "list", "tuple", "dict"], ∀ c ∈ isiK, kitB k c = some (k == c || (k == "bool" && c == "int")) := by decide +kernel
  exact kit_ty (h (kindD d) (by cases d <;> simp [kindD]) c hc)
theorem ty_of {K : PySem.W.Frag} {F H : Hp} {v : V} {d : PyData} (g : Gr F H) (h : Dt K F v d) : TyX K H v (.type (kindD d)) := by
  cases h with
  | non => exact .base .non
  | bl b => exact .base (.bl b)
  | int i => exact .base (.int i)
  | str x => exact .base (.str x)
  | lst hl _ =>
    rcases hl with (h | ⟨o, h⟩) | ⟨o, its, n, h1, h2, h3⟩
    · exact .base (.lst (g _ _ h))
    · exact .base (.frz (g _ _ h))
    · exact .kList h1 h2
  | tup ht _ =>
    rcases ht with (h | ⟨o, h⟩) | ⟨o, its, n, h1, h2, h3⟩
    · exact .base (.tup (g _ _ h))
    · exact .fTuple (g _ _ h)
    · exact .kTuple h1 h2
  | dct h => exact .base (.dK (g _ _ h))
theorem d_isiD {K : PySem.W.Frag} {σ : St} {F : Hp} {cs cs1 : Cs} {ta : TE} {d : PyData} {c : String} (hc : c ∈ isiK) (ha : EvD K ta σ F cs d cs1) : EvD K (tCB (rIsi K) (tCons ta (tCons (tC (.ty c)) tNil))) σ F cs (.bool (isiD c d)) cs1 := fun F1 H1 g1 s Q q =>
  ha F1 H1 g1 s _ fun v F2 H2 g2 s2 h2 => ⟨v, .ty c, .type (kindD d), .type c, isiD c d, rfl, .ty c, ty_of s2.fr h2, kit_isi hc d, q _ F2 H2 g2 s2 (.bl _)⟩
/-! a def that keeps its promise -/
def Lk (K : PySem.W.Frag) (f : Addr) (fd : FuncData) : Prop := ∃ oc od sl, K.lookup f = some ⟨oc, od, .func fd, sl⟩
theorem lk_of {K : PySem.W.Frag} {x qual : Str} {params : Arguments} {body : List Stmt} {scope : Scope} {dvs : List V} {kws : List (Str × V)} {f : Addr} {fd : FuncData} (F : FunD K x qual params body scope dvs kws f fd) : Lk K f fd := by
  obtain ⟨oc, od, dV, kV, doc, pm, an, cdv, ct, osl, _, lk, _⟩ := F.ex
  exact ⟨oc, od, osl, lk⟩
theorem Lk.one {K : PySem.W.Frag} {f : Addr} {fd fd2 : FuncData} (a : Lk K f fd) (b : Lk K f fd2) : fd = fd2 := by
  obtain ⟨_, _, _, e1⟩ := a
  obtain ⟨_, _, _, e2⟩ := b
  rw [e1] at e2
  cases e2
  rfl
structure Ok (P : Program) (w : World) (K : PySem.W.Frag) (mg : Str → Option Value) (base : Heap) (k : Nat) (x : Str) (ps : List Str) (sp : Sp) : Prop where
  ex : ∃ fd, FnOk P w K mg base CX0 k (He.ga K x) fd ps sp ∧ Binds K fd ps [] ∧ Lk K (He.ga K x) fd
  kp : PySem.W.keepIn K (.ref (He.ga K x)) = true
  gm : mg x = some (.ref (He.ga K x))
structure Df (K : PySem.W.Frag) (mg : Str → Option Value) (x : Str) (st : Stmt) : Prop where
  ex : ∃ fd, FunD K x x (defArgs st) (defBody st) (defScope st) [] [] (He.ga K x) fd
  gm : mg x = some (.ref (He.ga K x))
end Bw

/-! set(list) for any kind of key: as many members as unlike keys -/
namespace Bw
open PySem PyProof.Rows
def dups {κ : Type} [BEq κ] : List κ → List κ → List κ
  | acc, [] => acc
  | acc, x :: xs => dups (if acc.any (· == x) then acc else acc ++ [x]) xs
section
variable {κ : Type} [DecidableEq κ] [BEq κ] [LawfulBEq κ]
def met (ks : List κ) (i : Nat) : List κ := dups [] (ks.take i)
theorem dups_app (l : List κ) (x : κ) : ∀ acc, dups acc (l ++ [x]) = (if (dups acc l).any (· == x) then dups acc l else dups acc l ++ [x]) := by
  induction l with
  | nil => intro acc; rfl
  | cons y l ih => intro acc; exact ih _
theorem met_succ (ks : List κ) (i : Nat) (x : κ) (h : ks[i]? = some x) : met ks (i + 1) = (if (met ks i).any (· == x) then met ks i else met ks i ++ [x]) := by
  unfold met
  rw [List.take_add_one, h]
  exact dups_app _ _ _
theorem dups_len (l : List κ) : ∀ acc : List κ, (dups acc l).length ≤ acc.length + l.length := by
  induction l with
  | nil => intro acc; exact Nat.le_refl _
  | cons y l ih =>
    intro acc
    have := ih (if acc.any (· == y) then acc else acc ++ [y])
    have h2 : (if acc.any (· == y) then acc else acc ++ [y]).length ≤ acc.length + 1 := by
      split
      · exact Nat.le_succ _
      · rw [List.length_append]; exact Nat.le_refl _
    show (dups (if acc.any (· == y) then acc else acc ++ [y]) l).length ≤ acc.length + (l.length + 1)
    omega
theorem met_len (ks : List κ) (i : Nat) : (met ks i).length ≤ i := by
  have h := dups_len (ks.take i) ([] : List κ)
  have h2 : (ks.take i).length ≤ i := by rw [List.length_take]; exact Nat.min_le_left _ _
  unfold met
  simp only [List.length_nil, Nat.zero_add] at h
  omega
end
section
variable {prog : Program} {w : World} {A : Around} {R : Result → Shared → Prop} {I : Addr} {fp wr : List Addr} {G : Array GenState → Array GenState → Prop} {n : Nat} {P : Nat → Value → Prop} {St : Nat → Shared → Prop}
variable {κ : Type} [DecidableEq κ] [BEq κ] [LawfulBEq κ] (knd : KeyKind prog w κ)
theorem loopK (W : WalksS prog w A.in1 I fp wr G n P St) (S : Addr) (hSf : S ∉ fp) (ks : List κ) (hval : ∀ i v, P i v → ∃ k, ks[i]? = some k ∧ knd.is k v = true ∧ v.scannable = true) (hb : n + 1 < scanBound) :
    ∀ (k i : Nat) (s : Shared), n - i = k → i ≤ n → St i s → s.heap.SetOf knd S (fun z => (met ks i).any (· == z)) (met ks i).length →
      (∀ s', Moved (S :: wr) G s s' → s'.heap.SetOf knd S (fun z => (met ks n).any (· == z)) (met ks n).length → R (.ok (.ret .none)) s') →
      codeAny (model prog w) A (.builtin "set.update.loop" ⟨[.ref S, .ref I], []⟩) R s := by
  have nw : S ∉ wr := fun h => hSf (W.sub _ h)
  have sb : ∀ b ∈ wr, b ∈ S :: wr := fun b hb => List.mem_cons_of_mem _ hb
  intro k
  induction k with
  | zero =>
    intro i s hk hi hst hS hR
    obtain rfl : i = n := by omega
    refine codeAny_builtin F.entry_set_update_loop ?_
    rw [Around.under_plainId F.plain_set_update_loop _]
    show wpAny _ A.in1 (pyNext (.ref I) >>= _) _ _ s
    refine wpAny_bind (W.done s _ _ hst fun s' hm => ?_)
    show wpAny _ A.in1 (ret Value.none) _ _ s'
    refine wpAny_pure (hR s' (hm.mono sb) ?_)
    obtain ⟨o, es, ep, t, ho, rest⟩ := hS
    exact ⟨o, es, ep, t, hm.heap S _ nw ho, rest⟩
  | succ k ih =>
    intro i s hk hi hst hS hR
    have hlt : i < n := by omega
    refine codeAny_builtin F.entry_set_update_loop ?_
    rw [Around.under_plainId F.plain_set_update_loop _]
    show wpAny _ A.in1 (pyNext (.ref I) >>= _) _ _ s
    refine wpAny_bind (W.item i s _ _ hlt hst fun v s' hP hst' hm => ?_)
    obtain ⟨x, hx, his, hsc⟩ := hval i v hP
    have hS' : s'.heap.SetOf knd S (fun z => (met ks i).any (· == z)) (met ks i).length := by
      obtain ⟨o, es, ep, tb, ho, rest⟩ := hS
      exact ⟨o, es, ep, tb, hm.heap S _ nw ho, rest⟩
    show wpAny _ A.in1 (holding [v] (setAdd S v) >>= _) _ _ s'
    refine wpAny_bind (wpAny_holding ?_)
    unfold setAdd
    refine wpAny_holding ?_
    refine wpAny_bind (knd.pyHash (k := x) his ?_)
    refine wpAny_setAddHashed_of (knd := knd) (s := { s' with toks := s'.toks + 1 }) his hsc hS' (by have := met_len ks i; omega) fun h' hsb hS2 => ?_
    have hSi : h'.SetOf knd S (fun z => (met ks (i + 1)).any (· == z)) (met ks (i + 1)).length := by
      refine SetOf_congr hS2 (fun z => ?_) ?_
      · rw [met_succ ks i x hx]
        by_cases q : (met ks i).any (· == x) = true
        · rw [if_pos q]
          by_cases e : z = x
          · subst e; rw [q]; rfl
          · rw [decide_eq_false e, Bool.or_false]
        · rw [if_neg q, List.any_append]
          by_cases e : z = x
          · subst e; simp
          · have hb2 : (x == z) = false := beq_eq_false_iff_ne.mpr fun h' => e h'.symm
            simp [hb2, e]
      · rw [met_succ ks i x hx]
        by_cases q : (met ks i).any (· == x) = true
        · rw [if_pos q, if_pos q]
        · rw [if_neg q, if_neg q, List.length_append]; rfl
    refine wpAny_pure ⟨plainId_quiet F.plain_set_update_loop _, ih (i + 1) _ (by omega) hlt (W.frame _ s' _ _ hst' (Nat.le_succ _) fun b hb o e => ?_) hSi fun s'' hm'' hS'' => ?_⟩
    · rw [hsb.2 b (fun h : b = S => hSf (by rw [← h]; exact hb))]; exact e
    · refine hR s'' (Moved.trans W.gtrans ((hm.mono sb).then_heap (Nat.le_succ _) fun b o hb e => ?_) hm'') hS''
      rw [hsb.2 b (fun h : b = S => hb (by rw [h]; exact List.mem_cons_self))]; exact e
end
end Bw
namespace Bw
open PySem
section
variable {prog : Program} {w : World} {A : Around} {E : Value → Shared → Prop} {s : Shared}
variable {κ : Type} [DecidableEq κ] [BEq κ] [LawfulBEq κ] (knd : KeyKind prog w κ)
abbrev sO (led : Bool) : Obj := { cls := .type "set", dict := none, data := .set #[] 0 (.fresh 0 0 led) }
theorem call_setK {l : Addr} {items : Array Value} {ks : List κ} {Q : Value → Shared → Prop} (hh : A.handled = none) (hl : s.heap.IsList l items)
    (hi : ∀ (i : Nat) (v : Value), items[i]? = some v → ∃ k, ks[i]? = some k ∧ knd.is k v = true ∧ v.scannable = true) (hb : items.size + 1 < scanBound)
    (h : ∀ (h' : Heap) (tk : Nat), h'.SetOf knd s.heap.objs.size (fun z => (met ks items.size).any (· == z)) (met ks items.size).length → (∀ b o, b < s.heap.objs.size → s.heap.get? b = some o → h'.get? b = some o) → Q (.ref s.heap.objs.size) { s with heap := h', toks := tk }) :
    wpAny (model prog w) A (call (.type "set") [.ref l]) Q E s := by
  obtain ⟨c, tl, hmro⟩ := F.called_set.mro
  have hmade := F.called_set.made
  have hsub := F.called_set.sub
  refine wpAny_call (codeAny_of_tree ?_)
  show wpAny _ _ (callAny (.type "set") _) _ _ _
  refine wpAny_pure ⟨Code.quiet_builtin _ (by decide +kernel), codeAny_builtin F.entry_type_call ?_⟩
  rw [Around.under_plain (weight_type_call_type "set" [.ref l] []) rfl]
  have h1 := F.called_set.notType
  have h2 := F.called_set.canCreate
  have hct := F.typeCall_set_1 (.ref l)
  repeat (any_goals (first | assumption | wp_step))
  refine codeAny_mono (code_set_new_1 (.ref l) (E := E) (Q₁ := fun obj s₁ => ∃ led : Bool, obj = .ref s.heap.objs.size ∧ s₁ = { s with heap := s.heap.push (sO led) }) fun led => ⟨led, rfl, rfl⟩) fun r s₁ hr => ?_
  cases r with
  | error e => exact hr
  | ok fl =>
    cases fl with
    | ret obj =>
      obtain ⟨led, rfl, rfl⟩ := hr
      have hS : (s.heap.push (sO led)).get? s.heap.objs.size = some (sO led) := Heap.get?_push_size _ rfl
      have hT : Shared.TypeIs { s with heap := s.heap.push (sO led) } (.ref s.heap.objs.size) "set" := ⟨_, hS, rfl⟩
      have hli := F.called_set.init.lookup
      have hbi := F.called_set.init.bind (.ref s.heap.objs.size)
      repeat (any_goals (first | assumption | wp_step))
      refine codeAny_mono (codeAny_call_builtin (R := wants (fun r s₂ => r = .none ∧ ∃ h' tk, s₂ = { s with heap := h', toks := tk } ∧ h'.SetOf knd s.heap.objs.size (fun z => (met ks items.size).any (· == z)) (met ks items.size).length ∧
          (∀ b o, b < s.heap.objs.size → s.heap.get? b = some o → h'.get? b = some o)) E) F.called_set.init.plain F.entry_set_init (check_set_init_1 hT ?_)) fun r₂ s₂ hr₂ => ?_
      · obtain ⟨ol, hol, hcl, nl, hdl⟩ := hl
        obtain ⟨ocls, odict, odata, oslots⟩ := ol
        simp only at hcl hdl
        subst hcl; subst hdl
        have hol' : (s.heap.push (sO led)).get? l = some { cls := .type "list", dict := odict, data := .seq items nl, slots := oslots } := Heap.get?_push_of_some _ hol
        have hsls := F.sub_list_set
        have hslf := F.sub_list_frozenset
        have hne : (Value.type "list" == Value.type "dict") = false := by decide
        have hl1 : (s.heap.push (sO led)).IsList l items := ⟨_, hol', rfl, nl, rfl⟩
        unfold Builtin.«set.__init__» noKeywords Builtin.Frozenset.updateFrom
        generalize hPI : pyIter = PI
        wp_walk
        subst hPI
        refine wpAny_pyIter_list hl1 ?_
        refine wpAny_bind (wpAny_runValue ?_)
        have hlS : l < s.heap.objs.size := Heap.lt_size hol
        have hneI : l ≠ (s.heap.push (sO led)).objs.size := by
          rw [Heap.size_push]; exact Nat.ne_of_lt (Nat.lt_succ_of_lt hlS)
        have hSf : s.heap.objs.size ∉ [(s.heap.push (sO led)).objs.size, l] := by
          rw [Heap.size_push]; simp only [List.mem_cons, List.not_mem_nil, or_false, not_or]
          exact ⟨Nat.ne_of_lt (Nat.lt_succ_self _), Nat.ne_of_gt hlS⟩
        refine loopK knd ((Walks.list (by simp [hh]) _ l hneI items).toS) s.heap.objs.size hSf ks hi hb (items.size - 0) 0 _ (by omega) (Nat.zero_le _) ⟨⟨_, Heap.get?_push_size _ rfl, rfl, rfl⟩, (hl1.push _)⟩ ?hS0 ?hR
        case hS0 =>
          exact PyProof.Rows.SetOf_congr ((PyProof.Rows.setObjOf_fresh (knd := knd) led).setOf (Heap.get?_push_of_some _ hS) (by unfold scanBound; omega)) (fun _ => rfl) rfl
        case hR =>
          intro s' hm hS'
          obtain ⟨h', g', d', tk', os'⟩ := s'
          have eg : g' = s.gens := hm.gens
          have ed : d' = s.drawn := hm.drawn
          have eo : os' = s.os := hm.os
          subst eg; subst ed; subst eo
          show wpAny _ _ _ _ _ _
          refine wpAny_pure ?_
          show wpAny _ _ (ret Value.none) _ _ _
          refine wpAny_pure ⟨rfl, h', tk', rfl, hS', fun b o hb e => ?_⟩
          refine hm.heap b o ?_ (Heap.get?_push_of_some _ (Heap.get?_push_of_some _ e))
          simp only [List.mem_cons, List.not_mem_nil, or_false, not_or]
          exact ⟨Nat.ne_of_lt hb, by rw [Heap.size_push]; exact Nat.ne_of_lt (Nat.lt_succ_of_lt hb)⟩
      · cases r₂ with
        | error e => exact hr₂
        | ok fl₂ =>
          cases fl₂ with
          | ret r =>
            obtain ⟨rfl, h', tk, rfl, hS', hk'⟩ := hr₂
            repeat (any_goals (first | assumption | wp_step))
            exact h _ _ hS' hk'
          | _ => exact hr₂.elim
    | _ => exact hr.elim
end
end Bw


namespace Bw
open PySem L2
def tLenSetS (K : PySem.W.Frag) (ta : TE) : TE := fun σ H Q => ta σ H fun x H1 => ∃ (l : Addr) (xs : List Str), x = .ref l ∧ SqL K H1 l (xs.map V.str) ∧ xs.length ≤ 4000 ∧ Q (.int (dups [] xs).length) H1
theorem strs_get : ∀ {xs : List Str} {us : List Value} {i : Nat} {v : Value}, Vals (xs.map V.str) us → us[i]? = some v → ∃ k, xs[i]? = some k ∧ ∃ t, v = .str k t
  | [], _, _, _, .nil, e => by simp at e
  | x :: xs, _, 0, v, .cons r t, e => by
    simp at e; subst e
    exact ⟨x, rfl, r⟩
  | x :: xs, _, i + 1, v, .cons r t, e => by
    obtain ⟨k, h1, h2⟩ := strs_get (i := i) (v := v) t (by simpa using e)
    exact ⟨k, by simpa using h1, h2⟩
theorem met_all {κ : Type} [DecidableEq κ] [BEq κ] (ks : List κ) : met ks ks.length = dups [] ks := by unfold met; rw [List.take_length]
theorem pe_lenSetS {X : Cx} {a : Expr} {ta : TE} {p p2 q pos : Pos} (hc : X.calm = true) (hg : Gl X "len") (hm : X.mg "len" = none) (hg2 : Gl X "set") (hm2 : X.mg "set" = none) (ha : PE X a ta)
    (na : starEach [a] X.env = (false, eval a X.env) :: starEach [] X.env := by rfl) : PE X (.Call (.Name "len" p) [.Call (.Name "set" p2) [a] [] q] [] pos) (tLenSetS X.K ta) := by
  refine ⟨fun pins s σ H Q I h => ?_⟩
  refine PyProof.Rows.Call_ (ld_blt I hg hm boot_len ?_)
  refine PyProof.Rows.callWith_builtin1 (PyProof.Rows.args_cons ?_ rfl) rfl rfl
  refine PyProof.Rows.Call_ (ld_blt I hg2 hm2 PyProof.Rows.boot_set ?_)
  refine PyProof.Rows.callWith_type1 (PyProof.Rows.args_cons (thn (ha.run pins s σ H _ I h) fun v s1 ⟨x, H1, I1, r1, q1⟩ => PyProof.Rows.args_nil ?_) na) na rfl
  obtain ⟨l, xs, rfl, hq, h1, q1⟩ := q1
  cases r1
  obtain ⟨its, r, pl, hz⟩ := I1.list hq
  have hl : its.toArray.size = xs.length := by rw [List.size_toArray, ← r.length, List.length_map]
  refine call_setK (PySem.strKind X.prog X.w) (ks := xs) (I1.ok.hd hc) pl.isList (fun i v hv => ?_) (by rw [hl]; unfold scanBound; omega) fun h' tk hS hk => ?_
  · obtain ⟨k, e1, t, e2⟩ := strs_get (i := i) (v := v) r (by simpa using hv)
    subst e2
    exact ⟨k, e1, strKind_is _ _ _ _, rfl⟩
  · refine PyProof.Rows.args_nil ?_
    rw [hl, met_all] at hS
    obtain ⟨o, es, ep, t, ho, hex, hd, _, _, _, hf, hn⟩ := hS
    have I2 : Inv X pins σ H1 { s1 with heap := h', toks := tk } := I1.kept fun b o e => hk b o (Heap.lt_size e) e
    have hlen := dups_len xs ([] : List Str)
    simp only [List.length_nil, Nat.zero_add] at hlen
    exact call_len_set ho hex hd hf (by rw [hn] <;> omega) ⟨.int (dups [] xs).length, H1, I2.tok _, ⟨_, by rw [hn]⟩, q1⟩
def setLenM (xs : List Str) : Option Int := if xs.length ≤ 4000 then some ((dups [] xs).length : Int) else none
abbrev rSrep : R2 := fun x y H Q => ∃ z n, x = .str z ∧ y = .int n ∧ MulOk z n ∧ Q (.str (Txt.mul z n)) H
theorem op_srep {X : Cx} : OpR X (binaryOp .Mult) rSrep := by
  intro pins s σ H x y v u Q I rx ry h
  obtain ⟨i, j, rfl, rfl, hz, q⟩ := h
  obtain ⟨t, rfl⟩ := rx
  obtain ⟨t', rfl⟩ := ry
  exact SB.mul hz fun t' tk => ⟨.str (Txt.mul i j), H, I.tok _, ⟨_, rfl⟩, q⟩
def srepM (x : Str) (n : Int) : Option Str := if -(2 ^ 63) ≤ n ∧ n < 2 ^ 63 ∧ x.length * n.toNat ≤ 100000 then some (Txt.mul x n) else none
theorem mulOk {x : Str} {n : Int} (h : -(2 ^ 63) ≤ n ∧ n < 2 ^ 63 ∧ x.length * n.toNat ≤ 100000) : MulOk x n := by
  obtain ⟨h1, h2, h3⟩ := h
  refine ⟨?_, fun hn hc => ?_, fun hn hc => ?_⟩
  · rw [Bool.or_eq_false_iff]
    exact ⟨decide_eq_false (by omega), decide_eq_false (by omega)⟩
  · intro hgt
    have hx : (x.length : Int) * n ≤ 100000 := by
      have e : ((x.length * n.toNat : Nat) : Int) = (x.length : Int) * n := by
        rw [Int.natCast_mul, Int.toNat_of_nonneg (by omega)]
      omega
    have h5 : (2 ^ 63 - 1 : Int) / n + 1 ≤ x.length := by omega
    have h6 : (2 ^ 63 - 1 : Int) < ((2 ^ 63 - 1 : Int) / n + 1) * n := Int.lt_ediv_add_one_mul_self _ (by omega)
    have h7 : ((2 ^ 63 - 1 : Int) / n + 1) * n ≤ (x.length : Int) * n := Int.mul_le_mul_of_nonneg_right h5 (by omega)
    omega
  · unfold Builtin.Str.tooLong
    simp only [decide_eq_false_iff_not]
    have : (100000 : Nat) ≤ sizeLine := by decide
    omega
section
variable {K : PySem.W.Frag} {σ : St} {F F' : Hp} {cs cs1 cs2 cs3 : Cs} {ta tb tc te : TE} {d e : PyData} {as : TA} {a b c : Int} {nx bk ct : St → Hp → Prop} {rt : VK} {H : Hp} {t u : TS}
theorem d_srep {x z : Str} (ha : EvD K ta σ F cs (.str x) cs1) (hb : EvD K tb σ F cs1 (.int b) cs2) (hz : srepM x b = some z) : EvD K (tOp rSrep ta tb) σ F cs (.str z) cs2 :=
  d_op ha hb fun _ _ F2 H2 hx hy s _ Q q => by
    cases hx.toStr; cases hy.toInt
    unfold srepM at hz; split at hz
    · rename_i h; cases hz; exact ⟨x, b, rfl, rfl, mulOk h, q _ F2 H2 .rfl s (.str _)⟩
    · cases hz
theorem d_setLen {xs : List Str} {n : Int} (ha : EvD K ta σ F cs (eL eS xs) cs1) (hn : setLenM xs = some n) : EvD K (tLenSetS K ta) σ F cs (.int n) cs1 := fun F1 H1 g1 s Q q =>
  ha F1 H1 g1 s _ fun v F2 H2 g2 s2 h2 => by
    obtain ⟨p, vs, rfl, hl, hd⟩ := h2.toLst
    cases hd.strs
    unfold setLenM at hn; split at hn
    · rename_i h; cases hn; exact ⟨p, xs, rfl, gr_L s2.fr hl, h, q _ F2 H2 g2 s2 (.int _)⟩
    · cases hn
/-- list(x), x a cell -/
theorem c_listC {l1 l2 : Cs} {i : Nat} {p : Addr} {us : List V} {ds : List PyData} (hi : σ[i]? = some (some (.ref p))) (hd : Dts K F us ds) : EvC K (tCB (rListS K) (tCons (tVar i) tNil)) σ F (l1 ++ (p, .lst us) :: l2) ds (l1 ++ (p, .lst us) :: l2) := fun F1 H1 g1 s Q q =>
  ⟨.ref p, hi, p, us, rfl, .inl (.inl (.inl s.getAt)), fun l nl => q _ _ _ _ .rfl (s.cell nl) (hd.gr g1)⟩
/-- x = y.pop(k), y a cell -/
def popM {α : Type} (xs : List α) (k : Int) : Option (α × List α) := if -(2 ^ 63) ≤ k ∧ k < 2 ^ 63 then (seqIndex? k xs.length).bind fun j => (xs[j]?).map fun x => (x, xs.eraseIdx j) else none
theorem popM_some {α : Type} {xs ys : List α} {k : Int} {x : α} (h : popM xs k = some (x, ys)) : (-(2 ^ 63) ≤ k ∧ k < 2 ^ 63) ∧ ∃ j, seqIndex? k xs.length = some j ∧ xs[j]? = some x ∧ ys = xs.eraseIdx j := by
  unfold popM at h; split at h
  · rename_i q
    refine ⟨q, ?_⟩
    obtain ⟨j, h1, h⟩ := bnd h
    cases e : xs[j]? with
    | none => rw [e] at h; cases h
    | some z => rw [e] at h; cases h; exact ⟨j, h1, e, rfl⟩
  · cases h
theorem er_map {α β : Type} (f : α → β) : ∀ (xs : List α) (j : Nat), (xs.eraseIdx j).map f = (xs.map f).eraseIdx j
  | [], _ => rfl
  | _ :: _, 0 => rfl
  | x :: xs, j + 1 => by simp only [List.eraseIdx_cons_succ, List.map_cons, er_map f xs j]
theorem s_popF {α : Type} {vf : α → V} {en : α → PyData} {l1 l2 : Cs} {i j : Nat} {p : Addr} {xs ys : List α} {x : α} {ti : TE} {k : Int} {σ' : St} (hd : ∀ F x, Dt K F (vf x) (en x)) (s : Sta F (l1 ++ (p, .lst (xs.map vf)) :: l2) H) (hi : σ[i]? = some (some (.ref p)))
    (h2 : EvD K ti σ F (l1 ++ (p, .lst (xs.map vf)) :: l2) (.int k) (l1 ++ (p, .lst (xs.map vf)) :: l2)) (hm : popM xs k = some (x, ys)) (hσ : σ.set j (some (vf x)) = σ') (q : ∀ F2 H2, Gr F F2 → Sta F2 (l1 ++ (p, .lst (ys.map vf)) :: l2) H2 → nx σ' H2) : tAsg (tBM K "list" rPopAt (tVar i) (tCons ti tNil)) (gName j) ⟨nx, rt, bk, ct⟩ σ H := by
  obtain ⟨⟨a1, a2⟩, m, b1, b2, rfl⟩ := popM_some hm
  refine ⟨.ref p, hi, .inl ⟨rfl, _, .inl (.inl s.getAt)⟩, h2 F H .rfl s _ fun w F3 H3 g3 s3 hw => ⟨p, xs.map vf, k, m, vf x, rfl, by cases hw.toInt; rfl, s3.getAt, a1, a2, by rw [List.length_map]; exact b1, by rw [List.getElem?_map, b2]; rfl, ?_⟩⟩
  show nx (σ.set j (some (vf x))) _
  rw [hσ]
  refine q F3 _ g3 ?_
  have s4 := s3.putAt (o' := .lst ((xs.map vf).eraseIdx m))
  rw [er_map]
  exact s4
/-- y.remove(k), y a cell of ints -/
def remM (xs : List Int) (k : Int) : Option (List Int) := if inL k xs = true then some (xs.erase k) else none
theorem rem_at {xs : List Int} {k : Int} (h : inL k xs = true) : ∃ j, xs[j]? = some k ∧ (∀ m : Nat, m < j → xs[m]? ≠ some k) ∧ xs.eraseIdx j = xs.erase k := by
  induction xs with
  | nil => cases h
  | cons y xs ih =>
    by_cases e : y = k
    · subst e
      exact ⟨0, rfl, fun m hm => absurd hm (Nat.not_lt_zero m), by simp⟩
    · have h' : inL k xs = true := by
        unfold inL at h ⊢
        rw [List.any_cons] at h
        have q : (y == k) = false := by simpa using e
        rw [q, Bool.false_or] at h
        exact h
      obtain ⟨j, h1, h2, h3⟩ := ih h'
      refine ⟨j + 1, by simpa using h1, fun m hm => ?_, ?_⟩
      · cases m with
        | zero => simpa using e
        | succ m => simpa using h2 m (by omega)
      · rw [List.eraseIdx_cons_succ, h3, List.erase_cons_tail]
        simpa using e
theorem s_remF {l1 l2 : Cs} {i : Nat} {p : Addr} {xs ys : List Int} {ti : TE} {k : Int} (s : Sta F (l1 ++ (p, .lst (xs.map V.int)) :: l2) H) (hi : σ[i]? = some (some (.ref p)))
    (h2 : EvD K ti σ F (l1 ++ (p, .lst (xs.map V.int)) :: l2) (.int k) (l1 ++ (p, .lst (xs.map V.int)) :: l2)) (hm : remM xs k = some ys) (q : ∀ F2 H2, Gr F F2 → Sta F2 (l1 ++ (p, .lst (ys.map V.int)) :: l2) H2 → nx σ H2) : tDrop (tBM K "list" rRemI (tVar i) (tCons ti tNil)) ⟨nx, rt, bk, ct⟩ σ H := by
  unfold remM at hm; split at hm
  · rename_i hin
    cases hm
    obtain ⟨j, e1, e2, e3⟩ := rem_at hin
    refine ⟨.ref p, hi, .inl ⟨rfl, _, .inl (.inl s.getAt)⟩, h2 F H .rfl s _ fun w F3 H3 g3 s3 hw => ⟨p, xs, k, j, rfl, by cases hw.toInt; rfl, s3.getAt, e1, e2, q F3 _ g3 ?_⟩⟩
    rw [e3]
    exact s3.putAt
  · cases hm
theorem d_isV {w : V} (hw : ∀ F v, Dt K F v d → v = w) (ha : EvD K ta σ F cs d cs1) : EvD K (tOp rIsN ta (tC .non)) σ F cs (.bool (decide (w = V.non))) cs1 := fun F1 H1 g1 s Q q =>
  ha F1 H1 g1 s _ fun v F2 H2 g2 s2 h2 => ⟨rfl, by cases hw F2 v h2; exact q _ F2 H2 g2 s2 (.bl _)⟩
theorem d_nisV {w : V} (hw : ∀ F v, Dt K F v d → v = w) (ha : EvD K ta σ F cs d cs1) : EvD K (tOp rNotN ta (tC .non)) σ F cs (.bool (!decide (w = V.non))) cs1 := fun F1 H1 g1 s Q q =>
  ha F1 H1 g1 s _ fun v F2 H2 g2 s2 h2 => ⟨rfl, by cases hw F2 v h2; exact q _ F2 H2 g2 s2 (.bl _)⟩
theorem d_isN (ha : EvD K ta σ F cs PyData.none cs1) : EvD K (tOp rIsN ta (tC .non)) σ F cs (.bool true) cs1 := d_isV (fun _ _ h => Dt.toNon h) ha
theorem d_nisN (ha : EvD K ta σ F cs PyData.none cs1) : EvD K (tOp rNotN ta (tC .non)) σ F cs (.bool false) cs1 := d_nisV (fun _ _ h => Dt.toNon h) ha
theorem d_isOI {o : Option Int} (ha : EvD K ta σ F cs (eO eI o) cs1) : EvD K (tOp rIsN ta (tC .non)) σ F cs (.bool o.isNone) cs1 := d_is (d_isV (fun _ _ h => dt_toI h) ha) (by cases o <;> rfl)
theorem d_nisOI {o : Option Int} (ha : EvD K ta σ F cs (eO eI o) cs1) : EvD K (tOp rNotN ta (tC .non)) σ F cs (.bool (!o.isNone)) cs1 := d_is (d_nisV (fun _ _ h => dt_toI h) ha) (by cases o <;> rfl)
end
end Bw
theorem Bw.sta0 {H : L2.Hp} : Bw.Sta H [] H := ⟨fun _ _ e => e, by simp, by simp, by simp⟩

namespace Bw
open PySem L2
/-! expressions that change cells -/
section
variable {K : PySem.W.Frag} {σ : St} {F F' : Hp} {cs cs1 cs2 cs3 : Cs} {ta tb tc te : TE} {d e : PyData} {as : TA} {a b c : Int} {nx bk ct : St → Hp → Prop} {rt : VK} {H : Hp} {t u : TS}
theorem d_lendX {l1 l2 m1 m2 : Cs} {p : Addr} {o : HO} {w : V} (hw : ∀ F v, Dt K F v d → v = w) (hd : ∀ F, Dt K F w d) (h : ∀ F1, Gr F F1 → F1 p = none → EvD K te σ (upd F1 p o) (l1 ++ l2) d (m1 ++ m2)) : EvD K te σ F (l1 ++ (p, o) :: l2) d (m1 ++ (p, o) :: m2) := fun F1 H1 g1 s Q q => by
  refine h F1 g1 s.freeAt (upd F1 p o) H1 .rfl s.frozeAt Q fun v F2 H2 g2 s2 h2 => ?_
  cases hw F2 v h2
  exact q w (cut F2 p) H2 (gr_cut s.freeAt g2) (Sta.lent g2 s2) (hd _)
theorem t_lendX {l1 l2 m1 m2 : Cs} {p : Addr} {o : HO} {t : TT} {b : Bool} (h : ∀ F1, Gr F F1 → F1 p = none → EvT t σ (upd F1 p o) (l1 ++ l2) b (m1 ++ m2)) : EvT t σ F (l1 ++ (p, o) :: l2) b (m1 ++ (p, o) :: m2) := fun F1 H1 g1 s Q q => by
  refine h F1 g1 s.freeAt (upd F1 p o) H1 .rfl s.frozeAt Q fun F2 H2 g2 s2 => ?_
  exact q (cut F2 p) H2 (gr_cut s.freeAt g2) (Sta.lent g2 s2)
/-! functions that change cells -/
inductive Ar where
  | d (x : PyData)
  | c (us : List V)
inductive ArgR (K : PySem.W.Frag) (F : Hp) : List V → List Ar → Cs → Prop
  | nil : ArgR K F [] [] []
  | d {v : V} {x : PyData} {vs : List V} {as : List Ar} {cs : Cs} : Dt K F v x → ArgR K F vs as cs → ArgR K F (v :: vs) (.d x :: as) cs
  | c {p : Addr} {us : List V} {vs : List V} {as : List Ar} {cs : Cs} : ArgR K F vs as cs → ArgR K F (.ref p :: vs) (.c us :: as) ((p, .lst us) :: cs)
theorem ArgR.no {vs : List V} {cs : Cs} (h : ArgR K F vs [] cs) : vs = [] ∧ cs = [] := by cases h; exact ⟨rfl, rfl⟩
theorem ArgR.hd {vs : List V} {x : PyData} {as : List Ar} {cs : Cs} (h : ArgR K F vs (.d x :: as) cs) : ∃ v ws, vs = v :: ws ∧ Dt K F v x ∧ ArgR K F ws as cs := by
  cases h with | d h t => exact ⟨_, _, rfl, h, t⟩
theorem ArgR.hc {vs : List V} {us : List V} {as : List Ar} {cs : Cs} (h : ArgR K F vs (.c us :: as) cs) : ∃ p ws cs', vs = .ref p :: ws ∧ cs = (p, .lst us) :: cs' ∧ ArgR K F ws as cs' := by
  cases h with | c t => exact ⟨_, _, _, rfl, rfl, t⟩
theorem ArgR.len : ∀ {vs : List V} {as : List Ar} {cs : Cs}, ArgR K F vs as cs → vs.length = as.length
  | _, _, _, .nil => rfl
  | _, _, _, .d _ t => by rw [List.length_cons, List.length_cons, t.len]
  | _, _, _, .c t => by rw [List.length_cons, List.length_cons, t.len]
def upC : Cs → List (List V) → Cs
  | c :: cs, us :: uss => (c.1, .lst us) :: upC cs uss
  | _, _ => []
def spC (K : PySem.W.Frag) {α β : Type} (A : α → List Ar) (B : β → PyData) (C : β → List (List V)) (f : α → Option β) : Sp := fun vs H Q _ => ∃ F cc cs x y, ArgR K F vs (A x) cc ∧ Sta F (cc ++ cs) H ∧ f x = some y ∧ ∀ v F2 H2, Gr F F2 → Sta F2 (upC cc (C y) ++ cs) H2 → Dt K F2 v (B y) → Q v H2
def EvR (K : PySem.W.Frag) (ta : TA) (σ : St) (F : Hp) (cs : Cs) (as : List Ar) (cc : Cs) (cs' : Cs) : Prop := EvA ta σ F cs (fun vs F' => ArgR K F' vs as cc) cs'
theorem ArgR.gr (g : Gr F F') : ∀ {vs : List V} {as : List Ar} {cs : Cs}, ArgR K F vs as cs → ArgR K F' vs as cs
  | _, _, _, .nil => .nil
  | _, _, _, .d h t => .d (h.gr g) (t.gr g)
  | _, _, _, .c t => .c (t.gr g)
theorem r_nil : EvR K tNil σ F cs [] [] cs := fun F1 H1 g s Q q => q _ F1 H1 .rfl s .nil
theorem r_d {xs : List Ar} {cc : Cs} (h : EvD K te σ F cs d cs1) (h2 : EvR K as σ F cs1 xs cc cs2) : EvR K (tCons te as) σ F cs (.d d :: xs) cc cs2 := fun F1 H1 g1 s Q q =>
  h F1 H1 g1 s _ fun v F2 H2 g2 s2 hv => h2 F2 H2 (g1.tr g2) s2 _ fun vs F3 H3 g3 s3 hvs => q _ F3 H3 (g2.tr g3) s3 (.d (hv.gr g3) hvs)
theorem r_c {xs : List Ar} {cc : Cs} {i : Nat} {p : Addr} {us : List V} (hi : σ[i]? = some (some (.ref p))) (h2 : EvR K as σ F cs xs cc cs2) : EvR K (tCons (tVar i) as) σ F cs (.c us :: xs) ((p, .lst us) :: cc) cs2 := fun F1 H1 g1 s Q q =>
  ⟨.ref p, hi, h2 F1 H1 g1 s _ fun vs F3 H3 g3 s3 hvs => q _ F3 H3 g3 s3 (.c hvs)⟩
theorem d_callC {α β : Type} {A : α → List Ar} {B : β → PyData} {C : β → List (List V)} {f : α → Option β} {x : α} {y : β} {E : XK} {cc cs' : Cs} (h : EvR K as σ F cs (A x) cc cs1) (hp : cs1.Perm (cc ++ cs')) (hf : f x = some y) (hq : (upC cc (C y) ++ cs').Perm cs2) : EvD K (tCall (spC K A B C f) [] E as) σ F cs (B y) cs2 := fun F1 H1 g1 s Q q =>
  h F1 H1 g1 s _ fun vs F2 H2 g2 s2 h2 => ⟨F2, cc, cs', x, y, by rw [List.append_nil]; exact h2, s2.perm hp, hf, fun v F3 H3 g3 s3 h3 => q v F3 H3 (g2.tr g3) (s3.perm hq) h3⟩
/-! comprehensions whose elements change cells -/
def lcS {S α β : Type} (f : S → α → Option (S × Option β)) : S → List α → Option (S × List β)
  | s, [] => some (s, [])
  | s, x :: xs => (f s x).bind fun p => (lcS f p.1 xs).bind fun q => some (q.1, match p.2 with
    | some y => y :: q.2
    | none => q.2)
def lcSC {S α β : Type} (f : S → α → Option (S × Option β)) (s : S) (xs : List α) : Option (S × List β) := if xs.length ≤ 100000 then lcS f s xs else none
theorem c_lcS {S α β : Type} {wi : TI} {g : TG} {tt : TT} {vs : List Nat} {xs : List α} {en : α → PyData} {em : β → PyData} {f : S → α → Option (S × Option β)} {ys : List β} {s0 s1 : S} (cc : S → Cs)
    (hi : EvI K wi σ F cs (xs.map en) (cc s0)) (hm : lcSC f s0 xs = some (s1, ys))
    (turn : ∀ x z z' o v F1 p us, Gr F F1 → Dt K F1 v (en x) → f z x = some (z', o) → ∃ σ2 : St, (∀ H (Q : St → Hp → Prop), Sta F1 ((p, .lst us) :: cc z) H → Q σ2 H → g v (wipe σ vs) H Q) ∧ wipe σ2 vs = wipe σ vs ∧
      EvT tt σ2 F1 ((p, .lst us) :: cc z) o.isSome ((p, .lst us) :: cc z) ∧ (o = none → z' = z) ∧ ∀ y, o = some y → EvD K te σ2 F1 ((p, .lst us) :: cc z) (em y) ((p, .lst us) :: cc z')) :
    EvC K (tLc wi g tt te vs) σ F cs (ys.map em) (cc s1) := fun F1 H1 g1 s Q q => by
  unfold lcSC at hm
  split at hm
  case isFalse => cases hm
  rename_i hl
  refine hi F1 H1 g1 s _ fun J F2 H2 g2 s2 hs => ?_
  intro p hp
  have s3 : Sta F2 ((p, .lst []) :: cc s0) (upd H2 p (.lst [])) := s2.cell hp
  refine ⟨fun i m H4 => m = xs.length - i ∧ i ≤ xs.length ∧ ∃ us done rest z F4, us.length ≤ i ∧ Gr F2 F4 ∧ Sta F4 ((p, .lst us) :: cc z) H4 ∧ Dts K F4 us (done.map em) ∧ lcS f z (xs.drop i) = some (s1, rest) ∧ done ++ rest = ys,
    ⟨xs.length, by simp, Nat.zero_le _, [], [], ys, s0, F2, Nat.le_refl _, .rfl, s3, .nil, by simpa using hm, rfl⟩, ?_⟩
  rintro i m H4 ⟨rfl, hi, us, done, rest, z, F4, hu, g4, s4, hd, hr, he⟩
  obtain ⟨hgo, hstop, hy⟩ := hs F4 _ H4 g4 s4
  by_cases hlt : i < xs.length
  · rw [List.drop_eq_getElem_cons hlt] at hr
    obtain ⟨⟨z', o⟩, ho, hr⟩ := bnd (show (f z xs[i]).bind _ = some (s1, rest) from hr)
    obtain ⟨⟨s1', zs⟩, hz, hr⟩ := bnd hr
    dsimp only at hz hr
    refine .inr ⟨hgo i (by simpa using hlt), fun H' => i + 1 ≤ xs.length ∧ ∃ us done rest z F4, us.length ≤ i + 1 ∧ Gr F2 F4 ∧ Sta F4 ((p, .lst us) :: cc z) H' ∧ Dts K F4 us (done.map em) ∧ lcS f z (xs.drop (i + 1)) = some (s1, rest) ∧ done ++ rest = ys, fun H' h' => ⟨xs.length - (i + 1), by omega, rfl, h'⟩, fun x H' y => ?_⟩
    obtain ⟨F5, g5, s5, d5⟩ := hy i x H' (en xs[i]) (by rw [List.getElem?_map, List.getElem?_eq_getElem hlt]; rfl) y
    obtain ⟨σ2, h1, h2, h3, hn, h4⟩ := turn xs[i] z z' o x F5 p us (g1.tr (g2.tr (g4.tr g5))) d5 ho
    refine h1 H' _ s5 ⟨h2, h3 F5 H' .rfl s5 _ fun F6 H6 g6 s6 => ?_⟩
    cases o with
    | none =>
      cases hr
      cases hn rfl
      exact ⟨hlt, us, done, zs, z, F6, Nat.le_succ_of_le hu, g4.tr (g5.tr g6), s6, hd.gr (g5.tr g6), hz, he⟩
    | some y1 =>
      cases hr
      refine (h4 y1 rfl) F6 H6 g6 s6 _ fun v F7 H7 g7 s7 hv => ⟨us, s7.at List.mem_cons_self, szl (by omega), hlt, us ++ [v], done ++ [y1], zs, z', F7, by rw [List.length_append]; exact Nat.succ_le_succ hu, g4.tr (g5.tr (g6.tr g7)), s7.put, ?_, hz, ?_⟩
      · rw [List.map_append]
        exact (hd.gr (g5.tr (g6.tr g7))).app (.cons hv .nil)
      · rw [List.append_assoc]; exact he
  · have e : i = xs.length := by omega
    subst e
    rw [List.drop_length] at hr
    cases hr
    rw [List.append_nil] at he
    subst he
    exact .inl ⟨by simpa using hstop, q p us F4 H4 (g2.tr g4) s4 hd⟩
/-! changes of a cell, where the values change other cells -/
theorem s_appX {k1 k2 l1 l2 : Cs} {i : Nat} {p : Addr} {vs : List V} (s : Sta F (k1 ++ (p, .lst vs) :: k2) H) (hi : σ[i]? = some (some (.ref p))) (h : EvD K te σ F (k1 ++ (p, .lst vs) :: k2) d (l1 ++ (p, .lst vs) :: l2)) (hl : vs.length < 100000)
    (q : ∀ v F2 H2, Gr F F2 → Sta F2 (l1 ++ (p, .lst (vs ++ [v])) :: l2) H2 → Dt K F2 v d → nx σ H2) : tDrop (tBM K "list" rAppend (tVar i) (tCons te tNil)) ⟨nx, rt, bk, ct⟩ σ H :=
  ⟨.ref p, hi, .inl ⟨rfl, _, .inl (.inl s.getAt)⟩, h F H .rfl s _ fun v F2 H2 g2 s2 h2 => ⟨p, vs, v, rfl, rfl, s2.getAt, szl hl, q v F2 _ g2 s2.putAt h2⟩⟩
theorem s_appFX {α : Type} {vf : α → V} {en : α → PyData} {k1 k2 l1 l2 : Cs} {i : Nat} {p : Addr} {xs ys : List α} {x : α} (hw : ∀ F v x, Dt K F v (en x) → v = vf x) (s : Sta F (k1 ++ (p, .lst (xs.map vf)) :: k2) H) (hi : σ[i]? = some (some (.ref p))) (h : EvD K te σ F (k1 ++ (p, .lst (xs.map vf)) :: k2) (en x) (l1 ++ (p, .lst (xs.map vf)) :: l2)) (hm : appM xs x = some ys)
    (q : ∀ F2 H2, Gr F F2 → Sta F2 (l1 ++ (p, .lst (ys.map vf)) :: l2) H2 → nx σ H2) : tDrop (tBM K "list" rAppend (tVar i) (tCons te tNil)) ⟨nx, rt, bk, ct⟩ σ H := by
  obtain ⟨hl, rfl⟩ := appM_some hm
  refine s_appX s hi h (by rw [List.length_map]; exact hl) fun v F2 H2 g2 s2 h2 => q F2 H2 g2 ?_
  cases hw F2 v x h2
  rw [List.map_append]; exact s2
theorem s_appGX {α : Type} {en : α → PyData} {k1 k2 l1 l2 : Cs} {i : Nat} {p : Addr} {vs : List V} {xs ys : List α} {x : α} (s : Sta F (k1 ++ (p, .lst vs) :: k2) H) (hf : Dts K F vs (xs.map en)) (hi : σ[i]? = some (some (.ref p))) (h : EvD K te σ F (k1 ++ (p, .lst vs) :: k2) (en x) (l1 ++ (p, .lst vs) :: l2)) (hm : appM xs x = some ys)
    (q : ∀ us F2 H2, Gr F F2 → Sta F2 (l1 ++ (p, .lst us) :: l2) H2 → Dts K F2 us (ys.map en) → nx σ H2) : tDrop (tBM K "list" rAppend (tVar i) (tCons te tNil)) ⟨nx, rt, bk, ct⟩ σ H := by
  obtain ⟨hl, rfl⟩ := appM_some hm
  refine s_appX s hi h (by rw [hf.len, List.length_map]; exact hl) fun v F2 H2 g2 s2 h2 => q _ F2 H2 g2 s2 ?_
  rw [List.map_append]; exact (hf.gr g2).app (.cons h2 .nil)
theorem s_itemX {k1 k2 m1 m2 l1 l2 : Cs} {i : Nat} {p : Addr} {vs : List V} {ti : TE} {k : Int} {j : Nat} (s : Sta F (k1 ++ (p, .lst vs) :: k2) H) (hi : σ[i]? = some (some (.ref p))) (h : EvD K te σ F (k1 ++ (p, .lst vs) :: k2) d (m1 ++ (p, .lst vs) :: m2))
    (h2 : EvD K ti σ F (m1 ++ (p, .lst vs) :: m2) (.int k) (l1 ++ (p, .lst vs) :: l2)) (hj : ixN vs.length k = some j) (q : ∀ v F2 H2, Gr F F2 → Sta F2 (l1 ++ (p, .lst (vs.set j v)) :: l2) H2 → Dt K F2 v d → nx σ H2) : tAsg te (gSub (tVar i) ti rSetL) ⟨nx, rt, bk, ct⟩ σ H :=
  h F H .rfl s _ fun v F2 H2 g2 s2 hv => ⟨.ref p, hi, h2 F2 H2 g2 s2 _ fun w F3 H3 g3 s3 hw => ⟨p, vs, k, j, rfl, hw.toInt, s3.getAt, hj, q v F3 _ (g2.tr g3) s3.putAt (hv.gr g3)⟩⟩
theorem s_itemFX {α : Type} {vf : α → V} {en : α → PyData} {k1 k2 m1 m2 l1 l2 : Cs} {i : Nat} {p : Addr} {xs ys : List α} {x : α} {ti : TE} {k : Int} (hw : ∀ F v x, Dt K F v (en x) → v = vf x) (s : Sta F (k1 ++ (p, .lst (xs.map vf)) :: k2) H) (hi : σ[i]? = some (some (.ref p))) (h : EvD K te σ F (k1 ++ (p, .lst (xs.map vf)) :: k2) (en x) (m1 ++ (p, .lst (xs.map vf)) :: m2))
    (h2 : EvD K ti σ F (m1 ++ (p, .lst (xs.map vf)) :: m2) (.int k) (l1 ++ (p, .lst (xs.map vf)) :: l2)) (hm : setM xs k x = some ys) (q : ∀ F2 H2, Gr F F2 → Sta F2 (l1 ++ (p, .lst (ys.map vf)) :: l2) H2 → nx σ H2) : tAsg te (gSub (tVar i) ti rSetL) ⟨nx, rt, bk, ct⟩ σ H := by
  obtain ⟨j, hj, rfl⟩ := setM_some hm
  refine s_itemX (j := j) s hi h h2 (by rw [List.length_map]; exact hj) fun v F2 H2 g2 s2 hv => q F2 H2 g2 ?_
  cases hw F2 v x hv
  rw [List.map_set]; exact s2
theorem s_itemGX {α : Type} {en : α → PyData} {k1 k2 m1 m2 l1 l2 : Cs} {i : Nat} {p : Addr} {vs : List V} {xs ys : List α} {x : α} {ti : TE} {k : Int} (s : Sta F (k1 ++ (p, .lst vs) :: k2) H) (hf : Dts K F vs (xs.map en)) (hi : σ[i]? = some (some (.ref p))) (h : EvD K te σ F (k1 ++ (p, .lst vs) :: k2) (en x) (m1 ++ (p, .lst vs) :: m2))
    (h2 : EvD K ti σ F (m1 ++ (p, .lst vs) :: m2) (.int k) (l1 ++ (p, .lst vs) :: l2)) (hm : setM xs k x = some ys) (q : ∀ us F2 H2, Gr F F2 → Sta F2 (l1 ++ (p, .lst us) :: l2) H2 → Dts K F2 us (ys.map en) → nx σ H2) : tAsg te (gSub (tVar i) ti rSetL) ⟨nx, rt, bk, ct⟩ σ H := by
  obtain ⟨j, hj, rfl⟩ := setM_some hm
  refine s_itemX (j := j) s hi h h2 (by rw [hf.len, List.length_map]; exact hj) fun v F2 H2 g2 s2 hv => q _ F2 H2 g2 s2 ?_
  rw [List.map_set]; exact (hf.gr g2).setAt j hv
end
end Bw
namespace Bw
open PySem L2
section
variable {K : PySem.W.Frag} {σ : St} {F F' : Hp} {cs cs1 cs2 cs3 : Cs} {ta tb tc te : TE} {d e : PyData} {as : TA} {a b c : Int} {nx bk ct : St → Hp → Prop} {rt : VK} {H : Hp} {t u : TS}
theorem s_augI {i : Nat} {σ' : St} {w b : Int} {f : Int → Int → Int} (hx : σ[i]? = some (some (.int w))) (s : Sta F cs H) (h : EvD K te σ F cs (.int b) cs1) (hσ : σ.set i (some (.int (f w b))) = σ') (q : ∀ F2 H2, Gr F F2 → Sta F2 cs1 H2 → nx σ' H2) : tAug i te (ipI f) ⟨nx, rt, bk, ct⟩ σ H :=
  ⟨.int w, hx, h F H .rfl s _ fun v F2 H2 g2 s2 h2 => ⟨w, b, rfl, h2.toInt, by show nx (σ.set i (some (.int (f w b)))) H2; rw [hσ]; exact q F2 H2 g2 s2⟩⟩
def rGetL (K : PySem.W.Frag) : V → V → Hp → VK → Prop := rIxL K
/-- o[i] op= e, o a cell of ints -/
theorem s_augS {k1 k2 m1 m2 l1 l2 : Cs} {i : Nat} {p : Addr} {xs ys : List Int} {ti : TE} {k w b : Int} {f : Int → Int → Int} (s : Sta F (k1 ++ (p, .lst (xs.map V.int)) :: k2) H) (hi : σ[i]? = some (some (.ref p))) (h1 : EvD K ti σ F (k1 ++ (p, .lst (xs.map V.int)) :: k2) (.int k) (m1 ++ (p, .lst (xs.map V.int)) :: m2)) (hg : atI xs k = some w)
    (h2 : EvD K te σ F (m1 ++ (p, .lst (xs.map V.int)) :: m2) (.int b) (l1 ++ (p, .lst (xs.map V.int)) :: l2)) (hm : setM xs k (f w b) = some ys) (q : ∀ F2 H2, Gr F F2 → Sta F2 (l1 ++ (p, .lst (ys.map V.int)) :: l2) H2 → nx σ H2) : tAugS (tVar i) ti te (rIxL K) (ipI f) rSetL ⟨nx, rt, bk, ct⟩ σ H := by
  obtain ⟨j, hj, rfl⟩ := setM_some hm
  refine ⟨.ref p, hi, h1 F H .rfl s _ fun v F2 H2 g2 s2 hv => ⟨p, xs.map V.int, k, .int w, rfl, hv.toInt, .inl (.inl s2.getAt), by rw [atI_map, hg]; rfl, h2 F2 H2 g2 s2 _ fun y F3 H3 g3 s3 hy => ⟨w, b, rfl, hy.toInt, p, xs.map V.int, k, j, rfl, hv.toInt, s3.getAt, by rw [List.length_map]; exact hj, q F3 _ (g2.tr g3) ?_⟩⟩⟩
  rw [List.map_set]; exact s3.putAt
theorem s_popFX {α : Type} {vf : α → V} {en : α → PyData} {k1 k2 l1 l2 : Cs} {i j : Nat} {p : Addr} {xs ys : List α} {x : α} {ti : TE} {k : Int} {σ' : St} (hd : ∀ F x, Dt K F (vf x) (en x)) (s : Sta F (k1 ++ (p, .lst (xs.map vf)) :: k2) H) (hi : σ[i]? = some (some (.ref p)))
    (h2 : EvD K ti σ F (k1 ++ (p, .lst (xs.map vf)) :: k2) (.int k) (l1 ++ (p, .lst (xs.map vf)) :: l2)) (hm : popM xs k = some (x, ys)) (hσ : σ.set j (some (vf x)) = σ') (q : ∀ F2 H2, Gr F F2 → Sta F2 (l1 ++ (p, .lst (ys.map vf)) :: l2) H2 → nx σ' H2) : tAsg (tBM K "list" rPopAt (tVar i) (tCons ti tNil)) (gName j) ⟨nx, rt, bk, ct⟩ σ H := by
  obtain ⟨⟨a1, a2⟩, m, b1, b2, rfl⟩ := popM_some hm
  refine ⟨.ref p, hi, .inl ⟨rfl, _, .inl (.inl s.getAt)⟩, h2 F H .rfl s _ fun w F3 H3 g3 s3 hw => ⟨p, xs.map vf, k, m, vf x, rfl, by cases hw.toInt; rfl, s3.getAt, a1, a2, by rw [List.length_map]; exact b1, by rw [List.getElem?_map, b2]; rfl, ?_⟩⟩
  show nx (σ.set j (some (vf x))) _
  rw [hσ]
  refine q F3 _ g3 ?_
  have s4 := s3.putAt (o' := .lst ((xs.map vf).eraseIdx m))
  rw [er_map]
  exact s4
theorem s_remFX {k1 k2 l1 l2 : Cs} {i : Nat} {p : Addr} {xs ys : List Int} {ti : TE} {k : Int} (s : Sta F (k1 ++ (p, .lst (xs.map V.int)) :: k2) H) (hi : σ[i]? = some (some (.ref p)))
    (h2 : EvD K ti σ F (k1 ++ (p, .lst (xs.map V.int)) :: k2) (.int k) (l1 ++ (p, .lst (xs.map V.int)) :: l2)) (hm : remM xs k = some ys) (q : ∀ F2 H2, Gr F F2 → Sta F2 (l1 ++ (p, .lst (ys.map V.int)) :: l2) H2 → nx σ H2) : tDrop (tBM K "list" rRemI (tVar i) (tCons ti tNil)) ⟨nx, rt, bk, ct⟩ σ H := by
  unfold remM at hm; split at hm
  · rename_i hin
    cases hm
    obtain ⟨j, e1, e2, e3⟩ := rem_at hin
    refine ⟨.ref p, hi, .inl ⟨rfl, _, .inl (.inl s.getAt)⟩, h2 F H .rfl s _ fun w F3 H3 g3 s3 hw => ⟨p, xs, k, j, rfl, by cases hw.toInt; rfl, s3.getAt, e1, e2, q F3 _ g3 ?_⟩⟩
    rw [e3]
    exact s3.putAt
  · cases hm
/-! f-strings -/
def EvJ (K : PySem.W.Frag) (ts : List TE) (σ : St) (F : Hp) (cs : Cs) (acc out : Str) (cs' : Cs) : Prop :=
  ∀ F1 H1, Gr F F1 → Sta F1 cs H1 → ∀ Q : Str → Hp → Prop, (∀ F2 H2, Gr F1 F2 → Sta F2 cs' H2 → Q out H2) → tJs ts acc σ H1 Q
theorem j_nil {acc : Str} : EvJ K [] σ F cs acc acc cs := fun F1 H1 g s Q q => q F1 H1 .rfl s
theorem j_cons {acc x y out : Str} {ts : List TE} (h : EvD K te σ F cs (.str x) cs1) (hy : scatM acc x = some y) (h2 : EvJ K ts σ F cs1 y out cs2) : EvJ K (te :: ts) σ F cs acc out cs2 := fun F1 H1 g1 s Q q =>
  h F1 H1 g1 s _ fun v F2 H2 g2 s2 hv => by
    obtain ⟨hl, rfl⟩ := scatM_some hy
    refine ⟨x, hv.toStr, ?_, h2 F2 H2 (g1.tr g2) s2 Q fun F3 H3 g3 s3 => q F3 H3 (g2.tr g3) s3⟩
    rw [TL.len_tl, TL.tl_append, List.length_append, ← TL.len_tl, ← TL.len_tl]
    exact sz hl
theorem d_fstr {ts : List TE} {out : Str} (h : EvJ K ts σ F cs Str.empty out cs1) : EvD K (fun σ H Q => tJs ts Str.empty σ H fun out H1 => Q (.str out) H1) σ F cs (.str out) cs1 := fun F1 H1 g1 s Q q =>
  h F1 H1 g1 s _ fun F2 H2 g2 s2 => q _ F2 H2 g2 s2 (.str _)
theorem d_fmtS {x : Str} (h : EvD K te σ F cs (.str x) cs1) (hl : lenS x = some a) : EvD K (tFmt te) σ F cs (.str x) cs1 := fun F1 H1 g1 s Q q =>
  h F1 H1 g1 s _ fun v F2 H2 g2 s2 hv => .inl ⟨x, hv.toStr, sz (lenS_some hl).1, q _ F2 H2 g2 s2 (.str _)⟩
theorem d_fmtI {x : Str} (h : EvD K te σ F cs (.int a) cs1) (hn : strM a = some x) : EvD K (tFmt te) σ F cs (.str x) cs1 := fun F1 H1 g1 s Q q =>
  h F1 H1 g1 s _ fun v F2 H2 g2 s2 hv => by
    obtain ⟨h1, rfl⟩ := strM_some hn
    exact .inr ⟨a, hv.toInt, h1, q _ F2 H2 g2 s2 (.str _)⟩
end
end Bw
namespace Bw
open PySem L2
theorem get_list {X : Cx} : PGet X (rIxL X.K) := by
  intro pins s σ H x y v u Q I rx ry h
  obtain ⟨p, xs, i, z, rfl, rfl, hq, he, q⟩ := h
  cases rx
  obtain ⟨t, rfl⟩ := ry
  obtain ⟨its, r, pl, hz⟩ := I.list hq
  obtain ⟨j, h1, h2, h3, h4, h5⟩ := atI_get he
  obtain ⟨w, ew, rw'⟩ := r.get h2
  have hl := r.length
  have hn := line63
  have fin : EP X pins σ Q w s := ⟨z, H, I, rw', q⟩
  by_cases h0 : 0 ≤ i
  · have hj : i.toNat = j := by
      rw [seqIndex_of h0 h5] at h1
      exact Option.some.inj h1
    exact wpAny_getItem_list pl.isList h0 (by omega) (by rw [hj]; simpa using ew) fin
  · have hj : (i + (its.toArray.size : Int)).toNat = j := by
      rw [seqIndex_neg (by omega) h4] at h1
      rw [List.size_toArray, ← hl]
      exact Option.some.inj h1
    exact wpAny_getItem_list_neg pl.isList (by omega) (by rw [List.size_toArray] <;> omega) (by omega) (by rw [hj]; simpa using ew) fin
end Bw
namespace Bw
open PySem L2
section
variable {K : PySem.W.Frag} {σ : St} {F F' : Hp} {cs cs1 cs2 cs3 : Cs} {ta tb tc te : TE} {d e : PyData} {as : TA} {a b c : Int} {nx bk ct : St → Hp → Prop} {rt : VK} {H : Hp} {t u : TS}
/-! what keeps the state true: another order, fewer cells -/
def Sb (c c' : Cs) : Prop := ∀ F H, Sta F c H → Sta F c' H
theorem sb_rfl : Sb cs cs := fun _ _ s => s
theorem sb_perm (p : cs.Perm cs1) : Sb cs cs1 := fun _ _ s => s.perm p
theorem sb_drop {c : Addr × HO} : Sb (c :: cs) cs := fun F H s => ⟨s.fr, fun p hp => s.sep p (List.mem_cons_of_mem _ hp), fun p hp => s.has p (List.mem_cons_of_mem _ hp), by have := s.nd; rw [List.map_cons, List.nodup_cons] at this; exact this.2⟩
theorem Sb.tr (h : Sb cs cs1) (k : Sb cs1 cs2) : Sb cs cs2 := fun F H s => k F H (h F H s)
/-- a function that changes cells, and tells data -/
theorem d_callX {α β : Type} {A : α → List Ar} {B : β → PyData} {C : β → List (List V)} {f : α → Option β} {x : α} {y : β} {E : XK} {cc cs' : Cs} (h : EvR K as σ F cs (A x) cc cs1) (hp : Sb cs1 (cc ++ cs')) (hf : f x = some y) (hq : Sb (upC cc (C y) ++ cs') cs2) : EvD K (tCall (spC K A B C f) [] E as) σ F cs (B y) cs2 := fun F1 H1 g1 s Q q =>
  h F1 H1 g1 s _ fun vs F2 H2 g2 s2 h2 => ⟨F2, cc, cs', x, y, by rw [List.append_nil]; exact h2, hp _ _ s2, hf, fun v F3 H3 g3 s3 h3 => q v F3 H3 (g2.tr g3) (hq _ _ s3) h3⟩
/-- .. that tells a new list -/
def spF (K : PySem.W.Frag) {α β : Type} (A : α → List Ar) (B : β → List PyData) (C : β → List (List V)) (f : α → Option β) : Sp := fun vs H Q _ => ∃ F cc cs x y, ArgR K F vs (A x) cc ∧ Sta F (cc ++ cs) H ∧ f x = some y ∧ ∀ p us F2 H2, Gr F F2 → Sta F2 ((p, .lst us) :: (upC cc (C y) ++ cs)) H2 → Dts K F2 us (B y) → Q (.ref p) H2
theorem c_callX {α β : Type} {A : α → List Ar} {B : β → List PyData} {C : β → List (List V)} {f : α → Option β} {x : α} {y : β} {E : XK} {cc cs' : Cs} (h : EvR K as σ F cs (A x) cc cs1) (hp : Sb cs1 (cc ++ cs')) (hf : f x = some y) (hq : ∀ z, Sb (z :: (upC cc (C y) ++ cs')) (z :: cs2)) : EvC K (tCall (spF K A B C f) [] E as) σ F cs (B y) cs2 := fun F1 H1 g1 s Q q =>
  h F1 H1 g1 s _ fun vs F2 H2 g2 s2 h2 => ⟨F2, cc, cs', x, y, by rw [List.append_nil]; exact h2, hp _ _ s2, hf, fun p us F3 H3 g3 s3 h3 => q p us F3 H3 (g2.tr g3) (hq _ _ _ s3) h3⟩
/-- an argument that is a new list of flat things -/
theorem r_n {xs : List Ar} {cc : Cs} {ds : List PyData} {us : List V} (h : EvC K te σ F cs ds cs1) (hu : ∀ F vs, Dts K F vs ds → vs = us) (h2 : ∀ p, EvR K as σ F ((p, .lst us) :: cs1) xs cc cs2) : True := trivial
theorem s_retC {ds : List PyData} (s : Sta F cs H) (h : EvC K te σ F cs ds cs1) (q : ∀ p us F2 H2, Gr F F2 → Sta F2 ((p, .lst us) :: cs1) H2 → Dts K F2 us ds → rt (.ref p) H2) : tRet te ⟨nx, rt, bk, ct⟩ σ H := h F H .rfl s _ q
theorem s_retV {i : Nat} {v : V} (hi : σ[i]? = some (some v)) (q : rt v H) : tRet (tVar i) ⟨nx, rt, bk, ct⟩ σ H := ⟨v, hi, q⟩
def fuel : Nat := 100000
end
end Bw
namespace Bw
open PySem L2
section
variable {K : PySem.W.Frag} {σ : St} {F F' : Hp} {cs cs1 cs2 cs3 : Cs} {ta tb tc te : TE} {d e : PyData} {as : TA}
/-- the first argument is a new list of flat things, which nobody keeps -/
theorem d_callN {α β : Type} {A : α → List Ar} {B : β → PyData} {C : β → List (List V)} {f : α → Option β} {x : α} {y : β} {E : XK} {cc cs' : Cs} {ds : List PyData} {us : List V} {xs : List Ar} (h : EvC K te σ F cs ds cs1) (hu : ∀ F vs, Dts K F vs ds → vs = us) (hA : A x = .c us :: xs) (h2 : ∀ p, EvR K as σ F ((p, .lst us) :: cs1) xs cc ((p, .lst us) :: cs2))
    (hp : ∀ p, Sb ((p, .lst us) :: cs2) ((p, .lst us) :: cc ++ cs')) (hf : f x = some y) (hq : ∀ p, Sb (upC ((p, .lst us) :: cc) (C y) ++ cs') cs3) : EvD K (tCall (spC K A B C f) [] E (tCons te as)) σ F cs (B y) cs3 := fun F1 H1 g1 s Q q =>
  h F1 H1 g1 s _ fun p vs F2 H2 g2 s2 hv => by
    cases hu F2 vs hv
    refine h2 p F2 H2 (g1.tr g2) s2 _ fun ws F3 H3 g3 s3 h3 => ⟨F3, (p, .lst us) :: cc, cs', x, y, by rw [List.append_nil, hA]; exact .c h3, hp p _ _ s3, hf, fun v F4 H4 g4 s4 h4 => q v F4 H4 ((g2.tr g3).tr g4) (hq p _ _ s4) h4⟩
theorem c_callN {α β : Type} {A : α → List Ar} {B : β → List PyData} {C : β → List (List V)} {f : α → Option β} {x : α} {y : β} {E : XK} {cc cs' : Cs} {ds : List PyData} {us : List V} {xs : List Ar} (h : EvC K te σ F cs ds cs1) (hu : ∀ F vs, Dts K F vs ds → vs = us) (hA : A x = .c us :: xs) (h2 : ∀ p, EvR K as σ F ((p, .lst us) :: cs1) xs cc ((p, .lst us) :: cs2))
    (hp : ∀ p, Sb ((p, .lst us) :: cs2) ((p, .lst us) :: cc ++ cs')) (hf : f x = some y) (hq : ∀ p z, Sb (z :: (upC ((p, .lst us) :: cc) (C y) ++ cs')) (z :: cs3)) : EvC K (tCall (spF K A B C f) [] E (tCons te as)) σ F cs (B y) cs3 := fun F1 H1 g1 s Q q =>
  h F1 H1 g1 s _ fun p vs F2 H2 g2 s2 hv => by
    cases hu F2 vs hv
    refine h2 p F2 H2 (g1.tr g2) s2 _ fun ws F3 H3 g3 s3 h3 => ⟨F3, (p, .lst us) :: cc, cs', x, y, by rw [List.append_nil, hA]; exact .c h3, hp p _ _ s3, hf, fun p' us' F4 H4 g4 s4 h4 => q p' us' F4 H4 ((g2.tr g3).tr g4) (hq p _ _ _ s4) h4⟩
end
end Bw

namespace Bw
open PySem L2
section
variable {K : PySem.W.Frag} {σ : St} {F F' : Hp} {cs cs1 cs2 cs3 : Cs} {ta tb tc te : TE} {d e : PyData} {as : TA} {a b c : Int} {nx bk ct : St → Hp → Prop} {rt : VK} {H : Hp} {t u : TS}
/-- a cell lent for a new list of flat things -/
theorem c_lendX {l1 l2 m1 m2 : Cs} {p : Addr} {o : HO} {ds : List PyData} {ws : List V} (hw : ∀ F vs, Dts K F vs ds → vs = ws) (hd : ∀ F, Dts K F ws ds) (h : ∀ F1, Gr F F1 → F1 p = none → EvC K te σ (upd F1 p o) (l1 ++ l2) ds (m1 ++ m2)) : EvC K te σ F (l1 ++ (p, o) :: l2) ds (m1 ++ (p, o) :: m2) := fun F1 H1 g1 s Q q => by
  refine h F1 g1 s.freeAt (upd F1 p o) H1 .rfl s.frozeAt Q fun p' vs F2 H2 g2 s2 h2 => ?_
  cases hw F2 vs h2
  exact q p' ws (cut F2 p) H2 (gr_cut s.freeAt g2) (Sta.lent (l1 := (p', .lst ws) :: m1) g2 s2) (hd _)
/-- xs.count(k) -/
theorem d_cntI {xs : List Int} (ha : EvD K ta σ F cs (eL eI xs) cs1) (hb : EvD K tb σ F cs1 (.int b) cs2) : EvD K (tBM K "list" (rCntI K) ta (tCons tb tNil)) σ F cs (.int ((xs.count b : Nat) : Int)) cs2 := fun F1 H1 g1 s Q q =>
  ha F1 H1 g1 s _ fun v F2 H2 g2 s2 h2 => by
    obtain ⟨p, vs, rfl, hl, hd⟩ := h2.toLst
    cases hd.ints
    exact ⟨.inl ⟨rfl, _, gr_L s2.fr hl⟩, hb F2 H2 (g1.tr g2) s2 _ fun w F3 H3 g3 s3 h3 => ⟨p, xs, b, rfl, by rw [h3.toInt], gr_L s3.fr (gr_L g3 hl), q _ F3 H3 (g2.tr g3) s3 (.int _)⟩⟩
/-- y.extend(new list) -/
theorem s_ext {k1 k2 l1 l2 : Cs} {i : Nat} {p : Addr} {vs : List V} {ds : List PyData} (s : Sta F (k1 ++ (p, .lst vs) :: k2) H) (hi : σ[i]? = some (some (.ref p))) (h : EvC K te σ F (k1 ++ (p, .lst vs) :: k2) ds (l1 ++ (p, .lst vs) :: l2)) (hl : vs.length + ds.length ≤ 100000)
    (q : ∀ us F2 H2, Gr F F2 → Sta F2 (l1 ++ (p, .lst (vs ++ us)) :: l2) H2 → Dts K F2 us ds → nx σ H2) : tDrop (tBM K "list" rExtend (tVar i) (tCons te tNil)) ⟨nx, rt, bk, ct⟩ σ H :=
  ⟨.ref p, hi, .inl ⟨rfl, _, .inl (.inl s.getAt)⟩, h F H .rfl s _ fun b us F2 H2 g2 s2 h2 => ⟨p, b, vs, us, rfl, rfl, Sta.getAt (l1 := (b, .lst us) :: l1) s2, s2.at List.mem_cons_self, by rw [h2.len]; exact sz hl, q us _ _ (g2.tr s2.gfr) s2.froze.putAt (h2.gr s2.gfr)⟩⟩
theorem s_extFX {α : Type} {vf : α → V} {en : α → PyData} {k1 k2 l1 l2 : Cs} {i : Nat} {p : Addr} {xs ys zs : List α} (hw : ∀ F vs (ys : List α), Dts K F vs (ys.map en) → vs = ys.map vf) (s : Sta F (k1 ++ (p, .lst (xs.map vf)) :: k2) H) (hi : σ[i]? = some (some (.ref p))) (h : EvC K te σ F (k1 ++ (p, .lst (xs.map vf)) :: k2) (ys.map en) (l1 ++ (p, .lst (xs.map vf)) :: l2)) (hm : catM xs ys = some zs)
    (q : ∀ F2 H2, Gr F F2 → Sta F2 (l1 ++ (p, .lst (zs.map vf)) :: l2) H2 → nx σ H2) : tDrop (tBM K "list" rExtend (tVar i) (tCons te tNil)) ⟨nx, rt, bk, ct⟩ σ H := by
  obtain ⟨hl, rfl⟩ := catM_some hm
  refine s_ext s hi h (by rw [List.length_map, List.length_map]; exact hl) fun us F2 H2 g2 s2 h2 => q F2 H2 g2 ?_
  cases hw F2 us ys h2
  rw [List.map_append]; exact s2
theorem s_extGX {α : Type} {en : α → PyData} {k1 k2 l1 l2 : Cs} {i : Nat} {p : Addr} {vs : List V} {xs ys zs : List α} (s : Sta F (k1 ++ (p, .lst vs) :: k2) H) (hf : Dts K F vs (xs.map en)) (hi : σ[i]? = some (some (.ref p))) (h : EvC K te σ F (k1 ++ (p, .lst vs) :: k2) (ys.map en) (l1 ++ (p, .lst vs) :: l2)) (hm : catM xs ys = some zs)
    (q : ∀ us F2 H2, Gr F F2 → Sta F2 (l1 ++ (p, .lst us) :: l2) H2 → Dts K F2 us (zs.map en) → nx σ H2) : tDrop (tBM K "list" rExtend (tVar i) (tCons te tNil)) ⟨nx, rt, bk, ct⟩ σ H := by
  obtain ⟨hl, rfl⟩ := catM_some hm
  refine s_ext s hi h (by rw [hf.len, List.length_map, List.length_map]; exact hl) fun us F2 H2 g2 s2 h2 => q _ F2 H2 g2 s2 ?_
  rw [List.map_append]; exact (hf.gr g2).app h2
/-- y.clear() -/
theorem s_clr {l1 l2 : Cs} {i : Nat} {p : Addr} {vs : List V} (s : Sta F (l1 ++ (p, .lst vs) :: l2) H) (hi : σ[i]? = some (some (.ref p))) (q : Sta F (l1 ++ (p, .lst []) :: l2) (upd H p (.lst [])) → nx σ (upd H p (.lst []))) : tDrop (tBM0 K "list" rClear (tVar i)) ⟨nx, rt, bk, ct⟩ σ H :=
  ⟨.ref p, hi, .inl ⟨rfl, _, .inl (.inl s.getAt)⟩, p, vs, rfl, rfl, s.getAt, q s.putAt⟩
end
end Bw

namespace Bw
open PySem L2
/-! things of any kind: casts -/
def Ck {α : Type} (e : α → PyData) (c : PyData → Option α) : Prop := ∀ d x, c d = some x → d = e x
def asI : PyData → Option Int
  | .int i => some i
  | _ => none
def asB : PyData → Option Bool
  | .bool b => some b
  | _ => none
def asS : PyData → Option Str
  | .str x => some x
  | _ => none
def asN : PyData → Option Unit
  | .none => some ()
  | _ => none
def asAll {α : Type} (c : PyData → Option α) : List PyData → Option (List α)
  | [] => some []
  | d :: ds => (c d).bind fun x => (asAll c ds).bind fun xs => some (x :: xs)
def asL {α : Type} (c : PyData → Option α) : PyData → Option (List α)
  | .list ds => asAll c ds
  | _ => none
def asD (d : PyData) : Option PyData := some d
def asLD : PyData → Option (List PyData)
  | .list ds => some ds
  | _ => none
def asTD : PyData → Option (List PyData)
  | .tuple ds => some ds
  | _ => none
def asT2 {α β : Type} (c : PyData → Option α) (c' : PyData → Option β) : PyData → Option (α × β)
  | .tuple [a, b] => (c a).bind fun x => (c' b).bind fun y => some (x, y)
  | _ => none
def asT3 {α β γ : Type} (c : PyData → Option α) (c' : PyData → Option β) (c'' : PyData → Option γ) : PyData → Option (α × β × γ)
  | .tuple [a, b, d] => (c a).bind fun x => (c' b).bind fun y => (c'' d).bind fun z => some (x, y, z)
  | _ => none
def asT4 {α β γ δ : Type} (c : PyData → Option α) (c' : PyData → Option β) (c'' : PyData → Option γ) (c3 : PyData → Option δ) : PyData → Option (α × β × γ × δ)
  | .tuple [a, b, d, e] => (c a).bind fun x => (c' b).bind fun y => (c'' d).bind fun z => (c3 e).bind fun w => some (x, y, z, w)
  | _ => none
def asO {α : Type} (c : PyData → Option α) : PyData → Option (Option α)
  | .none => some none
  | d => (c d).bind fun x => some (some x)
theorem ck_D : Ck eD asD := fun d x h => by cases h; rfl
theorem ck_I : Ck eI asI := fun d x h => by cases d <;> first | (cases h; rfl) | cases h
theorem ck_B : Ck eB asB := fun d x h => by cases d <;> first | (cases h; rfl) | cases h
theorem ck_S : Ck eS asS := fun d x h => by cases d <;> first | (cases h; rfl) | cases h
theorem ck_N : Ck eN asN := fun d x h => by cases d <;> first | (cases h; rfl) | cases h
theorem ck_all {α : Type} {e : α → PyData} {c : PyData → Option α} (k : Ck e c) : ∀ {ds : List PyData} {xs : List α}, asAll c ds = some xs → ds = xs.map e
  | [], xs, h => by cases h; rfl
  | d :: ds, xs, h => by
    obtain ⟨x, h1, h⟩ := bnd h
    obtain ⟨ys, h2, h⟩ := bnd h
    cases h
    rw [k d x h1, ck_all k h2]; rfl
theorem ck_L {α : Type} {e : α → PyData} {c : PyData → Option α} (k : Ck e c) : Ck (eL e) (asL c) := fun d x h => by
  cases d with
  | list ds => exact congrArg PyData.list (ck_all k (show asAll c ds = some x from h))
  | _ => cases h
theorem ck_LD : Ck (eL eD) asLD := fun d x h => by
  cases d with
  | list ds =>
    cases h
    exact congrArg PyData.list (List.map_id' x).symm
  | _ => cases h
theorem ck_TD {d : PyData} {x : List PyData} (h : asTD d = some x) : d = .tuple x := by
  cases d with
  | tuple ds => cases h; rfl
  | _ => cases h
theorem ck_T2 {α β : Type} {e : α → PyData} {c : PyData → Option α} {e' : β → PyData} {c' : PyData → Option β} (k : Ck e c) (k' : Ck e' c') : Ck (eT2 e e') (asT2 c c') := fun d x h => by
  unfold asT2 at h
  split at h
  · obtain ⟨y, h1, h⟩ := bnd h
    obtain ⟨z, h2, h⟩ := bnd h
    cases h
    rw [k _ _ h1, k' _ _ h2]
  · cases h
theorem ck_T3 {α β γ : Type} {e : α → PyData} {c : PyData → Option α} {e' : β → PyData} {c' : PyData → Option β} {e2 : γ → PyData} {c2 : PyData → Option γ} (k : Ck e c) (k' : Ck e' c') (k2 : Ck e2 c2) : Ck (eT3 e e' e2) (asT3 c c' c2) := fun d x h => by
  unfold asT3 at h
  split at h
  · obtain ⟨y, h1, h⟩ := bnd h
    obtain ⟨z, h2, h⟩ := bnd h
    obtain ⟨z', h3, h⟩ := bnd h
    cases h
    rw [k _ _ h1, k' _ _ h2, k2 _ _ h3]
  · cases h
theorem ck_T4 {α β γ δ : Type} {e : α → PyData} {c : PyData → Option α} {e' : β → PyData} {c' : PyData → Option β} {e2 : γ → PyData} {c2 : PyData → Option γ} {e3 : δ → PyData} {c3 : PyData → Option δ} (k : Ck e c) (k' : Ck e' c') (k2 : Ck e2 c2) (k3 : Ck e3 c3) : Ck (eT4 e e' e2 e3) (asT4 c c' c2 c3) := fun d x h => by
  unfold asT4 at h
  split at h
  · obtain ⟨y, h1, h⟩ := bnd h
    obtain ⟨z, h2, h⟩ := bnd h
    obtain ⟨z', h3, h⟩ := bnd h
    obtain ⟨z2, h4, h⟩ := bnd h
    cases h
    rw [k _ _ h1, k' _ _ h2, k2 _ _ h3, k3 _ _ h4]
  · cases h
theorem ck_O {α : Type} {e : α → PyData} {c : PyData → Option α} (k : Ck e c) : Ck (eO e) (asO c) := fun d x h => by
  unfold asO at h
  split at h
  · cases h; rfl
  · obtain ⟨y, h1, h⟩ := bnd h
    cases h
    exact k _ _ h1
/-! .. and the other way -/
def Cv {α β : Type} (e : α → PyData) (e' : β → PyData) (g : α → β) : Prop := ∀ x, e x = e' (g x)
theorem cv_id {α : Type} {e : α → PyData} : Cv e e (fun x => x) := fun _ => rfl
theorem cv_D {α : Type} {e : α → PyData} : Cv e eD e := fun _ => rfl
theorem cv_some {α β : Type} {e : α → PyData} {e' : β → PyData} {g : α → β} (h : Cv e e' g) : Cv e (eO e') (fun x => some (g x)) := fun x => h x
theorem cv_none {β : Type} {e' : β → PyData} : Cv eN (eO e') (fun _ => (none : Option β)) := fun _ => rfl
theorem cv_O {α β : Type} {e : α → PyData} {e' : β → PyData} {g : α → β} (h : Cv e e' g) : Cv (eO e) (eO e') (fun x => x.map g) := fun x => by cases x with
  | none => rfl
  | some y => exact h y
theorem cv_OD {α : Type} {e : α → PyData} : Cv (eO e) eD (eO e) := fun _ => rfl
theorem cv_L {α β : Type} {e : α → PyData} {e' : β → PyData} {g : α → β} (h : Cv e e' g) : Cv (eL e) (eL e') (fun xs => xs.map g) := fun xs => by
  show PyData.list _ = PyData.list _
  rw [List.map_map]
  exact congrArg PyData.list (List.map_congr_left fun x _ => h x)
theorem cv_T2 {α α' β β' : Type} {e : α → PyData} {e' : α' → PyData} {g : α → α'} {f : β → PyData} {f' : β' → PyData} {k : β → β'} (h : Cv e e' g) (h' : Cv f f' k) : Cv (eT2 e f) (eT2 e' f') (fun x => (g x.1, k x.2)) := fun x => by
  show PyData.tuple _ = PyData.tuple _
  rw [h, h']
theorem cv_T3 {α α' β β' γ γ' : Type} {e : α → PyData} {e' : α' → PyData} {g : α → α'} {f : β → PyData} {f' : β' → PyData} {k : β → β'} {i : γ → PyData} {i' : γ' → PyData} {m : γ → γ'} (h : Cv e e' g) (h' : Cv f f' k) (h2 : Cv i i' m) : Cv (eT3 e f i) (eT3 e' f' i') (fun x => (g x.1, k x.2.1, m x.2.2)) := fun x => by
  show PyData.tuple _ = PyData.tuple _
  rw [h, h', h2]
theorem cv_T4 {α α' β β' γ γ' δ δ' : Type} {e : α → PyData} {e' : α' → PyData} {g : α → α'} {f : β → PyData} {f' : β' → PyData} {k : β → β'} {i : γ → PyData} {i' : γ' → PyData} {m : γ → γ'} {u : δ → PyData} {u' : δ' → PyData} {w : δ → δ'} (h : Cv e e' g) (h' : Cv f f' k) (h2 : Cv i i' m) (h3 : Cv u u' w) : Cv (eT4 e f i u) (eT4 e' f' i' u') (fun x => (g x.1, k x.2.1, m x.2.2.1, w x.2.2.2)) := fun x => by
  show PyData.tuple _ = PyData.tuple _
  rw [h, h', h2, h3]
/-! what is asked of things of any kind -/
def ixD : PyData → Int → Option PyData
  | .list ds, i => atI ds i
  | .tuple ds, i => atI ds i
  | .str x, i => (ixS x i).map PyData.str
  | _, _ => none
def lenD : PyData → Option Int
  | .list ds => some ds.length
  | .tuple ds => some ds.length
  | .str x => lenS x
  | _ => none
abbrev rLenG (K : PySem.W.Frag) : List V → Hp → VK → Prop := fun xs H Q => ∃ x n, xs = [x] ∧ LenV K x H n ∧ Q (.int n) H
theorem cr_lenG {X : Cx} : CallR X (.builtin "len") (rLenG X.K) := call_len
section
variable {K : PySem.W.Frag} {σ : St} {F F' : Hp} {cs cs1 cs2 cs3 : Cs} {ta tb tc te : TE} {d e : PyData} {as : TA} {a b c : Int}
theorem d_ixD {z : PyData} (ha : EvD K ta σ F cs d cs1) (hb : EvD K tb σ F cs1 (.int b) cs2) (hz : ixD d b = some z) : EvD K (tOp (rIx K) ta tb) σ F cs z cs2 := by
  intro F1 H1 g1 s Q q
  refine ha F1 H1 g1 s _ fun v F2 H2 g2 s2 h2 => hb F2 H2 (g1.tr g2) s2 _ fun w F3 H3 g3 s3 h3 => ?_
  cases d with
  | list ds =>
    refine .inl ?_
    have k := d_ixLs (K := K) (σ := [some v, some w]) (F := F3) (cs := cs2) (ta := tVar 0) (tb := tVar 1) (d_var rfl (h2.gr g3)) (d_var rfl h3) hz F3 H3 .rfl s3 Q fun v F4 H4 g4 s4 h4 => q v F4 H4 (g2.tr (g3.tr g4)) s4 h4
    obtain ⟨v', e', w', e'', k⟩ := k
    cases e'; cases e''; exact k
  | tuple ds =>
    refine .inr (.inl ?_)
    have k := d_ixT (K := K) (σ := [some v, some w]) (F := F3) (cs := cs2) (ta := tVar 0) (tb := tVar 1) (d_var rfl (h2.gr g3)) (d_var rfl h3) hz F3 H3 .rfl s3 Q fun v F4 H4 g4 s4 h4 => q v F4 H4 (g2.tr (g3.tr g4)) s4 h4
    obtain ⟨v', e', w', e'', k⟩ := k
    cases e'; cases e''; exact k
  | str x =>
    have hz : (ixS x b).map PyData.str = some z := hz
    cases hx : ixS x b with
    | none => rw [hx] at hz; cases hz
    | some y =>
      rw [hx] at hz; cases hz
      refine .inr (.inr ?_)
      have k := d_ixS (K := K) (σ := [some v, some w]) (F := F3) (cs := cs2) (ta := tVar 0) (tb := tVar 1) (d_var rfl (h2.gr g3)) (d_var rfl h3) hx F3 H3 .rfl s3 Q fun v F4 H4 g4 s4 h4 => q v F4 H4 (g2.tr (g3.tr g4)) s4 h4
      obtain ⟨v', e', w', e'', k⟩ := k
      cases e'; cases e''; exact k
  | none => cases hz
  | bool _ => cases hz
  | int _ => cases hz
  | dict _ => cases hz
theorem d_lenD {n : Int} (ha : EvDs K as σ F cs [d] cs1) (hn : lenD d = some n) : EvD K (tCB (rLenG K) as) σ F cs (.int n) cs1 := d_cb ha fun vs F2 H2 h s Q q => by
  obtain ⟨v, rfl, k1⟩ := h.one
  cases d with
  | list ds =>
    obtain ⟨p, ys, rfl, hl, hd⟩ := k1.toLst
    cases hn
    exact ⟨_, ys.length, rfl, .inl ⟨ys, gr_L s.fr hl, rfl⟩, q _ F2 H2 .rfl s (by rw [hd.len]; exact .int _)⟩
  | tuple ds =>
    obtain ⟨p, ys, rfl, hl, hd⟩ := k1.toTup
    cases hn
    exact ⟨_, ys.length, rfl, .inr ⟨ys, gr_T s.fr hl, rfl⟩, q _ F2 H2 .rfl s (by rw [hd.len]; exact .int _)⟩
  | str x =>
    cases k1.toStr
    obtain ⟨h1, rfl⟩ := lenS_some hn
    exact ⟨_, x.length, rfl, ⟨sz h1, rfl⟩, q _ F2 H2 .rfl s (.int _)⟩
  | none => cases hn
  | bool _ => cases hn
  | int _ => cases hn
  | dict _ => cases hn
/-- is True, is False -/
def isBlD (b : Bool) : PyData → Bool
  | .bool c => decide (c = b)
  | _ => false
/-- a walk over a tuple -/
theorem src_tup {p : Addr} {vs : List V} {ds : List PyData} (h : SqT K F p vs) (hd : Dts K F vs ds) : Src K (Itt K p) F ds := fun F1 c1 H1 g s => by
  have q : SqT K H1 p vs := gr_T s.fr (gr_T g h)
  refine ⟨fun i hi => ?_, ⟨vs, q, by rw [hd.len]; exact Nat.le_refl _⟩, fun i v H2 d e y => ?_⟩
  · have hi' : i < vs.length := by rw [hd.len]; exact hi
    exact ⟨vs, vs[i], q, List.getElem?_eq_getElem hi'⟩
  · obtain ⟨rfl, y⟩ := y
    obtain ⟨d', e', h'⟩ := hd.get (y vs q)
    rw [e] at e'; cases e'
    exact ⟨F1, .rfl, s, h'.gr g⟩
theorem i_tup {ds : List PyData} (h : EvD K te σ F cs (.tuple ds) cs1) : EvI K (iTup K te) σ F cs ds cs1 := fun F1 H1 g1 s R q =>
  h F1 H1 g1 s _ fun v F2 H2 g2 s2 h2 => by
    obtain ⟨p, vs, rfl, hs, hd⟩ := h2.toTup
    exact ⟨p, rfl, ⟨vs, gr_T s2.fr hs⟩, q _ F2 H2 g2 s2 (src_tup hs hd)⟩
/-- xs[::-1] -/
theorem c_rev {α : Type} {en : α → PyData} {xs : List α} (h : EvD K te σ F cs (eL en xs) cs1) : EvC K (tRevL K te) σ F cs (xs.reverse.map en) cs1 := fun F1 H1 g1 s Q q =>
  h F1 H1 g1 s _ fun v F2 H2 g2 s2 hv => by
    obtain ⟨p, vs, rfl, hl, hd⟩ := hv.toLst
    refine ⟨p, vs, rfl, gr_L s2.fr hl, fun l nl => q _ _ _ _ g2 (s2.cell nl) ?_⟩
    have : ∀ {us : List V} {ds : List PyData}, Dts K F2 us ds → Dts K F2 us.reverse ds.reverse := by
      intro us ds h
      induction us generalizing ds with
      | nil => cases h; exact .nil
      | cons u us ih => cases h with | cons a b => rw [List.reverse_cons, List.reverse_cons]; exact (ih b).app (.cons a .nil)
    rw [List.map_reverse]
    exact this hd
/-- slices of a tuple -/
theorem d_slT {ds : List PyData} {tl th : TO} {lo hi : Option Int} (h : EvD K te σ F cs (.tuple ds) cs1) (h1 : EvO tl σ F cs1 lo cs2) (h2 : EvO th σ F cs2 hi cs3) : EvD K (tSl (rSlA K) te tl th) σ F cs (.tuple (cutL ds lo hi)) cs3 := fun F1 H1 g1 s Q q =>
  h F1 H1 g1 s _ fun v F2 H2 g2 s2 hv => h1 F2 H2 (g1.tr g2) s2 _ fun F3 H3 g3 s3 => h2 F3 H3 ((g1.tr g2).tr g3) s3 _ fun F4 H4 g4 s4 => by
    obtain ⟨p, vs, rfl, hl, hd⟩ := hv.toTup
    have hd' := hd.gr (g3.tr g4)
    refine ⟨p, vs, rfl, gr_T s4.fr (gr_T (g3.tr g4) hl), fun hw => q _ F4 H4 (g2.tr (g3.tr g4)) s4 ?_, fun _ l nl => q _ _ _ ((g2.tr (g3.tr g4)).tr (Gr.new (s4.fr.back nl))) (s4.lay nl) (.tup (.inl (.inl upd_same)) ?_)⟩
    · have e : cutL ds lo hi = ds := by
        unfold cutL
        rw [← hd.len, hw.1, hw.2, List.drop_zero, Nat.sub_zero, hd.len, List.take_length]
      rw [e]
      exact .tup (gr_T (g3.tr g4) hl) hd'
    · unfold cutV cutL
      rw [hd.len]
      exact ((hd'.gr (Gr.new (s4.fr.back nl))).drop _).take _
end
end Bw

namespace Bw
open PySem L2
abbrev eT0 : Unit → PyData := fun _ => .tuple []
/-! is True, is False, is None of anything -/
def rIsBl : R2 := fun x y H Q => ∃ b, y = .bl b ∧ Q (.bl (decide (x = .bl b))) H
def rNisBl : R2 := fun x y H Q => ∃ b, y = .bl b ∧ Q (.bl (!decide (x = .bl b))) H
theorem relV_bool {x : V} {v : Value} {b : Bool} (r : RelV x v) : plainIs v (.bool b) = true ∧ (v == Value.bool b) = decide (x = .bl b) := by
  cases x with
  | bl c =>
    cases (show v = Value.bool c from r)
    refine ⟨rfl, ?_⟩
    by_cases h : c = b
    · subst h; simp
    · rw [decide_eq_false (fun z => h (V.bl.inj z))]
      exact beq_eq_false_iff_ne.mpr fun z => h (Value.bool.inj z)
  | non => cases (show v = Value.none from r); exact ⟨rfl, rfl⟩
  | ref a => cases (show v = Value.ref a from r); exact ⟨rfl, rfl⟩
  | ty n => cases (show v = Value.type n from r); exact ⟨rfl, rfl⟩
  | int i => obtain ⟨t, rfl⟩ := r; exact ⟨rfl, rfl⟩
  | str i => obtain ⟨t, rfl⟩ := r; exact ⟨rfl, rfl⟩
  | byt i => obtain ⟨t, rfl⟩ := r; exact ⟨rfl, rfl⟩
  | flt i => obtain ⟨t, rfl⟩ := r; exact ⟨rfl, rfl⟩
theorem op_isB {X : Cx} : OpR X (compareOp .Is) rIsBl := by
  intro pins s σ H x y v u Q I rx ry h
  obtain ⟨b, rfl, q⟩ := h
  cases (show u = Value.bool b from ry)
  obtain ⟨h1, h2⟩ := relV_bool (b := b) rx
  exact wpAny_is_plain h1 ⟨.bl _, H, I, by rw [h2]; rfl, q⟩
theorem op_nisB {X : Cx} : OpR X (compareOp .IsNot) rNisBl := by
  intro pins s σ H x y v u Q I rx ry h
  obtain ⟨b, rfl, q⟩ := h
  cases (show u = Value.bool b from ry)
  obtain ⟨h1, h2⟩ := relV_bool (b := b) rx
  exact wpAny_isNot_plain h1 ⟨.bl _, H, I, by rw [h2]; rfl, q⟩
def isNoD : PyData → Bool
  | .none => true
  | _ => false
section
variable {K : PySem.W.Frag} {σ : St} {F F' : Hp} {cs cs1 cs2 cs3 : Cs} {ta tb tc te : TE} {d e : PyData} {as : TA} {a b c : Int}
theorem Dt.noD {v : V} (h : Dt K F v d) : decide (v = V.non) = isNoD d := by cases h <;> rfl
theorem Dt.blD {v : V} {b : Bool} (h : Dt K F v d) : decide (v = V.bl b) = isBlD b d := by
  cases h with
  | bl c =>
    show decide (V.bl c = V.bl b) = decide (c = b)
    by_cases q : c = b
    · subst q; simp
    · rw [decide_eq_false q, decide_eq_false (fun z => q (V.bl.inj z))]
  | _ => rfl
theorem d_isD (ha : EvD K ta σ F cs d cs1) : EvD K (tOp rIsN ta (tC .non)) σ F cs (.bool (isNoD d)) cs1 := fun F1 H1 g1 s Q q =>
  ha F1 H1 g1 s _ fun v F2 H2 g2 s2 h2 => ⟨rfl, q _ F2 H2 g2 s2 (by rw [h2.noD]; exact .bl _)⟩
theorem d_nisD (ha : EvD K ta σ F cs d cs1) : EvD K (tOp rNotN ta (tC .non)) σ F cs (.bool (!isNoD d)) cs1 := fun F1 H1 g1 s Q q =>
  ha F1 H1 g1 s _ fun v F2 H2 g2 s2 h2 => ⟨rfl, q _ F2 H2 g2 s2 (by rw [h2.noD]; exact .bl _)⟩
theorem d_isBl {b : Bool} (ha : EvD K ta σ F cs d cs1) : EvD K (tOp rIsBl ta (tC (.bl b))) σ F cs (.bool (isBlD b d)) cs1 := fun F1 H1 g1 s Q q =>
  ha F1 H1 g1 s _ fun v F2 H2 g2 s2 h2 => ⟨b, rfl, q _ F2 H2 g2 s2 (by rw [h2.blD]; exact .bl _)⟩
theorem d_nisBl {b : Bool} (ha : EvD K ta σ F cs d cs1) : EvD K (tOp rNisBl ta (tC (.bl b))) σ F cs (.bool (!isBlD b d)) cs1 := fun F1 H1 g1 s Q q =>
  ha F1 H1 g1 s _ fun v F2 H2 g2 s2 h2 => ⟨b, rfl, q _ F2 H2 g2 s2 (by rw [h2.blD]; exact .bl _)⟩
/-! a dict of which nothing is asked but its kind -/
theorem d_dict0 : EvD K tDNewK σ F cs (.dict []) cs := fun F1 H1 g1 s Q q => fun p hp => q _ _ _ (Gr.new (s.fr.back hp)) (s.lay hp) (.dct upd_same)
/-- {k: v}, both written, a text for a key -/
theorem d_dict1 {x : Str} {w : V} : EvD K (tDisp [(tC (.str x), tC w)]) σ F cs (.dict []) cs := fun F1 H1 g1 s Q q => fun p hp => by
  refine ⟨upd_same, [(Sum.inr x, w)], rfl, by show 1 ≤ 15; decide, ?_⟩
  rw [upd_upd]
  exact q _ _ _ (Gr.new (s.fr.back hp)) (s.lay hp) (.dct upd_same)
/-! formats -/
def fmtD : PyData → Option Str
  | .int i => strM i
  | .str x => (lenS x).bind fun _ => some x
  | _ => none
theorem d_fmtD {x : Str} (h : EvD K te σ F cs d cs1) (hn : fmtD d = some x) : EvD K (tFmt te) σ F cs (.str x) cs1 := by
  cases d with
  | int i => exact d_fmtI h hn
  | str y =>
    obtain ⟨n, h1, h2⟩ := bnd (show (lenS y).bind (fun _ => some y) = some x from hn)
    cases h2
    exact d_fmtS h h1
  | none => cases hn
  | bool _ => cases hn
  | list _ => cases hn
  | tuple _ => cases hn
  | dict _ => cases hn
end
end Bw

namespace Bw
open PySem L2
/-! i in range(lo, hi) -/
def rInRng : R2 := fun x y H Q => ∃ i a lo hi, x = V.int i ∧ y = V.ref a ∧ H a = some (.rng lo hi) ∧ Q (.bl (decide (lo ≤ i ∧ i < hi))) H
def rNinRng : R2 := fun x y H Q => ∃ i a lo hi, x = V.int i ∧ y = V.ref a ∧ H a = some (.rng lo hi) ∧ Q (.bl (!decide (lo ≤ i ∧ i < hi))) H
abbrev rRange2 : List V → Hp → VK → Prop := fun vs H Q => ∃ i j, vs = [V.int i, V.int j] ∧ ∀ p, H p = none → Q (.ref p) (upd H p (.rng i j))
theorem op_inRng {X : Cx} : OpR X (compareOp .In) rInRng := op_in_rng
theorem op_ninRng {X : Cx} : OpR X (compareOp .NotIn) rNinRng := by
  intro pins s σ H x y v u Q I rx ry h
  obtain ⟨i, a, lo, hi, rfl, rfl, ha, q⟩ := h
  obtain ⟨k, rfl⟩ := rx
  obtain rfl : u = Value.ref a := ry
  obtain ⟨t1, t2, t3, ho⟩ := I.hok a _ ha
  show wpAny _ _ (contains (Value.ref a) (Value.int i k) >>= fun b => pure (Value.bool (!b))) _ _ s
  refine wpAny_bind (wpAny_contains_slot (T := "range") ⟨_, ho, rfl⟩ F.slot_range_contains (call_meets F.slot_range_contains ⟨_, ho, rfl⟩ F.entry_range_contains (F.args_range_contains_2 _ _)
    (q_contains a lo hi i t1 t2 t3 k) ⟨ho, wpAny_truthy_bool (wpAny_pure ⟨.bl _, H, I, rfl, ?_⟩)⟩))
  rw [place1]
  exact q
theorem cr_range2' {X : Cx} : CallR X (.type "range") rRange2 := cr_range2
section
variable {K : PySem.W.Frag} {σ : St} {F F' : Hp} {cs cs1 cs2 cs3 : Cs} {ta tb tc te : TE} {d e : PyData} {as : TA} {a b c : Int}
theorem d_inRng (ha : EvD K ta σ F cs (.int a) cs1) (hb : EvDs K as σ F cs1 [.int b, .int c] cs2) : EvD K (tOp rInRng ta (tCB rRange2 as)) σ F cs (.bool (decide (b ≤ a ∧ a < c))) cs2 := fun F1 H1 g1 s Q q =>
  ha F1 H1 g1 s _ fun v F2 H2 g2 s2 h2 => hb F2 H2 (g1.tr g2) s2 _ fun vs F3 H3 g3 s3 h3 => by
    cases h2.toInt
    obtain ⟨w, z, rfl, k1, k2⟩ := h3.two; cases k1.toInt; cases k2.toInt
    exact ⟨b, c, rfl, fun p hp => ⟨a, p, b, c, rfl, rfl, upd_same, q _ _ _ ((g2.tr g3).tr (Gr.new (s3.fr.back hp))) (s3.lay hp) (.bl _)⟩⟩
theorem d_ninRng (ha : EvD K ta σ F cs (.int a) cs1) (hb : EvDs K as σ F cs1 [.int b, .int c] cs2) : EvD K (tOp rNinRng ta (tCB rRange2 as)) σ F cs (.bool (!decide (b ≤ a ∧ a < c))) cs2 := fun F1 H1 g1 s Q q =>
  ha F1 H1 g1 s _ fun v F2 H2 g2 s2 h2 => hb F2 H2 (g1.tr g2) s2 _ fun vs F3 H3 g3 s3 h3 => by
    cases h2.toInt
    obtain ⟨w, z, rfl, k1, k2⟩ := h3.two; cases k1.toInt; cases k2.toInt
    exact ⟨b, c, rfl, fun p hp => ⟨a, p, b, c, rfl, rfl, upd_same, q _ _ _ ((g2.tr g3).tr (Gr.new (s3.fr.back hp))) (s3.lay hp) (.bl _)⟩⟩
end
end Bw

namespace Bw
open PySem L2
/-- an expression that tells a known value and changes nothing -/
def VP (to : TE) (σ : St) (F : Hp) (cs : Cs) (v : V) : Prop := ∀ F1 H1, Gr F F1 → Sta F1 cs H1 → ∀ Q : VK, Q v H1 → to σ H1 Q
section
variable {K : PySem.W.Frag} {σ : St} {F F' : Hp} {cs cs1 cs2 cs3 : Cs} {ta tb tc te : TE} {d e : PyData} {as : TA} {a b c : Int} {nx bk ct : St → Hp → Prop} {rt : VK} {H : Hp} {t u : TS}
theorem vp_var {i : Nat} {v : V} (h : σ[i]? = some (some v)) : VP (tVar i) σ F cs v := fun F1 H1 g s Q q => ⟨v, h, q⟩
theorem vp_tup {to : TE} {t : Addr} {vs : List V} {k : Int} {v : V} (h : VP to σ F cs (.ref t)) (ht : SqT K F t vs) (hk : atI vs k = some v) : VP (tOp (rIxT K) to (tC (.int k))) σ F cs v := fun F1 H1 g s Q q =>
  h F1 H1 g s _ ⟨t, vs, k, v, rfl, rfl, gr_T s.fr (gr_T g ht), hk, q⟩
theorem VP.gr {to : TE} {v : V} (g : Gr F F') (h : VP to σ F cs v) : VP to σ F' cs v := fun F1 H1 g1 s Q q => h F1 H1 (g.tr g1) s Q q
theorem d_vp {v : V} (h : VP te σ F cs v) (hd : Dt K F v d) : EvD K te σ F cs d cs := fun F1 H1 g s Q q => h F1 H1 g s Q (q v F1 H1 .rfl s (hd.gr g))
/-! the readings, opened -/
theorem o_asg {g : TG} (h : te σ H fun v H' => g v σ H' nx) : tAsg te g ⟨nx, rt, bk, ct⟩ σ H := h
theorem o_ret (h : te σ H rt) : tRet te ⟨nx, rt, bk, ct⟩ σ H := h
theorem o_drop (h : te σ H fun _ H' => nx σ H') : tDrop te ⟨nx, rt, bk, ct⟩ σ H := h
theorem o_name {i : Nat} {v : V} {σ' : St} {Q : St → Hp → Prop} (e : σ.set i (some v) = σ') (h : Q σ' H) : gName i v σ H Q := by show Q (σ.set i (some v)) H; rw [e]; exact h
theorem o_tup {Q : VK} (h : as σ H fun vs H1 => vs.length ≤ sizeLine ∧ ∀ p, H1 p = none → Q (.ref p) (upd H1 p (.tup vs))) : tTup as σ H Q := h
theorem o_cons {Q : List V → Hp → Prop} (h : te σ H fun v H1 => as σ H1 fun vs H2 => Q (v :: vs) H2) : tCons te as σ H Q := h
theorem o_nil {Q : List V → Hp → Prop} (h : Q [] H) : tNil σ H Q := h
theorem o_d {Q : VK} (s : Sta F cs H) (h : EvD K te σ F cs d cs1) (q : ∀ v F2 H2, Gr F F2 → Sta F2 cs1 H2 → Dt K F2 v d → Q v H2) : te σ H Q := h F H .rfl s Q q
theorem o_c {Q : VK} {ds : List PyData} (s : Sta F cs H) (h : EvC K te σ F cs ds cs1) (q : ∀ p us F2 H2, Gr F F2 → Sta F2 ((p, .lst us) :: cs1) H2 → Dts K F2 us ds → Q (.ref p) H2) : te σ H Q := h F H .rfl s Q q
theorem o_v {Q : VK} {v : V} (s : Sta F cs H) (h : VP te σ F cs v) (q : Q v H) : te σ H Q := h F H .rfl s Q q
/-- the tuple itself stands for good -/
theorem o_tupN {n : Nat} {vs : List V} {Q : VK} (s : Sta F cs H) (hn : vs.length ≤ 1000) (q : ∀ p, Gr F (upd F p (.tup vs)) → Sta (upd F p (.tup vs)) cs (upd H p (.tup vs)) → Q (.ref p) (upd H p (.tup vs))) : vs.length ≤ sizeLine ∧ ∀ p, H p = none → Q (.ref p) (upd H p (.tup vs)) :=
  ⟨Nat.le_trans hn (by decide), fun p hp => q p (Gr.new (s.fr.back hp)) (s.lay hp)⟩
theorem sq_new {p : Addr} {vs : List V} : SqT K (upd F p (.tup vs)) p vs := .inl (.inl upd_same)
theorem dt_t {p : Addr} {vs : List V} {ds : List PyData} (h : SqT K F p vs) (hd : Dts K F vs ds) : Dt K F (.ref p) (.tuple ds) := .tup h hd
theorem s_appV {k1 k2 l1 l2 : Cs} {to : TE} {p : Addr} {vs : List V} (s : Sta F (k1 ++ (p, .lst vs) :: k2) H) (hi : VP to σ F (k1 ++ (p, .lst vs) :: k2) (.ref p)) (h : EvD K te σ F (k1 ++ (p, .lst vs) :: k2) d (l1 ++ (p, .lst vs) :: l2)) (hl : vs.length < 100000)
    (q : ∀ v F2 H2, Gr F F2 → Sta F2 (l1 ++ (p, .lst (vs ++ [v])) :: l2) H2 → Dt K F2 v d → nx σ H2) : tDrop (tBM K "list" rAppend to (tCons te tNil)) ⟨nx, rt, bk, ct⟩ σ H :=
  hi F H .rfl s _ ⟨.inl ⟨rfl, _, .inl (.inl s.getAt)⟩, h F H .rfl s _ fun v F2 H2 g2 s2 h2 => ⟨p, vs, v, rfl, rfl, s2.getAt, szl hl, q v F2 _ g2 s2.putAt h2⟩⟩
theorem s_appFV {α : Type} {vf : α → V} {en : α → PyData} {k1 k2 l1 l2 : Cs} {to : TE} {p : Addr} {xs ys : List α} {x : α} (hw : ∀ F v x, Dt K F v (en x) → v = vf x) (s : Sta F (k1 ++ (p, .lst (xs.map vf)) :: k2) H) (hi : VP to σ F (k1 ++ (p, .lst (xs.map vf)) :: k2) (.ref p)) (h : EvD K te σ F (k1 ++ (p, .lst (xs.map vf)) :: k2) (en x) (l1 ++ (p, .lst (xs.map vf)) :: l2)) (hm : appM xs x = some ys)
    (q : ∀ F2 H2, Gr F F2 → Sta F2 (l1 ++ (p, .lst (ys.map vf)) :: l2) H2 → nx σ H2) : tDrop (tBM K "list" rAppend to (tCons te tNil)) ⟨nx, rt, bk, ct⟩ σ H := by
  obtain ⟨hl, rfl⟩ := appM_some hm
  refine s_appV s hi h (by rw [List.length_map]; exact hl) fun v F2 H2 g2 s2 h2 => q F2 H2 g2 ?_
  cases hw F2 v x h2
  rw [List.map_append]; exact s2
theorem s_appGV {α : Type} {en : α → PyData} {k1 k2 l1 l2 : Cs} {to : TE} {p : Addr} {vs : List V} {xs ys : List α} {x : α} (s : Sta F (k1 ++ (p, .lst vs) :: k2) H) (hf : Dts K F vs (xs.map en)) (hi : VP to σ F (k1 ++ (p, .lst vs) :: k2) (.ref p)) (h : EvD K te σ F (k1 ++ (p, .lst vs) :: k2) (en x) (l1 ++ (p, .lst vs) :: l2)) (hm : appM xs x = some ys)
    (q : ∀ us F2 H2, Gr F F2 → Sta F2 (l1 ++ (p, .lst us) :: l2) H2 → Dts K F2 us (ys.map en) → nx σ H2) : tDrop (tBM K "list" rAppend to (tCons te tNil)) ⟨nx, rt, bk, ct⟩ σ H := by
  obtain ⟨hl, rfl⟩ := appM_some hm
  refine s_appV s hi h (by rw [hf.len, List.length_map]; exact hl) fun v F2 H2 g2 s2 h2 => q _ F2 H2 g2 s2 ?_
  rw [List.map_append]; exact (hf.gr g2).app (.cons h2 .nil)
theorem s_itemV {k1 k2 m1 m2 l1 l2 : Cs} {to : TE} {p : Addr} {vs : List V} {ti : TE} {k : Int} {j : Nat} (s : Sta F (k1 ++ (p, .lst vs) :: k2) H) (hi : VP to σ F (m1 ++ (p, .lst vs) :: m2) (.ref p)) (h : EvD K te σ F (k1 ++ (p, .lst vs) :: k2) d (m1 ++ (p, .lst vs) :: m2))
    (h2 : EvD K ti σ F (m1 ++ (p, .lst vs) :: m2) (.int k) (l1 ++ (p, .lst vs) :: l2)) (hj : ixN vs.length k = some j) (q : ∀ v F2 H2, Gr F F2 → Sta F2 (l1 ++ (p, .lst (vs.set j v)) :: l2) H2 → Dt K F2 v d → nx σ H2) : tAsg te (gSub to ti rSetL) ⟨nx, rt, bk, ct⟩ σ H :=
  h F H .rfl s _ fun v F2 H2 g2 s2 hv => hi F2 H2 g2 s2 _ (h2 F2 H2 g2 s2 _ fun w F3 H3 g3 s3 hw => ⟨p, vs, k, j, rfl, hw.toInt, s3.getAt, hj, q v F3 _ (g2.tr g3) s3.putAt (hv.gr g3)⟩)
theorem s_itemFV {α : Type} {vf : α → V} {en : α → PyData} {k1 k2 m1 m2 l1 l2 : Cs} {to : TE} {p : Addr} {xs ys : List α} {x : α} {ti : TE} {k : Int} (hw : ∀ F v x, Dt K F v (en x) → v = vf x) (s : Sta F (k1 ++ (p, .lst (xs.map vf)) :: k2) H) (hi : VP to σ F (m1 ++ (p, .lst (xs.map vf)) :: m2) (.ref p)) (h : EvD K te σ F (k1 ++ (p, .lst (xs.map vf)) :: k2) (en x) (m1 ++ (p, .lst (xs.map vf)) :: m2))
    (h2 : EvD K ti σ F (m1 ++ (p, .lst (xs.map vf)) :: m2) (.int k) (l1 ++ (p, .lst (xs.map vf)) :: l2)) (hm : setM xs k x = some ys) (q : ∀ F2 H2, Gr F F2 → Sta F2 (l1 ++ (p, .lst (ys.map vf)) :: l2) H2 → nx σ H2) : tAsg te (gSub to ti rSetL) ⟨nx, rt, bk, ct⟩ σ H := by
  obtain ⟨j, hj, rfl⟩ := setM_some hm
  refine s_itemV (j := j) s hi h h2 (by rw [List.length_map]; exact hj) fun v F2 H2 g2 s2 hv => q F2 H2 g2 ?_
  cases hw F2 v x hv
  rw [List.map_set]; exact s2
theorem s_itemGV {α : Type} {en : α → PyData} {k1 k2 m1 m2 l1 l2 : Cs} {to : TE} {p : Addr} {vs : List V} {xs ys : List α} {x : α} {ti : TE} {k : Int} (s : Sta F (k1 ++ (p, .lst vs) :: k2) H) (hf : Dts K F vs (xs.map en)) (hi : VP to σ F (m1 ++ (p, .lst vs) :: m2) (.ref p)) (h : EvD K te σ F (k1 ++ (p, .lst vs) :: k2) (en x) (m1 ++ (p, .lst vs) :: m2))
    (h2 : EvD K ti σ F (m1 ++ (p, .lst vs) :: m2) (.int k) (l1 ++ (p, .lst vs) :: l2)) (hm : setM xs k x = some ys) (q : ∀ us F2 H2, Gr F F2 → Sta F2 (l1 ++ (p, .lst us) :: l2) H2 → Dts K F2 us (ys.map en) → nx σ H2) : tAsg te (gSub to ti rSetL) ⟨nx, rt, bk, ct⟩ σ H := by
  obtain ⟨j, hj, rfl⟩ := setM_some hm
  refine s_itemV (j := j) s hi h h2 (by rw [hf.len, List.length_map]; exact hj) fun v F2 H2 g2 s2 hv => q _ F2 H2 g2 s2 ?_
  rw [List.map_set]; exact (hf.gr g2).setAt j hv
theorem s_augSV {k1 k2 m1 m2 l1 l2 : Cs} {to : TE} {p : Addr} {xs ys : List Int} {ti : TE} {k w b : Int} {f : Int → Int → Int} (s : Sta F (k1 ++ (p, .lst (xs.map V.int)) :: k2) H) (hi : VP to σ F (k1 ++ (p, .lst (xs.map V.int)) :: k2) (.ref p)) (h1 : EvD K ti σ F (k1 ++ (p, .lst (xs.map V.int)) :: k2) (.int k) (m1 ++ (p, .lst (xs.map V.int)) :: m2)) (hg : atI xs k = some w)
    (h2 : EvD K te σ F (m1 ++ (p, .lst (xs.map V.int)) :: m2) (.int b) (l1 ++ (p, .lst (xs.map V.int)) :: l2)) (hm : setM xs k (f w b) = some ys) (q : ∀ F2 H2, Gr F F2 → Sta F2 (l1 ++ (p, .lst (ys.map V.int)) :: l2) H2 → nx σ H2) : tAugS to ti te (rIxL K) (ipI f) rSetL ⟨nx, rt, bk, ct⟩ σ H := by
  obtain ⟨j, hj, rfl⟩ := setM_some hm
  refine hi F H .rfl s _ (h1 F H .rfl s _ fun v F2 H2 g2 s2 hv => ⟨p, xs.map V.int, k, .int w, rfl, hv.toInt, .inl (.inl s2.getAt), by rw [atI_map, hg]; rfl, h2 F2 H2 g2 s2 _ fun y F3 H3 g3 s3 hy => ⟨w, b, rfl, hy.toInt, p, xs.map V.int, k, j, rfl, hv.toInt, s3.getAt, by rw [List.length_map]; exact hj, q F3 _ (g2.tr g3) ?_⟩⟩)
  rw [List.map_set]; exact s3.putAt
theorem s_popFV {α : Type} {vf : α → V} {en : α → PyData} {k1 k2 l1 l2 : Cs} {to : TE} {j : Nat} {p : Addr} {xs ys : List α} {x : α} {ti : TE} {k : Int} {σ' : St} (hd : ∀ F x, Dt K F (vf x) (en x)) (s : Sta F (k1 ++ (p, .lst (xs.map vf)) :: k2) H) (hi : VP to σ F (k1 ++ (p, .lst (xs.map vf)) :: k2) (.ref p))
    (h2 : EvD K ti σ F (k1 ++ (p, .lst (xs.map vf)) :: k2) (.int k) (l1 ++ (p, .lst (xs.map vf)) :: l2)) (hm : popM xs k = some (x, ys)) (hσ : σ.set j (some (vf x)) = σ') (q : ∀ F2 H2, Gr F F2 → Sta F2 (l1 ++ (p, .lst (ys.map vf)) :: l2) H2 → nx σ' H2) : tAsg (tBM K "list" rPopAt to (tCons ti tNil)) (gName j) ⟨nx, rt, bk, ct⟩ σ H := by
  obtain ⟨⟨a1, a2⟩, m, b1, b2, rfl⟩ := popM_some hm
  refine hi F H .rfl s _ ⟨.inl ⟨rfl, _, .inl (.inl s.getAt)⟩, h2 F H .rfl s _ fun w F3 H3 g3 s3 hw => ⟨p, xs.map vf, k, m, vf x, rfl, by cases hw.toInt; rfl, s3.getAt, a1, a2, by rw [List.length_map]; exact b1, by rw [List.getElem?_map, b2]; rfl, ?_⟩⟩
  show nx (σ.set j (some (vf x))) _
  rw [hσ]
  refine q F3 _ g3 ?_
  have s4 := s3.putAt (o' := .lst ((xs.map vf).eraseIdx m))
  rw [er_map]
  exact s4
theorem s_remFV {k1 k2 l1 l2 : Cs} {to : TE} {p : Addr} {xs ys : List Int} {ti : TE} {k : Int} (s : Sta F (k1 ++ (p, .lst (xs.map V.int)) :: k2) H) (hi : VP to σ F (k1 ++ (p, .lst (xs.map V.int)) :: k2) (.ref p))
    (h2 : EvD K ti σ F (k1 ++ (p, .lst (xs.map V.int)) :: k2) (.int k) (l1 ++ (p, .lst (xs.map V.int)) :: l2)) (hm : remM xs k = some ys) (q : ∀ F2 H2, Gr F F2 → Sta F2 (l1 ++ (p, .lst (ys.map V.int)) :: l2) H2 → nx σ H2) : tDrop (tBM K "list" rRemI to (tCons ti tNil)) ⟨nx, rt, bk, ct⟩ σ H := by
  unfold remM at hm; split at hm
  · rename_i hin
    cases hm
    obtain ⟨j, e1, e2, e3⟩ := rem_at hin
    refine hi F H .rfl s _ ⟨.inl ⟨rfl, _, .inl (.inl s.getAt)⟩, h2 F H .rfl s _ fun w F3 H3 g3 s3 hw => ⟨p, xs, k, j, rfl, by cases hw.toInt; rfl, s3.getAt, e1, e2, q F3 _ g3 ?_⟩⟩
    rw [e3]
    exact s3.putAt
  · cases hm
theorem s_extV {k1 k2 l1 l2 : Cs} {to : TE} {p : Addr} {vs : List V} {ds : List PyData} (s : Sta F (k1 ++ (p, .lst vs) :: k2) H) (hi : VP to σ F (k1 ++ (p, .lst vs) :: k2) (.ref p)) (h : EvC K te σ F (k1 ++ (p, .lst vs) :: k2) ds (l1 ++ (p, .lst vs) :: l2)) (hl : vs.length + ds.length ≤ 100000)
    (q : ∀ us F2 H2, Gr F F2 → Sta F2 (l1 ++ (p, .lst (vs ++ us)) :: l2) H2 → Dts K F2 us ds → nx σ H2) : tDrop (tBM K "list" rExtend to (tCons te tNil)) ⟨nx, rt, bk, ct⟩ σ H :=
  hi F H .rfl s _ ⟨.inl ⟨rfl, _, .inl (.inl s.getAt)⟩, h F H .rfl s _ fun b us F2 H2 g2 s2 h2 => ⟨p, b, vs, us, rfl, rfl, Sta.getAt (l1 := (b, .lst us) :: l1) s2, s2.at List.mem_cons_self, by rw [h2.len]; exact sz hl, q us _ _ (g2.tr s2.gfr) s2.froze.putAt (h2.gr s2.gfr)⟩⟩
theorem s_extFV {α : Type} {vf : α → V} {en : α → PyData} {k1 k2 l1 l2 : Cs} {to : TE} {p : Addr} {xs ys zs : List α} (hw : ∀ F vs (ys : List α), Dts K F vs (ys.map en) → vs = ys.map vf) (s : Sta F (k1 ++ (p, .lst (xs.map vf)) :: k2) H) (hi : VP to σ F (k1 ++ (p, .lst (xs.map vf)) :: k2) (.ref p)) (h : EvC K te σ F (k1 ++ (p, .lst (xs.map vf)) :: k2) (ys.map en) (l1 ++ (p, .lst (xs.map vf)) :: l2)) (hm : catM xs ys = some zs)
    (q : ∀ F2 H2, Gr F F2 → Sta F2 (l1 ++ (p, .lst (zs.map vf)) :: l2) H2 → nx σ H2) : tDrop (tBM K "list" rExtend to (tCons te tNil)) ⟨nx, rt, bk, ct⟩ σ H := by
  obtain ⟨hl, rfl⟩ := catM_some hm
  refine s_extV s hi h (by rw [List.length_map, List.length_map]; exact hl) fun us F2 H2 g2 s2 h2 => q F2 H2 g2 ?_
  cases hw F2 us ys h2
  rw [List.map_append]; exact s2
theorem s_extGV {α : Type} {en : α → PyData} {k1 k2 l1 l2 : Cs} {to : TE} {p : Addr} {vs : List V} {xs ys zs : List α} (s : Sta F (k1 ++ (p, .lst vs) :: k2) H) (hf : Dts K F vs (xs.map en)) (hi : VP to σ F (k1 ++ (p, .lst vs) :: k2) (.ref p)) (h : EvC K te σ F (k1 ++ (p, .lst vs) :: k2) (ys.map en) (l1 ++ (p, .lst vs) :: l2)) (hm : catM xs ys = some zs)
    (q : ∀ us F2 H2, Gr F F2 → Sta F2 (l1 ++ (p, .lst us) :: l2) H2 → Dts K F2 us (zs.map en) → nx σ H2) : tDrop (tBM K "list" rExtend to (tCons te tNil)) ⟨nx, rt, bk, ct⟩ σ H := by
  obtain ⟨hl, rfl⟩ := catM_some hm
  refine s_extV s hi h (by rw [hf.len, List.length_map, List.length_map]; exact hl) fun us F2 H2 g2 s2 h2 => q _ F2 H2 g2 s2 ?_
  rw [List.map_append]; exact (hf.gr g2).app h2
theorem s_clrV {l1 l2 : Cs} {to : TE} {p : Addr} {vs : List V} (s : Sta F (l1 ++ (p, .lst vs) :: l2) H) (hi : VP to σ F (l1 ++ (p, .lst vs) :: l2) (.ref p)) (q : Sta F (l1 ++ (p, .lst []) :: l2) (upd H p (.lst [])) → nx σ (upd H p (.lst []))) : tDrop (tBM0 K "list" rClear to) ⟨nx, rt, bk, ct⟩ σ H :=
  hi F H .rfl s _ ⟨.inl ⟨rfl, _, .inl (.inl s.getAt)⟩, p, vs, rfl, rfl, s.getAt, q s.putAt⟩
end
def Su (c c' : Cs) : Prop := ∃ l, c.Perm (l ++ c')
theorem su_rfl {cs : Cs} : Su cs cs := ⟨[], .refl _⟩
theorem su_perm {cs cs1 : Cs} (p : cs.Perm cs1) : Su cs cs1 := ⟨[], p⟩
theorem su_drop {c : Addr × HO} {cs : Cs} : Su (c :: cs) cs := ⟨[c], .refl _⟩
theorem Su.tr {cs cs1 cs2 : Cs} (h : Su cs cs1) (k : Su cs1 cs2) : Su cs cs2 := by
  obtain ⟨l, h⟩ := h
  obtain ⟨m, k⟩ := k
  exact ⟨l ++ m, h.trans (by rw [List.append_assoc]; exact k.append_left l)⟩
theorem sta_tl : ∀ {l : Cs} {cs : Cs} {F H : Hp}, Sta F (l ++ cs) H → Sta F cs H
  | [], _, _, _, s => s
  | c :: l, cs, F, H, s => sta_tl (l := l) (sb_drop (c := c) (cs := l ++ cs) F H s)
theorem Su.sb {cs cs1 : Cs} (h : Su cs cs1) : Sb cs cs1 := fun F H s => by
  obtain ⟨l, h⟩ := h
  exact sta_tl (s.perm h)
theorem su_app {cs cs1 c : Cs} (h : Su cs cs1) : Su (c ++ cs) (c ++ cs1) := by
  obtain ⟨l, h⟩ := h
  refine ⟨l, (h.append_left c).trans ?_⟩
  rw [← List.append_assoc, ← List.append_assoc]
  exact List.perm_append_comm.append_right cs1
section
variable {K : PySem.W.Frag} {σ : St} {F F' : Hp} {cs cs1 cs2 cs3 : Cs} {ta tb tc te : TE} {d e : PyData} {as : TA} {a b c : Int} {nx bk ct : St → Hp → Prop} {rt : VK} {H : Hp} {t u : TS}
/-- list(path) -/
theorem c_listV {l1 l2 : Cs} {to : TE} {p : Addr} {us : List V} {ds : List PyData} (hi : VP to σ F (l1 ++ (p, .lst us) :: l2) (.ref p)) (hd : Dts K F us ds) : EvC K (tCB (rListS K) (tCons to tNil)) σ F (l1 ++ (p, .lst us) :: l2) ds (l1 ++ (p, .lst us) :: l2) := fun F1 H1 g1 s Q q =>
  hi F1 H1 g1 s _ ⟨p, us, rfl, .inl (.inl (.inl s.getAt)), fun l nl => q _ _ _ _ .rfl (s.cell nl) (hd.gr g1)⟩
/-! a function that tells a new thing, some parts of which may change -/
def spR (K : PySem.W.Frag) {α β : Type} (A : α → List Ar) (C : β → List (List V)) (R : β → Hp → V → Cs → Prop) (f : α → Option β) : Sp := fun vs H Q _ => ∃ F cc cs x y, ArgR K F vs (A x) cc ∧ Sta F (cc ++ cs) H ∧ f x = some y ∧ ∀ v c F2 H2, Gr F F2 → Sta F2 (c ++ (upC cc (C y) ++ cs)) H2 → R y F2 v c → Q v H2
theorem o_callR {α β : Type} {A : α → List Ar} {C : β → List (List V)} {R : β → Hp → V → Cs → Prop} {f : α → Option β} {x : α} {y : β} {E : XK} {cc cs' : Cs} {Q : VK} (s : Sta F cs H) (h : EvR K as σ F cs (A x) cc cs1) (hp : Sb cs1 (cc ++ cs')) (hf : f x = some y) (hq : Su (upC cc (C y) ++ cs') cs2)
    (q : ∀ v c F2 H2, Gr F F2 → Sta F2 (c ++ cs2) H2 → R y F2 v c → Q v H2) : tCall (spR K A C R f) [] E as σ H Q :=
  h F H .rfl s _ fun vs F2 H2 g2 s2 h2 => ⟨F2, cc, cs', x, y, by rw [List.append_nil]; exact h2, hp _ _ s2, hf, fun v c F3 H3 g3 s3 r => q v c F3 H3 (g2.tr g3) ((su_app hq).sb _ _ s3) r⟩
theorem d_callR {α β : Type} {A : α → List Ar} {C : β → List (List V)} {R : β → Hp → V → Cs → Prop} {B : β → PyData} {f : α → Option β} {x : α} {y : β} {E : XK} {cc cs' : Cs} (hR : ∀ y F H v c cs, R y F v c → Sta F (c ++ cs) H → ∃ F', Gr F F' ∧ Sta F' cs H ∧ Dt K F' v (B y)) (h : EvR K as σ F cs (A x) cc cs1) (hp : Sb cs1 (cc ++ cs')) (hf : f x = some y) (hq : Su (upC cc (C y) ++ cs') cs2) : EvD K (tCall (spR K A C R f) [] E as) σ F cs (B y) cs2 := fun F1 H1 g1 s Q q =>
  h F1 H1 g1 s _ fun vs F2 H2 g2 s2 h2 => ⟨F2, cc, cs', x, y, by rw [List.append_nil]; exact h2, hp _ _ s2, hf, fun v c F3 H3 g3 s3 r => by
    obtain ⟨F4, g4, s4, d4⟩ := hR y F3 H3 v c cs2 r ((su_app hq).sb _ _ s3)
    exact q v F4 H3 ((g2.tr g3).tr g4) s4 d4⟩
end
end Bw

namespace Bw
open PySem L2
/-! data without lists -/
mutual
def noL : PyData → Bool
  | .list _ => false
  | .dict _ => false
  | .tuple ds => noLs ds
  | _ => true
def noLs : List PyData → Bool
  | [] => true
  | d :: ds => noL d && noLs ds
end
section
variable {K : PySem.W.Frag} {F F2 : Hp} {p : Addr} {us : List V}
mutual
theorem Dt.cutL (hp : F2 p = some (.lst us)) : ∀ {v : V} {d : PyData}, Dt K F2 v d → noL d = true → Dt K (cut F2 p) v d
  | _, _, .non, _ => .non
  | _, _, .bl b, _ => .bl b
  | _, _, .int i, _ => .int i
  | _, _, .str x, _ => .str x
  | _, _, .lst h a, n => by simp [noL] at n
  | _, _, .dct h, n => by simp [noL] at n
  | _, _, .tup (a := a) (ds := ds) h k, n => by
    have n' : noLs ds = true := by simpa [noL] using n
    refine .tup ?_ (Dts.cutL hp k n')
    rcases h with (h | ⟨o, h⟩) | h
    · refine .inl (.inl ?_)
      rw [cut_ne (fun z => by rw [z, hp] at h; cases h)]; exact h
    · refine .inl (.inr ⟨o, ?_⟩)
      rw [cut_ne (fun z => by rw [z, hp] at h; cases h)]; exact h
    · exact .inr h
theorem Dts.cutL (hp : F2 p = some (.lst us)) : ∀ {vs : List V} {ds : List PyData}, Dts K F2 vs ds → noLs ds = true → Dts K (cut F2 p) vs ds
  | _, _, .nil, _ => .nil
  | _, _, .cons h t, n => by
    rw [noLs, Bool.and_eq_true] at n
    exact .cons (Dt.cutL hp h n.1) (Dts.cutL hp t n.2)
end
end
def Nl {α : Type} (e : α → PyData) : Prop := ∀ x, noL (e x) = true
theorem nl_I : Nl eI := fun _ => rfl
theorem nl_B : Nl eB := fun _ => rfl
theorem nl_S : Nl eS := fun _ => rfl
theorem nl_N : Nl eN := fun _ => rfl
theorem nl_O {α : Type} {e : α → PyData} (h : Nl e) : Nl (eO e) := fun x => by cases x with
  | none => rfl
  | some y => exact h y
theorem nl_T2 {α β : Type} {e : α → PyData} {f : β → PyData} (h : Nl e) (k : Nl f) : Nl (eT2 e f) := fun x => by show (noL (e x.1) && (noL (f x.2) && true)) = true; rw [h, k]; rfl
theorem nl_T3 {α β γ : Type} {e : α → PyData} {f : β → PyData} {g : γ → PyData} (h : Nl e) (k : Nl f) (l : Nl g) : Nl (eT3 e f g) := fun x => by show (noL (e x.1) && (noL (f x.2.1) && (noL (g x.2.2) && true))) = true; rw [h, k, l]; rfl
theorem nl_T4 {α β γ δ : Type} {e : α → PyData} {f : β → PyData} {g : γ → PyData} {i : δ → PyData} (h : Nl e) (k : Nl f) (l : Nl g) (m : Nl i) : Nl (eT4 e f g i) := fun x => by show (noL (e x.1) && (noL (f x.2.1) && (noL (g x.2.2.1) && (noL (i x.2.2.2) && true)))) = true; rw [h, k, l, m]; rfl
theorem nls {α : Type} {e : α → PyData} (h : Nl e) : ∀ xs : List α, noLs (xs.map e) = true
  | [] => rfl
  | x :: xs => by show (noL (e x) && noLs (xs.map e)) = true; rw [h, nls h xs]; rfl
section
variable {K : PySem.W.Frag} {σ : St} {F F' : Hp} {cs cs1 cs2 cs3 : Cs} {ta tb tc te : TE} {d e : PyData} {as : TA}
theorem Ev.grC {ds : List PyData} (g : Gr F F') (h : EvC K te σ F cs ds cs1) : EvC K te σ F' cs ds cs1 := fun F1 H1 g1 s Q q => h F1 H1 (g.tr g1) s Q q
theorem Ev.grR {xs : List Ar} {cc : Cs} (g : Gr F F') (h : EvR K as σ F cs xs cc cs1) : EvR K as σ F' cs xs cc cs1 := fun F1 H1 g1 s Q q => h F1 H1 (g.tr g1) s Q q
theorem r_cv {xs : List Ar} {cc : Cs} {to : TE} {p : Addr} {us : List V} (hi : VP to σ F cs (.ref p)) (h2 : EvR K as σ F cs xs cc cs2) : EvR K (tCons to as) σ F cs (.c us :: xs) ((p, .lst us) :: cc) cs2 := fun F1 H1 g1 s Q q =>
  hi F1 H1 g1 s _ (h2 F1 H1 g1 s _ fun vs F2 H2 g2 s2 h => q _ F2 H2 g2 s2 (.c h))
/-- the first argument is a new list of flat things, which nobody keeps -/
theorem o_callRN {α β : Type} {A : α → List Ar} {C : β → List (List V)} {R : β → Hp → V → Cs → Prop} {f : α → Option β} {x : α} {y : β} {E : XK} {cc cs' : Cs} {ds : List PyData} {us : List V} {xs : List Ar} {H : Hp} {Q : VK} (s : Sta F cs H) (h : EvC K te σ F cs ds cs1) (hu : ∀ F vs, Dts K F vs ds → vs = us) (hA : A x = .c us :: xs) (h2 : ∀ p, EvR K as σ F ((p, .lst us) :: cs1) xs cc ((p, .lst us) :: cs2))
    (hp : ∀ p, Sb ((p, .lst us) :: cs2) ((p, .lst us) :: cc ++ cs')) (hf : f x = some y) (hq : ∀ p, Su (upC ((p, .lst us) :: cc) (C y) ++ cs') cs3) (q : ∀ v c F2 H2, Gr F F2 → Sta F2 (c ++ cs3) H2 → R y F2 v c → Q v H2) : tCall (spR K A C R f) [] E (tCons te as) σ H Q :=
  h F H .rfl s _ fun p vs F2 H2 g2 s2 hv => by
    cases hu F2 vs hv
    exact h2 p F2 H2 g2 s2 _ fun ws F3 H3 g3 s3 h3 => ⟨F3, (p, .lst us) :: cc, cs', x, y, by rw [List.append_nil, hA]; exact .c h3, hp p _ _ s3, hf, fun v c F4 H4 g4 s4 r => q v c F4 H4 ((g2.tr g3).tr g4) ((su_app (hq p)).sb _ _ s4) r⟩
theorem d_callRN {α β : Type} {A : α → List Ar} {C : β → List (List V)} {R : β → Hp → V → Cs → Prop} {B : β → PyData} {f : α → Option β} {x : α} {y : β} {E : XK} {cc cs' : Cs} {ds : List PyData} {us : List V} {xs : List Ar} (hR : ∀ y F H v c cs, R y F v c → Sta F (c ++ cs) H → ∃ F', Gr F F' ∧ Sta F' cs H ∧ Dt K F' v (B y)) (h : EvC K te σ F cs ds cs1) (hu : ∀ F vs, Dts K F vs ds → vs = us) (hA : A x = .c us :: xs) (h2 : ∀ p, EvR K as σ F ((p, .lst us) :: cs1) xs cc ((p, .lst us) :: cs2))
    (hp : ∀ p, Sb ((p, .lst us) :: cs2) ((p, .lst us) :: cc ++ cs')) (hf : f x = some y) (hq : ∀ p, Su (upC ((p, .lst us) :: cc) (C y) ++ cs') cs3) : EvD K (tCall (spR K A C R f) [] E (tCons te as)) σ F cs (B y) cs3 := fun F1 H1 g1 s Q q =>
  o_callRN s (Ev.grC g1 h) hu hA (fun p => Ev.grR g1 (h2 p)) hp hf hq fun v c F3 H3 g3 s3 r => by
    obtain ⟨F4, g4, s4, d4⟩ := hR y F3 H3 v c cs3 r s3
    exact q v F4 H3 (g3.tr g4) s4 d4
theorem d_lendT {l1 l2 m1 m2 : Cs} {p : Addr} {us : List V} (hn : noL d = true) (h : ∀ F1, Gr F F1 → F1 p = none → EvD K te σ (upd F1 p (.lst us)) (l1 ++ l2) d (m1 ++ m2)) : EvD K te σ F (l1 ++ (p, .lst us) :: l2) d (m1 ++ (p, .lst us) :: m2) := fun F1 H1 g1 s Q q => by
  refine h F1 g1 s.freeAt (upd F1 p (.lst us)) H1 .rfl s.frozeAt Q fun v F2 H2 g2 s2 h2 => ?_
  exact q v (cut F2 p) H2 (gr_cut s.freeAt g2) (Sta.lent g2 s2) (h2.cutL (g2 p _ upd_same) hn)
theorem c_lendT {l1 l2 m1 m2 : Cs} {p : Addr} {us : List V} {ds : List PyData} (hn : noLs ds = true) (h : ∀ F1, Gr F F1 → F1 p = none → EvC K te σ (upd F1 p (.lst us)) (l1 ++ l2) ds (m1 ++ m2)) : EvC K te σ F (l1 ++ (p, .lst us) :: l2) ds (m1 ++ (p, .lst us) :: m2) := fun F1 H1 g1 s Q q => by
  refine h F1 g1 s.freeAt (upd F1 p (.lst us)) H1 .rfl s.frozeAt Q fun a vs F2 H2 g2 s2 h2 => ?_
  exact q a vs (cut F2 p) H2 (gr_cut s.freeAt g2) (Sta.lent (l1 := (a, .lst vs) :: m1) g2 s2) (h2.cutL (g2 p _ upd_same) hn)
end
end Bw

namespace Bw
open PySem L2
/-! dicts with flat keys and flat values -/
def lookK {κ ν : Type} [DecidableEq κ] (d : List (κ × ν)) (k : κ) : Option ν := (d.find? fun p => decide (p.1 = k)).map (·.2)
def putKV {κ ν : Type} [DecidableEq κ] (d : List (κ × ν)) (k : κ) (v : ν) : List (κ × ν) := if (d.any fun p => decide (p.1 = k)) = true then d.map (fun p => if p.1 = k then (p.1, v) else p) else d ++ [(k, v)]
def hasK {κ ν : Type} [DecidableEq κ] (d : List (κ × ν)) (k : κ) : Bool := (lookK d k).isSome
def putM {κ ν : Type} [DecidableEq κ] (d : List (κ × ν)) (k : κ) (v : ν) : Option (List (κ × ν)) := if d.length < 100000 then some (putKV d k v) else none
def kvE {κ ν : Type} (kf : κ → Key) (vf : ν → V) (d : List (κ × ν)) : List (Key × V) := d.map fun p => (kf p.1, vf p.2)
def Inj {κ : Type} (kf : κ → Key) : Prop := ∀ a b, kf a = kf b → a = b
abbrev kS : Str → Key := fun x => Sum.inr x
abbrev kI : Int → Key := fun x => Sum.inl x
theorem inj_S : Inj kS := fun _ _ h => Sum.inr.inj h
theorem inj_I : Inj kI := fun _ _ h => Sum.inl.inj h
section
variable {κ ν : Type} [DecidableEq κ] {kf : κ → Key} {vf : ν → V}
theorem val_kv (hk : Inj kf) : ∀ (d : List (κ × ν)) (k : κ), valV (kvE kf vf d) (kf k) = (lookK d k).map vf
  | [], _ => rfl
  | p :: d, k => by
    have ih := val_kv hk d k
    unfold valV kvE lookK at ih ⊢
    rw [List.map_cons, List.find?_cons, List.find?_cons]
    by_cases h : p.1 = k
    · rw [decide_eq_true h, decide_eq_true (congrArg kf h)]; rfl
    · rw [decide_eq_false h, decide_eq_false (fun z => h (hk _ _ z))]; exact ih
theorem put_kv (hk : Inj kf) (d : List (κ × ν)) (k : κ) (v : ν) : putK (kvE kf vf d) (kf k) (vf v) = kvE kf vf (putKV d k v) := by
  have e : ∀ d : List (κ × ν), ((kvE kf vf d).any fun kv => decide (kv.1 = kf k)) = d.any fun p => decide (p.1 = k) := fun d => by
    unfold kvE
    rw [List.any_map]
    congr 1
    funext p
    by_cases h : p.1 = k
    · simp [h]
    · have : ¬ kf p.1 = kf k := fun z => h (hk _ _ z)
      simp [h, this]
  unfold putK putKV
  rw [e]
  by_cases q : (d.any fun p => decide (p.1 = k)) = true
  · rw [if_pos q, if_pos q]
    unfold kvE
    rw [List.map_map, List.map_map]
    apply List.map_congr_left
    intro p _
    show (if kf p.1 = kf k then (kf p.1, vf v) else (kf p.1, vf p.2)) = _
    by_cases h : p.1 = k
    · rw [if_pos (congrArg kf h)]; show _ = (kf (if p.1 = k then (p.1, v) else p).1, vf (if p.1 = k then (p.1, v) else p).2); rw [if_pos h]
    · rw [if_neg (fun z => h (hk _ _ z))]; show _ = (kf (if p.1 = k then (p.1, v) else p).1, vf (if p.1 = k then (p.1, v) else p).2); rw [if_neg h]
  · rw [if_neg q, if_neg q]
    unfold kvE
    rw [List.map_append]; rfl
theorem putM_some {d e : List (κ × ν)} {k : κ} {v : ν} (h : putM d k v = some e) : d.length < 100000 ∧ putKV d k v = e := by
  unfold putM at h; split at h
  · rename_i q; exact ⟨q, Option.some.inj h⟩
  · cases h
end
/-- how a key's value stands -/
structure KfOk {κ : Type} (kf : κ → Key) (ek : κ → PyData) : Prop where
  inj : Inj kf
  v : ∀ K F v x, Dt K F v (ek x) → v = kV (kf x)
theorem kf_S : KfOk kS eS := ⟨inj_S, fun _ _ _ _ h => h.toStr⟩
theorem kf_I : KfOk kI eI := ⟨inj_I, fun _ _ _ _ h => h.toInt⟩
section
variable {K : PySem.W.Frag} {σ : St} {F F' : Hp} {cs cs1 cs2 cs3 : Cs} {ta tb tc te td : TE} {d e : PyData} {as : TA} {a b c : Int} {nx bk ct : St → Hp → Prop} {rt : VK} {H : Hp} {t u : TS}
variable {κ ν : Type} [DecidableEq κ] {kf : κ → Key} {vf : ν → V} {ek : κ → PyData} {ev : ν → PyData}
/-- a new dict -/
theorem o_dict0 {Q : VK} (s : Sta F cs H) (q : ∀ p H2, Sta F ((p, .dK (kvE kf vf [])) :: cs) H2 → Q (.ref p) H2) : tDNewK σ H Q := fun p hp => q p _ (s.cell hp)
/-- k in d -/
theorem d_din {D : List (κ × ν)} {k : κ} {p : Addr} (hk : KfOk kf ek) (ha : EvD K ta σ F cs (ek k) cs1) (hd : VP td σ F cs1 (.ref p)) (hF : F p = some (.dK (kvE kf vf D))) : EvD K (tDIn ta td) σ F cs (.bool (hasK D k)) cs1 := fun F1 H1 g1 s Q q =>
  ha F1 H1 g1 s _ fun v F2 H2 g2 s2 h2 => hd F2 H2 (g1.tr g2) s2 _ ⟨p, valV (kvE kf vf D) (kf k), rfl, by rw [hk.v K F2 v k h2]; exact DGet.k (s2.fr _ _ ((g1.tr g2) _ _ hF)), by
    rw [val_kv hk.inj, Option.isSome_map]; exact q _ F2 H2 g2 s2 (.bl _)⟩
theorem d_dnin {D : List (κ × ν)} {k : κ} {p : Addr} (hk : KfOk kf ek) (ha : EvD K ta σ F cs (ek k) cs1) (hd : VP td σ F cs1 (.ref p)) (hF : F p = some (.dK (kvE kf vf D))) : EvD K (tDNotIn ta td) σ F cs (.bool (!hasK D k)) cs1 := fun F1 H1 g1 s Q q =>
  ha F1 H1 g1 s _ fun v F2 H2 g2 s2 h2 => hd F2 H2 (g1.tr g2) s2 _ ⟨p, valV (kvE kf vf D) (kf k), rfl, by rw [hk.v K F2 v k h2]; exact DGet.k (s2.fr _ _ ((g1.tr g2) _ _ hF)), by
    rw [val_kv hk.inj, Option.isSome_map]; exact q _ F2 H2 g2 s2 (.bl _)⟩
/-- d[k] -/
theorem d_dget {D : List (κ × ν)} {k : κ} {x : ν} {p : Addr} (hk : KfOk kf ek) (hv : ∀ F x, Dt K F (vf x) (ev x)) (hd : VP td σ F cs (.ref p)) (ha : EvD K ta σ F cs (ek k) cs1) (hF : F p = some (.dK (kvE kf vf D))) (hx : lookK D k = some x) : EvD K (tDGet td ta) σ F cs (ev x) cs1 := fun F1 H1 g1 s Q q =>
  hd F1 H1 g1 s _ (ha F1 H1 g1 s _ fun v F2 H2 g2 s2 h2 => ⟨p, vf x, rfl, by
    have := DGet.k (k := kf k) (s2.fr _ _ ((g1.tr g2) _ _ hF))
    rw [val_kv hk.inj, hx] at this
    rw [hk.v K F2 v k h2]; exact this, q _ F2 H2 g2 s2 (hv _ _)⟩)
/-- len(d) -/
abbrev rLenD : List V → Hp → VK → Prop := fun xs H Q => ∃ a kvs, xs = [V.ref a] ∧ H a = some (.dK kvs) ∧ Q (.int kvs.length) H
theorem d_lenK {D : List (κ × ν)} {p : Addr} (hd : VP td σ F cs (.ref p)) (hF : F p = some (.dK (kvE kf vf D))) : EvD K (tCB rLenD (tCons td tNil)) σ F cs (.int D.length) cs := fun F1 H1 g1 s Q q =>
  hd F1 H1 g1 s _ ⟨p, _, rfl, s.fr _ _ (g1 _ _ hF), q _ F1 H1 .rfl s (by unfold kvE; rw [List.length_map]; exact .int _)⟩
/-- d[k] = v, d a cell -/
theorem s_dput {k1 k2 m1 m2 l1 l2 : Cs} {D D2 : List (κ × ν)} {k : κ} {x : ν} {p : Addr} (hk : KfOk kf ek) (hw : ∀ F v x, Dt K F v (ev x) → v = vf x) (s : Sta F (k1 ++ (p, .dK (kvE kf vf D)) :: k2) H) (h : EvD K te σ F (k1 ++ (p, .dK (kvE kf vf D)) :: k2) (ev x) (m1 ++ (p, .dK (kvE kf vf D)) :: m2))
    (hd : VP td σ F (m1 ++ (p, .dK (kvE kf vf D)) :: m2) (.ref p)) (ha : EvD K ta σ F (m1 ++ (p, .dK (kvE kf vf D)) :: m2) (ek k) (l1 ++ (p, .dK (kvE kf vf D)) :: l2)) (hm : putM D k x = some D2)
    (q : ∀ F2 H2, Gr F F2 → Sta F2 (l1 ++ (p, .dK (kvE kf vf D2)) :: l2) H2 → nx σ H2) : sDPut td ta te ⟨nx, rt, bk, ct⟩ σ H :=
  h F H .rfl s _ fun v F2 H2 g2 s2 hv => hd F2 H2 g2 s2 _ (ha F2 H2 g2 s2 _ fun y F3 H3 g3 s3 hy => by
    obtain ⟨hl, rfl⟩ := putM_some hm
    refine ⟨p, _, rfl, ?_, q F3 _ (g2.tr g3) (s3.putAt (o' := .dK (kvE kf vf (putKV D k x))))⟩
    rw [hk.v K F3 y k hy, hw F2 v x hv, ← put_kv hk.inj]
    exact DPut.k s3.getAt (by unfold kvE; rw [List.length_map]; exact szl hl))
/-- .. for a new name -/
theorem s_setDict {i : Nat} {σ' : Addr → St} (s : Sta F cs H) (hσ : ∀ p, σ.set i (some (.ref p)) = σ' p) (q : ∀ p H2, Sta F ((p, .dK (kvE kf vf [])) :: cs) H2 → nx (σ' p) H2) : tAsg tDNewK (gName i) ⟨nx, rt, bk, ct⟩ σ H := fun p hp => by
  show nx (σ.set i (some (.ref p))) _
  rw [hσ]
  exact q p _ (s.cell hp)
end
/-! what no tuple is, cut out -/
def nTup (o : HO) : Prop := ∀ xs, o ≠ .tup xs ∧ ∀ ob, o ≠ .frz ob (.tup xs)
theorem nt_d (kvs : List (Key × V)) : nTup (.dK kvs) := fun xs => ⟨fun z => (nomatch z), fun _ z => (nomatch z)⟩
theorem nt_l (kvs : List V) : nTup (.lst kvs) := fun xs => ⟨fun z => (nomatch z), fun _ z => (nomatch z)⟩
section
variable {K : PySem.W.Frag} {F F2 : Hp} {p : Addr} {o : HO}
mutual
theorem Dt.cutO (hp : F2 p = some o) (ho : nTup o) : ∀ {v : V} {d : PyData}, Dt K F2 v d → noL d = true → Dt K (cut F2 p) v d
  | _, _, .non, _ => .non
  | _, _, .bl b, _ => .bl b
  | _, _, .int i, _ => .int i
  | _, _, .str x, _ => .str x
  | _, _, .lst h a, n => by simp [noL] at n
  | _, _, .dct h, n => by simp [noL] at n
  | _, _, .tup (a := a) (ds := ds) h k, n => by
    have n' : noLs ds = true := by simpa [noL] using n
    refine .tup ?_ (Dts.cutO hp ho k n')
    rcases h with (h | ⟨ob, h⟩) | h
    · refine .inl (.inl ?_)
      rw [cut_ne (fun z => by rw [z, hp] at h; exact (ho _).1 (Option.some.inj h))]; exact h
    · refine .inl (.inr ⟨ob, ?_⟩)
      rw [cut_ne (fun z => by rw [z, hp] at h; exact (ho _).2 ob (Option.some.inj h))]; exact h
    · exact .inr h
theorem Dts.cutO (hp : F2 p = some o) (ho : nTup o) : ∀ {vs : List V} {ds : List PyData}, Dts K F2 vs ds → noLs ds = true → Dts K (cut F2 p) vs ds
  | _, _, .nil, _ => .nil
  | _, _, .cons h t, n => by
    rw [noLs, Bool.and_eq_true] at n
    exact .cons (Dt.cutO hp ho h n.1) (Dts.cutO hp ho t n.2)
end
end
section
variable {K : PySem.W.Frag} {σ : St} {F F' : Hp} {cs cs1 cs2 cs3 : Cs} {ta tb tc te : TE} {d e : PyData} {as : TA}
theorem d_lendO {l1 l2 m1 m2 : Cs} {p : Addr} {o : HO} (ho : nTup o) (hn : noL d = true) (h : ∀ F1, Gr F F1 → F1 p = none → EvD K te σ (upd F1 p o) (l1 ++ l2) d (m1 ++ m2)) : EvD K te σ F (l1 ++ (p, o) :: l2) d (m1 ++ (p, o) :: m2) := fun F1 H1 g1 s Q q => by
  refine h F1 g1 s.freeAt (upd F1 p o) H1 .rfl s.frozeAt Q fun v F2 H2 g2 s2 h2 => ?_
  exact q v (cut F2 p) H2 (gr_cut s.freeAt g2) (Sta.lent g2 s2) (h2.cutO (g2 p _ upd_same) ho hn)
theorem c_lendO {l1 l2 m1 m2 : Cs} {p : Addr} {o : HO} {ds : List PyData} (ho : nTup o) (hn : noLs ds = true) (h : ∀ F1, Gr F F1 → F1 p = none → EvC K te σ (upd F1 p o) (l1 ++ l2) ds (m1 ++ m2)) : EvC K te σ F (l1 ++ (p, o) :: l2) ds (m1 ++ (p, o) :: m2) := fun F1 H1 g1 s Q q => by
  refine h F1 g1 s.freeAt (upd F1 p o) H1 .rfl s.frozeAt Q fun a vs F2 H2 g2 s2 h2 => ?_
  exact q a vs (cut F2 p) H2 (gr_cut s.freeAt g2) (Sta.lent (l1 := (a, .lst vs) :: m1) g2 s2) (h2.cutO (g2 p _ upd_same) ho hn)
theorem sb_drop2 {z c : Addr × HO} : Sb (z :: c :: cs) (z :: cs) := Sb.tr (sb_perm (.swap c z cs)) sb_drop
/-- xs.insert(i, x), a cell -/
def insM {α : Type} (xs : List α) (i : Int) (x : α) : Option (List α) := if xs.length < 100000 ∧ 0 ≤ i ∧ i < 2 ^ 63 then some (xs.take i.toNat ++ [x] ++ xs.drop i.toNat) else none
abbrev rInsert : V → List V → Hp → VK → Prop := fun x vs H Q => ∃ (l : Addr) (xs : List V) (i : Int) (y : V), x = .ref l ∧ vs = [.int i, y] ∧ H l = some (.lst xs) ∧ xs.length < sizeLine ∧ 0 ≤ i ∧ i < 2 ^ 63 ∧ Q .non (upd H l (.lst (xs.take i.toNat ++ [y] ++ xs.drop i.toNat)))
theorem s_insFV {α : Type} {vf : α → V} {en : α → PyData} {k1 k2 m1 m2 l1 l2 : Cs} {to ti : TE} {p : Addr} {xs ys : List α} {x : α} {k : Int} {nx bk ct : St → Hp → Prop} {rt : VK} {H : Hp} (hw : ∀ F v x, Dt K F v (en x) → v = vf x) (s : Sta F (k1 ++ (p, .lst (xs.map vf)) :: k2) H) (hi : VP to σ F (k1 ++ (p, .lst (xs.map vf)) :: k2) (.ref p))
    (h1 : EvD K ti σ F (k1 ++ (p, .lst (xs.map vf)) :: k2) (.int k) (m1 ++ (p, .lst (xs.map vf)) :: m2)) (h : EvD K te σ F (m1 ++ (p, .lst (xs.map vf)) :: m2) (en x) (l1 ++ (p, .lst (xs.map vf)) :: l2)) (hm : insM xs k x = some ys)
    (q : ∀ F2 H2, Gr F F2 → Sta F2 (l1 ++ (p, .lst (ys.map vf)) :: l2) H2 → nx σ H2) : tDrop (tBM K "list" rInsert to (tCons ti (tCons te tNil))) ⟨nx, rt, bk, ct⟩ σ H := by
  unfold insM at hm; split at hm
  · rename_i hl
    cases hm
    refine hi F H .rfl s _ ⟨.inl ⟨rfl, _, .inl (.inl s.getAt)⟩, h1 F H .rfl s _ fun v F2 H2 g2 s2 hv => h F2 H2 g2 s2 _ fun w F3 H3 g3 s3 hx => ⟨p, xs.map vf, k, w, rfl, by rw [hv.toInt], s3.getAt, by rw [List.length_map]; exact szl hl.1, hl.2.1, hl.2.2, q F3 _ (g2.tr g3) ?_⟩⟩
    cases hw F3 w x hx
    rw [List.map_append, List.map_append, List.map_take, List.map_drop]
    exact s3.putAt
  · cases hm
end
end Bw

namespace Bw
open PySem L2
theorem eqE_OI : EqE (eO eI) := fun x y => by
  cases x <;> cases y <;> simp [eO, PyData.eqv]
  exact beq_dec _ _
theorem eqE_OS : EqE (eO eS) := fun x y => by
  cases x <;> cases y <;> simp [eO, PyData.eqv]
  exact beq_dec _ _
theorem eqE_OB : EqE (eO eB) := fun x y => by
  cases x <;> cases y <;> simp [eO, PyData.eqv]
  exact beq_dec _ _
theorem sh_OI : ShE 0 (eO eI) := fun x => by cases x <;> exact ⟨by simp [eO, PyData.canLay0], by simp [eO, PyData.depth]⟩
theorem sh_OB : ShE 0 (eO eB) := fun x => by cases x <;> exact ⟨by simp [eO, PyData.canLay0], by simp [eO, PyData.depth]⟩
section
variable {K : PySem.W.Frag} {σ : St} {F F' : Hp} {cs cs1 cs2 cs3 : Cs} {ta tb tc te : TE} {d e : PyData} {as : TA} {nx bk ct : St → Hp → Prop} {rt : VK} {H : Hp}
theorem sqT_cut {p a : Addr} {o : HO} {xs : List V} (hp : F p = some o) (ho : nTup o) (h : SqT K F a xs) : SqT K (cut F p) a xs := by
  rcases h with (h | ⟨ob, h⟩) | h
  · refine .inl (.inl ?_)
    rw [cut_ne (fun z => by rw [z, hp] at h; exact (ho _).1 (Option.some.inj h))]; exact h
  · refine .inl (.inr ⟨ob, ?_⟩)
    rw [cut_ne (fun z => by rw [z, hp] at h; exact (ho _).2 ob (Option.some.inj h))]; exact h
  · exact .inr h
theorem i_tupM {α : Type} {en : α → PyData} {xs : List α} (h : EvD K te σ F cs (.tuple (xs.map en)) cs1) : EvI K (iTup K te) σ F cs (xs.map en) cs1 := i_tup h
/-- xs.pop(k), nothing kept -/
theorem s_popFD {α : Type} {vf : α → V} {k1 k2 l1 l2 : Cs} {to : TE} {p : Addr} {xs ys : List α} {x : α} {ti : TE} {k : Int} (s : Sta F (k1 ++ (p, .lst (xs.map vf)) :: k2) H) (hi : VP to σ F (k1 ++ (p, .lst (xs.map vf)) :: k2) (.ref p))
    (h2 : EvD K ti σ F (k1 ++ (p, .lst (xs.map vf)) :: k2) (.int k) (l1 ++ (p, .lst (xs.map vf)) :: l2)) (hm : popM xs k = some (x, ys)) (q : ∀ F2 H2, Gr F F2 → Sta F2 (l1 ++ (p, .lst (ys.map vf)) :: l2) H2 → nx σ H2) : tDrop (tBM K "list" rPopAt to (tCons ti tNil)) ⟨nx, rt, bk, ct⟩ σ H := by
  obtain ⟨⟨a1, a2⟩, m, b1, b2, rfl⟩ := popM_some hm
  refine hi F H .rfl s _ ⟨.inl ⟨rfl, _, .inl (.inl s.getAt)⟩, h2 F H .rfl s _ fun w F3 H3 g3 s3 hw => ⟨p, xs.map vf, k, m, vf x, rfl, by cases hw.toInt; rfl, s3.getAt, a1, a2, by rw [List.length_map]; exact b1, by rw [List.getElem?_map, b2]; rfl, ?_⟩⟩
  have s4 := s3.putAt (o' := .lst ((xs.map vf).eraseIdx m))
  refine q F3 _ g3 ?_
  rw [er_map]; exact s4
theorem Dts.erase : ∀ {vs : List V} {ds : List PyData} (n : Nat), Dts K F vs ds → Dts K F (vs.eraseIdx n) (ds.eraseIdx n)
  | _, _, _, .nil => .nil
  | _, _, 0, .cons _ t => t
  | _, _, n + 1, .cons h t => .cons h (Dts.erase n t)
theorem s_popGD {α : Type} {en : α → PyData} {k1 k2 l1 l2 : Cs} {to : TE} {p : Addr} {vs : List V} {xs ys : List α} {x : α} {ti : TE} {k : Int} (s : Sta F (k1 ++ (p, .lst vs) :: k2) H) (hf : Dts K F vs (xs.map en)) (hi : VP to σ F (k1 ++ (p, .lst vs) :: k2) (.ref p))
    (h2 : EvD K ti σ F (k1 ++ (p, .lst vs) :: k2) (.int k) (l1 ++ (p, .lst vs) :: l2)) (hm : popM xs k = some (x, ys)) (q : ∀ us F2 H2, Gr F F2 → Sta F2 (l1 ++ (p, .lst us) :: l2) H2 → Dts K F2 us (ys.map en) → nx σ H2) : tDrop (tBM K "list" rPopAt to (tCons ti tNil)) ⟨nx, rt, bk, ct⟩ σ H := by
  obtain ⟨⟨a1, a2⟩, m, b1, b2, rfl⟩ := popM_some hm
  have hl : vs.length = xs.length := by rw [hf.len, List.length_map]
  have hm' : m < vs.length := by rw [hl]; exact (List.getElem?_eq_some_iff.mp b2).1
  refine hi F H .rfl s _ ⟨.inl ⟨rfl, _, .inl (.inl s.getAt)⟩, h2 F H .rfl s _ fun w F3 H3 g3 s3 hw => ⟨p, vs, k, m, vs[m], rfl, by cases hw.toInt; rfl, s3.getAt, a1, a2, by rw [hl]; exact b1, List.getElem?_eq_getElem hm', ?_⟩⟩
  refine q _ F3 _ g3 (s3.putAt (o' := .lst (vs.eraseIdx m))) ?_
  rw [er_map]
  exact Dts.erase m (hf.gr g3)
end
end Bw

namespace Bw
open PySem L2
def top (i : Nat) : Stmt := PySem.Challenge.pw_baycart_k59_crowds_and_bounds.main.body.getD i (.Pass ⟨0, 0, 0, 0⟩)
abbrev s_pool : Stmt := (top 28)
def f_pool : ((List Int) × Int) → Option (List Int) := fun (script_1, k_2) => ((if (decide (k_2 < (script_1.length : Int))) = true then (((atI script_1 k_2)).bind fun x57 => some x57) else some (0 : Int))).bind fun cell_7 => (((mulM ((15485863 : Int) * k_2) k_2)).bind fun x17 => letM (((((cell_7 % (1000000007 : Int)) + x17) + (3 : Int)) * (16807 : Int)) % (2147483647 : Int)) fun seed_23 => ((if (decide (cell_7 < (1000000000000000000 : Int))) = true then some (0 : Int) else some cell_7)).bind fun cell_25 => some ([cell_25, seed_23] : (List Int)))
abbrev A_pool : ((List Int) × Int) → List Ar := fun x => [.d ((eL eI) x.1), .d (eI x.2)]
abbrev B_pool : (List Int) → List PyData := fun y => y.map eI
abbrev C_pool : (List Int) → List (List V) := fun y => []
abbrev N_pool : List Str := ["_law_script", "_law_k", "_law_cell", "_law_seed"]
abbrev sp_pool (K : PySem.W.Frag) : Sp := spF K A_pool B_pool C_pool f_pool
def t_pool (K : PySem.W.Frag) : TS := (tSeq (tAsg (tC (.int 0)) (gName 2)) (tSeq (tIfS (tTest (tOp (rI0 fun i j => .bl (decide (i < j))) (tVar 1) (tCB (rLenL K) (tCons (tVar 0) tNil)))) (tAsg (tOp (rIxL K) (tVar 0) (tVar 1)) (gName 2)) tNext) (tSeq (tAsg (tOp (rI (fun _ j => 0 < j) fun i j => .int (i % j)) (tOp (rI CMul fun i j => .int (i * j)) (tOp (rI0 fun i j => .int (i + j)) (tOp (rI0 fun i j => .int (i + j)) (tOp (rI (fun _ j => 0 < j) fun i j => .int (i % j)) (tVar 2) (tC (.int 1000000007))) (tOp (rI CMul fun i j => .int (i * j)) (tOp (rI CMul fun i j => .int (i * j)) (tC (.int 15485863)) (tVar 1)) (tVar 1))) (tC (.int 3))) (tC (.int 16807))) (tC (.int 2147483647))) (gName 3)) (tSeq (tIfS (tTest (tOp (rI0 fun i j => .bl (decide (i < j))) (tVar 2) (tOp (rI CPow fun i j => .int (i ^ j.toNat)) (tC (.int 10)) (tC (.int 18))))) (tAsg (tC (.int 0)) (gName 2)) tNext) (tRet (tLst (tCons (tVar 2) (tCons (tVar 3) tNil))))))))
theorem w_pool {K : PySem.W.Frag} (vs : List V) (H : Hp) (Q : VK) (E : XK) (h : sp_pool K vs H Q E) : t_pool K { nx := fun _ H' => Q .non H', rt := Q } (start N_pool vs) H := by
  obtain ⟨F0, cc, cs, ⟨script_1, k_2⟩, y, h0, hS0, m, q⟩ := h
  obtain ⟨a0, _, rfl, ha0, h1⟩ := ArgR.hd h0
  obtain ⟨a1, _, rfl, ha1, h2⟩ := ArgR.hd h1
  obtain ⟨rfl, rfl⟩ := ArgR.no h2
  obtain rfl := Dt.toInt ha1
  unfold f_pool at m
  try dsimp only at m
  unfold t_pool
  refine go (σ' := [some a0, some (.int k_2), none, none]) rfl ?_
  refine s_setV (K := K) (d := eI (0 : Int)) (i := 2) (σ' := [some a0, some (.int k_2), some (.int (0 : Int)), none]) (fun _ _ h => Dt.toInt h) hS0 d_int rfl (fun F3 H4 g5 hS6 => ?_)
  obtain ⟨cell_7, k9, m⟩ := bnd m
  refine s_ifJ (b := (decide (k_2 < (script_1.length : Int)))) (fun σ H => ∃ (F : Hp) (c : Cs), Gr F3 F ∧ Sta F c H ∧ ∃ (j3 : Option V), σ = [some a0, some (.int k_2), some (.int cell_7), j3] ∧ cs = c) hS6 (t_test (K := K) (d_lt (d_var rfl (.int _)) (d_len (e := eI) (a_cons (d_var rfl (Dt.gr g5 ha0)) a_nil)))) ?_ (fun jn8 hc F53 H54 g55 hS56 => ?_) (fun jn8 hc F63 H64 g65 hS66 => ?_)
  · rintro σ15 H11 ⟨F10, c14, g12, hS13, u16, rfl, rfl⟩
    obtain ⟨x17, k18, m⟩ := bnd m
    obtain ⟨seed_23, k24, m⟩ := lt m
    refine s_setV (K := K) (d := eI seed_23) (i := 3) (σ' := [some a0, some (.int k_2), some (.int cell_7), some (.int seed_23)]) (fun _ _ h => Dt.toInt h) hS13 (d_is (d_modC (d_mulC (d_add (d_add (d_modC (d_var rfl (.int _)) d_int (by decide)) (d_mul (d_mulC d_int (d_var rfl (.int _)) (.inl ⟨by decide, by decide⟩)) (d_var rfl (.int _)) k18)) d_int) d_int (.inr ⟨by decide, by decide⟩)) d_int (by decide)) (congrArg eI k24)) rfl (fun F19 H20 g21 hS22 => ?_)
    obtain ⟨cell_25, k27, m⟩ := bnd m
    refine s_ifJ (b := (decide (cell_7 < (1000000000000000000 : Int)))) (fun σ H => ∃ (F : Hp) (c : Cs), Gr F19 F ∧ Sta F c H ∧ σ = [some a0, some (.int k_2), some (.int cell_25), some (.int seed_23)] ∧ cs = c) hS22 (t_test (K := K) (d_lt (d_var rfl (.int _)) (d_is (e := PyData.int 1000000000000000000) (d_powC d_int d_int ⟨by decide, by decide, by decide⟩) (congrArg PyData.int (by decide))))) ?_ (fun jn26 hc F41 H42 g43 hS44 => ?_) (fun jn26 hc F49 H50 g51 hS52 => ?_)
    · rintro σ33 H29 ⟨F28, c32, g30, hS31, rfl, rfl⟩
      refine s_retC (K := K) (ds := ([cell_25, seed_23] : (List Int)).map eI) hS31 (c_lst (a_cons (d_var rfl (.int _)) (a_cons (d_var rfl (.int _)) a_nil)) (Nat.le_of_ble_eq_true rfl)) (fun p38 us39 F34 H35 g36 hS37 hu40 => ?_)
      obtain rfl := sm m
      exact q _ _ _ _ (Gr.tr g5 (Gr.tr g12 (Gr.tr g21 (Gr.tr g30 g36)))) hS37 hu40
    · rw [if_pos hc] at k27
      refine s_setV (K := K) (d := eI (0 : Int)) (i := 2) (σ' := [some a0, some (.int k_2), some (.int (0 : Int)), some (.int seed_23)]) (fun _ _ h => Dt.toInt h) hS44 d_int rfl (fun F45 H46 g47 hS48 => ?_)
      obtain rfl := sm k27
      exact jn26 _ _ ⟨_, _, (Gr.tr g43 g47), hS48, rfl, rfl⟩
    · rw [if_neg (bf hc)] at k27
      refine nxt ?_
      obtain rfl := sm k27
      exact jn26 _ _ ⟨_, _, g51, hS52, rfl, rfl⟩
  · rw [if_pos hc] at k9
    obtain ⟨x57, k58, k9⟩ := bnd k9
    refine s_setV (K := K) (d := eI x57) (i := 2) (σ' := [some a0, some (.int k_2), some (.int x57), none]) (fun _ _ h => Dt.toInt h) hS56 (d_ix (e := eI) (d_var rfl (Dt.gr (Gr.tr g5 g55) ha0)) (d_var rfl (.int _)) k58) rfl (fun F59 H60 g61 hS62 => ?_)
    obtain rfl := sm k9
    exact jn8 _ _ ⟨_, _, (Gr.tr g55 g61), hS62, _, rfl, rfl⟩
  · rw [if_neg (bf hc)] at k9
    refine nxt ?_
    obtain rfl := sm k9
    exact jn8 _ _ ⟨_, _, g65, hS66, _, rfl, rfl⟩
theorem sc_pool : FnScope N_pool ["_law_script", "_law_k"] (defScope s_pool) := ⟨rfl, rfl, rfl, by decide +kernel, rfl, by decide +kernel, by decide +kernel⟩
theorem ok_pool {P : Program} {w : World} {K : PySem.W.Frag} {mg : Str → Option Value} {base : Heap} (hF : Df K mg "_law_pool" s_pool) (m_len : mg "len" = none) : Ok P w K mg base 1 "_law_pool" ["_law_script", "_law_k"] (sp_pool K) := by
  obtain ⟨⟨fd, F⟩, gm⟩ := hF
  refine ⟨⟨fd, F.ok sc_pool (fun vs H Q E h => ?_) (fun cdv A outer s H vs Q E hr h => ⟨t_pool K, PSs.nox ?_, w_pool vs H Q E h⟩), F.bindsN fun _ _ _ _ _ _ us hl => match us, hl with | [_, _], _ => rfl, lk_of F⟩, F.kp, gm⟩
  · obtain ⟨F0, cc, cs, x, y, h, _⟩ := h; exact ArgR.len h
  · exact (pss_cons (ps_set (i := 2) sc_pool.nd rfl (Or.inl rfl) pe_int) (pss_cons (ps_if (pt_cmpR op_lt (pv 1) (pe_callB cr_lenL (by rfl) m_len PySem.boot_len (pa_cons (pv 0) pa_nil)) (nomark _)) (pss_one (ps_set (i := 2) sc_pool.nd rfl (Or.inl rfl) (pe_ix ix_list (pv 0) (pv 1) (fun _ _ => rfl)))) pss_nil) (pss_cons (ps_set (i := 3) sc_pool.nd rfl (Or.inl rfl) (pe_op op_mod (pe_op op_mul (pe_op op_add (pe_op op_add (pe_op op_mod (pv 2) pe_int) (pe_op op_mul (pe_op op_mul pe_int (pv 1)) (pv 1))) pe_int) pe_int) pe_int)) (pss_cons (ps_if (pt_cmpR op_lt (pv 2) (pe_op op_pow pe_int pe_int) (nomark _)) (pss_one (ps_set (i := 2) sc_pool.nd rfl (Or.inl rfl) pe_int)) pss_nil) (pss_one (ps_ret (pe_lst (pa_cons (pv 2) (pa_cons (pv 3) pa_nil)))))))))
abbrev s_take : Stmt := (top 29)
def f_take : ((List Int) × Int) → Option (Int × (List Int)) := fun (pool_here_1, many_2) => (((atI pool_here_1 (0 : Int))).bind fun x6 => (if (decide ((0 : Int) < x6)) = true then (((atI pool_here_1 (0 : Int))).bind fun x15 => ((modM x15 many_2)).bind fun x17 => (((atI pool_here_1 (0 : Int))).bind fun x26 => ((fdivM x26 many_2)).bind fun x28 => ((setM pool_here_1 (0 : Int) x28)).bind fun pool_here_30 => some (x17, pool_here_30))) else (((atI pool_here_1 (1 : Int))).bind fun x49 => ((setM pool_here_1 (1 : Int) (((x49 * (48271 : Int)) + (11 : Int)) % (2147483647 : Int)))).bind fun pool_here_51 => (((atI pool_here_51 (1 : Int))).bind fun x60 => ((atI pool_here_51 (1 : Int))).bind fun x62 => ((mulM x60 x62)).bind fun x64 => ((modM ((x64 % (2147483629 : Int)) / (64 : Int)) many_2)).bind fun x66 => some (x66, pool_here_51)))))
abbrev A_take : ((List Int) × Int) → List Ar := fun x => [.c (x.1.map V.int), .d (eI x.2)]
abbrev B_take : (Int × (List Int)) → PyData := fun y => eI y.1
abbrev C_take : (Int × (List Int)) → List (List V) := fun y => [y.2.map V.int]
abbrev N_take : List Str := ["_law_pool_here", "_law_many", "_law_found"]
abbrev sp_take (K : PySem.W.Frag) : Sp := spC K A_take B_take C_take f_take
def t_take (K : PySem.W.Frag) : TS := (tSeq (tIfS (tTest (tOp (rI0 fun i j => .bl (decide (j < i))) (tOp (rIxL K) (tVar 0) (tC (.int 0))) (tC (.int 0)))) (tSeq (tAsg (tOp (rI (fun _ j => 0 < j) fun i j => .int (i % j)) (tOp (rIxL K) (tVar 0) (tC (.int 0))) (tVar 1)) (gName 2)) (tSeq (tAsg (tOp (rI CDiv fun i j => .int (i / j)) (tOp (rIxL K) (tVar 0) (tC (.int 0))) (tVar 1)) (gSub (tVar 0) (tC (.int 0)) rSetL)) (tRet (tVar 2)))) tNext) (tSeq (tAsg (tOp (rI (fun _ j => 0 < j) fun i j => .int (i % j)) (tOp (rI0 fun i j => .int (i + j)) (tOp (rI CMul fun i j => .int (i * j)) (tOp (rIxL K) (tVar 0) (tC (.int 1))) (tC (.int 48271))) (tC (.int 11))) (tC (.int 2147483647))) (gSub (tVar 0) (tC (.int 1)) rSetL)) (tRet (tOp (rI (fun _ j => 0 < j) fun i j => .int (i % j)) (tOp (rI CDiv fun i j => .int (i / j)) (tOp (rI (fun _ j => 0 < j) fun i j => .int (i % j)) (tOp (rI CMul fun i j => .int (i * j)) (tOp (rIxL K) (tVar 0) (tC (.int 1))) (tOp (rIxL K) (tVar 0) (tC (.int 1)))) (tC (.int 2147483629))) (tC (.int 64))) (tVar 1)))))
theorem w_take {K : PySem.W.Frag} (vs : List V) (H : Hp) (Q : VK) (E : XK) (h : sp_take K vs H Q E) : t_take K { nx := fun _ H' => Q .non H', rt := Q } (start N_take vs) H := by
  obtain ⟨F0, cc, cs, ⟨pool_here_1, many_2⟩, y, h0, hS0, m, q⟩ := h
  obtain ⟨a0, _, _, rfl, rfl, h1⟩ := ArgR.hc h0
  obtain ⟨a1, _, rfl, ha1, h2⟩ := ArgR.hd h1
  obtain ⟨rfl, rfl⟩ := ArgR.no h2
  obtain rfl := Dt.toInt ha1
  unfold f_take at m
  try dsimp only at m
  unfold t_take
  refine go (σ' := [some (.ref a0), some (.int many_2), none]) rfl ?_
  obtain ⟨x6, k7, m⟩ := bnd m
  refine s_if (b := (decide ((0 : Int) < x6))) hS0 (t_lendX (l1 := []) (m1 := []) (fun F3 g4 hn5 => (t_test (K := K) (d_gt (d_ix (e := eI) (d_var rfl (lent_l hn5 (Dts.gr g4 (Dts.of_ints _)))) d_int k7) d_int)))) (fun hc F8 H9 g10 hS11 => ?_) (fun hc F42 H43 g44 hS45 => ?_)
  · rw [if_pos hc] at m
    obtain ⟨x15, k16, m⟩ := bnd m
    obtain ⟨x17, k18, m⟩ := bnd m
    refine s_setV (K := K) (d := eI x17) (i := 2) (σ' := [some (.ref a0), some (.int many_2), some (.int x17)]) (fun _ _ h => Dt.toInt h) hS11 (d_lendX (l1 := []) (m1 := []) (fun _ _ h => Dt.toInt h) (fun _ => (.int _)) (fun F12 g13 hn14 => (d_mod (d_ix (e := eI) (d_var rfl (lent_l hn14 (Dts.gr g13 (Dts.of_ints _)))) d_int k16) (d_var rfl (.int _)) k18))) rfl (fun F19 H20 g21 hS22 => ?_)
    obtain ⟨x26, k27, m⟩ := bnd m
    obtain ⟨x28, k29, m⟩ := bnd m
    obtain ⟨pool_here_30, k31, m⟩ := bnd m
    refine s_itemFV (K := K) (k1 := []) (m1 := []) (x := x28) (l1 := []) (p := a0) (vf := V.int) (en := eI) (fun _ _ _ h => Dt.toInt h) hS22 (vp_var rfl) (d_lendX (l1 := []) (m1 := []) (fun _ _ h => Dt.toInt h) (fun _ => (.int _)) (fun F23 g24 hn25 => (d_fdiv (d_ix (e := eI) (d_var rfl (lent_l hn25 (Dts.gr g24 (Dts.of_ints _)))) d_int k27) (d_var rfl (.int _)) k29))) d_int k31 (fun F32 H33 g34 hS35 => ?_)
    refine s_ret (K := K) (d := eI x17) hS35 (d_var rfl (.int _)) (fun v40 F36 H37 g38 hS39 hv41 => ?_)
    obtain rfl := sm m
    exact q _ _ _ (Gr.tr g10 (Gr.tr g21 (Gr.tr g34 g38))) hS39 hv41
  · rw [if_neg (bf hc)] at m
    refine nxt ?_
    obtain ⟨x49, k50, m⟩ := bnd m
    obtain ⟨pool_here_51, k52, m⟩ := bnd m
    refine s_itemFV (K := K) (k1 := []) (m1 := []) (x := (((x49 * (48271 : Int)) + (11 : Int)) % (2147483647 : Int))) (l1 := []) (p := a0) (vf := V.int) (en := eI) (fun _ _ _ h => Dt.toInt h) hS45 (vp_var rfl) (d_lendX (l1 := []) (m1 := []) (fun _ _ h => Dt.toInt h) (fun _ => (.int _)) (fun F46 g47 hn48 => (d_modC (d_add (d_mulC (d_ix (e := eI) (d_var rfl (lent_l hn48 (Dts.gr g47 (Dts.of_ints _)))) d_int k50) d_int (.inr ⟨by decide, by decide⟩)) d_int) d_int (by decide)))) d_int k52 (fun F53 H54 g55 hS56 => ?_)
    obtain ⟨x60, k61, m⟩ := bnd m
    obtain ⟨x62, k63, m⟩ := bnd m
    obtain ⟨x64, k65, m⟩ := bnd m
    obtain ⟨x66, k67, m⟩ := bnd m
    refine s_ret (K := K) (d := eI x66) hS56 (d_lendX (l1 := []) (m1 := []) (fun _ _ h => Dt.toInt h) (fun _ => (.int _)) (fun F57 g58 hn59 => (d_mod (d_fdivC (d_modC (d_mul (d_ix (e := eI) (d_var rfl (lent_l hn59 (Dts.gr g58 (Dts.of_ints _)))) d_int k61) (d_ix (e := eI) (d_var rfl (lent_l hn59 (Dts.gr g58 (Dts.of_ints _)))) d_int k63) k65) d_int (by decide)) d_int ⟨by decide, by decide⟩) (d_var rfl (.int _)) k67))) (fun v72 F68 H69 g70 hS71 hv73 => ?_)
    obtain rfl := sm m
    exact q _ _ _ (Gr.tr g44 (Gr.tr g55 g70)) hS71 hv73
theorem sc_take : FnScope N_take ["_law_pool_here", "_law_many"] (defScope s_take) := ⟨rfl, rfl, rfl, by decide +kernel, rfl, by decide +kernel, by decide +kernel⟩
theorem ok_take {P : Program} {w : World} {K : PySem.W.Frag} {mg : Str → Option Value} {base : Heap} (hF : Df K mg "_law_take" s_take) : Ok P w K mg base 1 "_law_take" ["_law_pool_here", "_law_many"] (sp_take K) := by
  obtain ⟨⟨fd, F⟩, gm⟩ := hF
  refine ⟨⟨fd, F.ok sc_take (fun vs H Q E h => ?_) (fun cdv A outer s H vs Q E hr h => ⟨t_take K, PSs.nox ?_, w_take vs H Q E h⟩), F.bindsN fun _ _ _ _ _ _ us hl => match us, hl with | [_, _], _ => rfl, lk_of F⟩, F.kp, gm⟩
  · obtain ⟨F0, cc, cs, x, y, h, _⟩ := h; exact ArgR.len h
  · exact (pss_cons (ps_if (pt_cmpR op_gt (pe_ix ix_list (pv 0) pe_int (fun _ _ => rfl)) pe_int (nomark _)) (pss_cons (ps_set (i := 2) sc_take.nd rfl (Or.inl rfl) (pe_op op_mod (pe_ix ix_list (pv 0) pe_int (fun _ _ => rfl)) (pv 1))) (pss_cons (ps_asg (pe_op op_fdiv (pe_ix ix_list (pv 0) pe_int (fun _ _ => rfl)) (pv 1)) (pg_sub (pv 0) pe_int set_list)) (pss_one (ps_ret (pv 2))))) pss_nil) (pss_cons (ps_asg (pe_op op_mod (pe_op op_add (pe_op op_mul (pe_ix ix_list (pv 0) pe_int (fun _ _ => rfl)) pe_int) pe_int) pe_int) (pg_sub (pv 0) pe_int set_list)) (pss_one (ps_ret (pe_op op_mod (pe_op op_fdiv (pe_op op_mod (pe_op op_mul (pe_ix ix_list (pv 0) pe_int (fun _ _ => rfl)) (pe_ix ix_list (pv 0) pe_int (fun _ _ => rfl))) pe_int) pe_int) (pv 1))))))
abbrev s_aisle : Stmt := (top 30)
def f_aisle : ((List Int) × Int × Int) → Option (((List Int) × Int) × (List Int)) := fun (pool_here_1, most_gaps_2, longest_3) => (((f_take (pool_here_1, most_gaps_2))).bind fun (x4, pool_here_6) => ((rngM (0 : Int) ((1 : Int) + x4))).bind fun x7 => ((lcSC (fun (pool_here_18 : (List Int)) k_9 => (((f_take (pool_here_18, longest_3))).bind fun (x21, pool_here_23) => some (pool_here_23, some ((1 : Int) + x21)))) pool_here_6 x7)).bind fun (pool_here_28, x26) => (((f_take (pool_here_28, (3 : Int)))).bind fun (x36, pool_here_38) => ((atI ([(1 : Int), (3 : Int), (20 : Int)] : (List Int)) x36)).bind fun x39 => ((f_take (pool_here_38, x39))).bind fun (x41, pool_here_43) => letM ((1 : Int) + x41) fun x44 => some ((x26, x44), pool_here_43)))
abbrev A_aisle : ((List Int) × Int × Int) → List Ar := fun x => [.c (x.1.map V.int), .d (eI x.2.1), .d (eI x.2.2)]
abbrev B_aisle : (((List Int) × Int) × (List Int)) → PyData := fun y => (eT2 (eL eI) eI) y.1
def R_aisle (K : PySem.W.Frag) (y : (((List Int) × Int) × (List Int))) (F : Hp) (v : V) (c : Cs) : Prop := ∃ (t : Addr) (p0 : Addr), v = .ref t ∧ c = [(p0, .lst (y.1.1.map V.int))] ∧ SqT K F t [.ref p0, (.int y.1.2)]
theorem dd_aisle (K : PySem.W.Frag) : ∀ y F H v c cs, R_aisle K y F v c → Sta F (c ++ cs) H → ∃ F', Gr F F' ∧ Sta F' cs H ∧ Dt K F' v (B_aisle y) := by
  rintro y F H v c cs ⟨t, p0, rfl, rfl, hT⟩ s0
  have g0 := Sta.gfr s0
  have s1 := Sta.froze s0
  exact ⟨_, g0, s1, .tup (gr_T g0 hT) (Dts.cons (Dt.lst (.inl (.inl upd_same)) (Dts.gr g0 (Dts.of_ints _))) (Dts.cons (.int _) Dts.nil))⟩
abbrev C_aisle : (((List Int) × Int) × (List Int)) → List (List V) := fun y => [y.2.map V.int]
abbrev N_aisle : List Str := ["_law_pool_here", "_law_most_gaps", "_law_longest", "_law_gaps", "_law_k"]
abbrev sp_aisle (K : PySem.W.Frag) : Sp := spR K A_aisle C_aisle (R_aisle K) f_aisle
def t_aisle (K : PySem.W.Frag) : TS := (tSeq (tAsg (tLc (iRng1 (tCons (tOp (rI0 fun i j => .int (i + j)) (tC (.int 1)) (tCall (sp_take K) [] E0 (tCons (tVar 0) (tCons (tVar 1) tNil)))) tNil)) (gName 4) tYes (tOp (rI0 fun i j => .int (i + j)) (tC (.int 1)) (tCall (sp_take K) [] E0 (tCons (tVar 0) (tCons (tVar 2) tNil)))) [4]) (gName 3)) (tRet (tTup (tCons (tVar 3) (tCons (tOp (rI0 fun i j => .int (i + j)) (tC (.int 1)) (tCall (sp_take K) [] E0 (tCons (tVar 0) (tCons (tOp (rIxL K) (tLst (tCons (tC (.int 1)) (tCons (tC (.int 3)) (tCons (tC (.int 20)) tNil)))) (tCall (sp_take K) [] E0 (tCons (tVar 0) (tCons (tC (.int 3)) tNil)))) tNil)))) tNil)))))
theorem w_aisle {K : PySem.W.Frag} (vs : List V) (H : Hp) (Q : VK) (E : XK) (h : sp_aisle K vs H Q E) : t_aisle K { nx := fun _ H' => Q .non H', rt := Q } (start N_aisle vs) H := by
  obtain ⟨F0, cc, cs, ⟨pool_here_1, most_gaps_2, longest_3⟩, y, h0, hS0, m, q⟩ := h
  obtain ⟨a0, _, _, rfl, rfl, h1⟩ := ArgR.hc h0
  obtain ⟨a1, _, rfl, ha1, h2⟩ := ArgR.hd h1
  obtain ⟨a2, _, rfl, ha2, h3⟩ := ArgR.hd h2
  obtain ⟨rfl, rfl⟩ := ArgR.no h3
  obtain rfl := Dt.toInt ha1
  obtain rfl := Dt.toInt ha2
  unfold f_aisle at m
  try dsimp only at m
  unfold t_aisle
  refine go (σ' := [some (.ref a0), some (.int most_gaps_2), some (.int longest_3), none, none]) rfl ?_
  obtain ⟨⟨x4, pool_here_6⟩, k5, m⟩ := bnd m; (try dsimp only at m)
  obtain ⟨x7, k8, m⟩ := bnd m
  obtain ⟨⟨pool_here_28, x26⟩, k27, m⟩ := bnd m; (try dsimp only at m)
  refine s_setC (K := K) (ds := x26.map eI) (i := 3) (σ' := fun p33 => [some (.ref a0), some (.int most_gaps_2), some (.int longest_3), some (.ref p33), none]) hS0 (c_lcS (K := K) (f := (fun (pool_here_18 : (List Int)) k_9 => (((f_take (pool_here_18, longest_3))).bind fun (x21, pool_here_23) => some (pool_here_23, some ((1 : Int) + x21))))) (em := eI) (s0 := pool_here_6) (s1 := pool_here_28) (fun (z : (List Int)) => (a0, .lst (z.map V.int)) :: cs) (i_rng1 (a_cons (d_add d_int (d_callX (A := A_take) (B := B_take) (C := C_take) (x := (pool_here_1, most_gaps_2)) (y := (x4, pool_here_6)) (cs2 := ((a0, HO.lst (pool_here_6.map V.int)) :: cs)) (cc := [(a0, HO.lst (pool_here_1.map V.int))]) (cs' := (cs)) (r_c rfl (r_d (d_var rfl (.int _)) r_nil)) sb_rfl k5 sb_rfl)) a_nil) k8) k27 (fun k_9 pool_here_18 z24 o16 v17 F10 p11 us12 g13 hv14 ho15 => by obtain rfl := Dt.toInt hv14; obtain ⟨⟨x21, pool_here_23⟩, k22, ho15⟩ := bnd ho15; (try dsimp only at ho15); obtain ⟨rfl, rfl⟩ := pr2 (sm ho15); exact ⟨[some (.ref a0), some (.int most_gaps_2), some (.int longest_3), none, some (.int k_9)], fun H20 Q hS19 hq => (fun Q hq => hq) Q hq, rfl, t_yes, (fun hy => by cases hy), fun y hy => by obtain rfl := sm hy; exact (d_add d_int (d_callX (A := A_take) (B := B_take) (C := C_take) (x := (pool_here_18, longest_3)) (y := (x21, pool_here_23)) (cs2 := ((p11, HO.lst us12) :: (a0, HO.lst (pool_here_23.map V.int)) :: cs)) (cc := [(a0, HO.lst (pool_here_18.map V.int))]) (cs' := ((p11, HO.lst us12) :: cs)) (r_c rfl (r_d (d_var rfl (.int _)) r_nil)) (sb_perm (List.perm_middle (l₁ := [(p11, HO.lst us12)]))) k22 (sb_perm (List.Perm.symm (List.perm_middle (l₁ := [(p11, HO.lst us12)]))))))⟩)) (fun _ => rfl) (fun p33 us34 F29 H30 g31 hS32 hu35 => ?_)
  obtain rfl := Dts.ints hu35
  refine o_ret (o_tup ?_)
  refine o_cons ?_
  refine o_v hS32 (vp_var rfl) ?_
  refine o_cons ?_
  obtain ⟨⟨x36, pool_here_38⟩, k37, m⟩ := bnd m; (try dsimp only at m)
  obtain ⟨x39, k40, m⟩ := bnd m
  obtain ⟨⟨x41, pool_here_43⟩, k42, m⟩ := bnd m; (try dsimp only at m)
  obtain ⟨x44, k45, m⟩ := lt m
  refine o_d (K := K) (d := eI x44) hS32 (d_is (d_add d_int (d_callX (A := A_take) (B := B_take) (C := C_take) (x := (pool_here_38, x39)) (y := (x41, pool_here_43)) (cs2 := ((p33, HO.lst (x26.map V.int)) :: (a0, HO.lst (pool_here_43.map V.int)) :: cs)) (cc := [(a0, HO.lst (pool_here_38.map V.int))]) (cs' := ((p33, HO.lst (x26.map V.int)) :: cs)) (r_c rfl (r_d (d_ix (e := eI) (d_lst (a_cons d_int (a_cons d_int (a_cons d_int a_nil))) (Nat.le_of_ble_eq_true rfl)) (d_callX (A := A_take) (B := B_take) (C := C_take) (x := (pool_here_28, (3 : Int))) (y := (x36, pool_here_38)) (cs2 := ((p33, HO.lst (x26.map V.int)) :: (a0, HO.lst (pool_here_38.map V.int)) :: cs)) (cc := [(a0, HO.lst (pool_here_28.map V.int))]) (cs' := ((p33, HO.lst (x26.map V.int)) :: cs)) (r_c rfl (r_d d_int r_nil)) (sb_perm (List.perm_middle (l₁ := [(p33, HO.lst (x26.map V.int))]))) k37 (sb_perm (List.Perm.symm (List.perm_middle (l₁ := [(p33, HO.lst (x26.map V.int))]))))) k40) r_nil)) (sb_perm (List.perm_middle (l₁ := [(p33, HO.lst (x26.map V.int))]))) k42 (sb_perm (List.Perm.symm (List.perm_middle (l₁ := [(p33, HO.lst (x26.map V.int))])))))) (congrArg eI k45)) (fun v50 F46 H47 g48 hS49 hv51 => ?_)
  obtain rfl := Dt.toInt hv51
  refine o_nil ?_
  refine ⟨Nat.le_trans (show ([(.ref p33), (.int x44)] : List V).length ≤ 1000 from Nat.le_of_ble_eq_true rfl) (by decide), fun p52 hp55 => ?_⟩
  have g53 := Gr.new (o := .tup [(.ref p33), (.int x44)]) (hS49.fr.back hp55)
  have hS54 := Sta.lay (o := .tup [(.ref p33), (.int x44)]) hS49 hp55
  have hS56 := Sta.perm hS54 (List.Perm.trans (List.perm_middle (l₁ := [(p33, HO.lst (x26.map V.int))])) (List.perm_middle (l₁ := [(a0, HO.lst (pool_here_43.map V.int))])))
  obtain rfl := sm m
  exact q _ _ _ _ (Gr.tr g31 (Gr.tr g48 g53)) hS56 ⟨_, _, rfl, rfl, sq_new⟩
theorem sc_aisle : FnScope N_aisle ["_law_pool_here", "_law_most_gaps", "_law_longest"] (defScope s_aisle) := ⟨rfl, rfl, rfl, by decide +kernel, rfl, by decide +kernel, by decide +kernel⟩
theorem ok_aisle {P : Program} {w : World} {K : PySem.W.Frag} {mg : Str → Option Value} {base : Heap} (hF : Df K mg "_law_aisle" s_aisle) (m_range : mg "range" = none) (o_take : Ok P w K mg base 1 "_law_take" ["_law_pool_here", "_law_many"] (sp_take K)) : Ok P w K mg base 2 "_law_aisle" ["_law_pool_here", "_law_most_gaps", "_law_longest"] (sp_aisle K) := by
  obtain ⟨⟨_, G_take, bd_take, _⟩, kp_take, gm_take⟩ := o_take
  obtain ⟨⟨fd, F⟩, gm⟩ := hF
  refine ⟨⟨fd, F.ok sc_aisle (fun vs H Q E h => ?_) (fun cdv A outer s H vs Q E hr h => ⟨t_aisle K, PSs.nox ?_, w_aisle vs H Q E h⟩), F.bindsN fun _ _ _ _ _ _ us hl => match us, hl with | [_, _, _], _ => rfl, lk_of F⟩, F.kp, gm⟩
  · obtain ⟨F0, cc, cs, x, y, h, _⟩ := h; exact ArgR.len h
  · exact (pss_cons (ps_setLc (i := 3) (own := [("_law_k", 4)]) (g := (gName 4)) (tt := tYes) (te := (tOp (rI0 fun i j => .int (i + j)) (tC (.int 1)) (tCall (sp_take K) [] E0 (tCons (tVar 0) (tCons (tVar 2) tNil))))) (by rfl) sc_aisle.nd rfl rfl (sw_true rfl rfl rfl (by decide +kernel)) (pi_range1 (by rfl) m_range (pa_cons (pe_op op_add pe_int (pe_call G_take (hr.mono (by decide)) (by rfl) gm_take kp_take bd_take .nil pass0 (pa_cons (pv 0) (pa_cons (pv 1) pa_nil)))) pa_nil)) (blkOk_by (own := [("_law_k", 4)]) (N := N_aisle) (sc := defScope s_aisle) (by decide +kernel)) (fun _ _ _ _ _ => (pg_name (i := 4) sc_aisle.nd rfl (Or.inl rfl))) (fun _ _ _ _ _ => pts_nil) (fun _ _ _ _ _ => (pe_op op_add pe_int (pe_call G_take (hr.mono (by decide)) (by rfl) gm_take kp_take bd_take .nil pass0 (pa_cons (pv 0) (pa_cons (pv 2) pa_nil)))))) (pss_one (ps_ret (pe_tup (pa_cons (pv 3) (pa_cons (pe_op op_add pe_int (pe_call G_take (hr.mono (by decide)) (by rfl) gm_take kp_take bd_take .nil pass0 (pa_cons (pv 0) (pa_cons (pe_ix ix_list (pe_lst (pa_cons pe_int (pa_cons pe_int (pa_cons pe_int pa_nil)))) (pe_call G_take (hr.mono (by decide)) (by rfl) gm_take kp_take bd_take .nil pass0 (pa_cons (pv 0) (pa_cons pe_int pa_nil))) (fun _ _ => rfl)) pa_nil)))) pa_nil))))))
abbrev s_name : Stmt := (top 31)
def f_name : (Int × Int) → Option Str := fun (k_1, salt_2) => (letM ("abcdefghijklmnopqrstuvwxyz" : Str) fun letters_7 => (letM ((((37 : Int) * k_1) + salt_2) % (61 : Int)) fun at_13 => (((ixS letters_7 (at_13 % (26 : Int)))).bind fun x15 => ((atI ([("" : Str), ("a" : Str), ("zz" : Str)] : (List Str)) (at_13 / (26 : Int)))).bind fun x17 => ((scatM x15 x17)).bind fun x19 => (((ixS letters_7 (salt_2 % (26 : Int)))).bind fun x25 => ((srepM x25 ((salt_2 / (26 : Int)) % (6 : Int)))).bind fun x27 => (if (decide ((salt_2 % (2 : Int)) = (0 : Int))) = true then (((scatM x27 x19)).bind fun x37 => some x37) else (((scatM x19 x27)).bind fun x49 => some x49))))))
abbrev A_name : (Int × Int) → List PyData := fun x => [eI x.1, eI x.2]
abbrev N_name : List Str := ["_law_k", "_law_salt", "_law_letters", "_law_at", "_law_tell", "_law_more"]
abbrev sp_name (K : PySem.W.Frag) : Sp := spP K A_name eS f_name
def t_name (K : PySem.W.Frag) : TS := (tSeq (tAsg (tC (.str "abcdefghijklmnopqrstuvwxyz")) (gName 2)) (tSeq (tAsg (tOp (rI (fun _ j => 0 < j) fun i j => .int (i % j)) (tOp (rI0 fun i j => .int (i + j)) (tOp (rI CMul fun i j => .int (i * j)) (tC (.int 37)) (tVar 0)) (tVar 1)) (tC (.int 61))) (gName 3)) (tSeq (tAsg (tOp rScat (tOp rIxS (tVar 2) (tOp (rI (fun _ j => 0 < j) fun i j => .int (i % j)) (tVar 3) (tC (.int 26)))) (tOp (rIxL K) (tLst (tCons (tC (.str "")) (tCons (tC (.str "a")) (tCons (tC (.str "zz")) tNil)))) (tOp (rI CDiv fun i j => .int (i / j)) (tVar 3) (tC (.int 26))))) (gName 4)) (tSeq (tAsg (tOp rSrep (tOp rIxS (tVar 2) (tOp (rI (fun _ j => 0 < j) fun i j => .int (i % j)) (tVar 1) (tC (.int 26)))) (tOp (rI (fun _ j => 0 < j) fun i j => .int (i % j)) (tOp (rI CDiv fun i j => .int (i / j)) (tVar 1) (tC (.int 26))) (tC (.int 6)))) (gName 5)) (tSeq (tIfS (tTest (tOp rEq (tOp (rI (fun _ j => 0 < j) fun i j => .int (i % j)) (tVar 1) (tC (.int 2))) (tC (.int 0)))) (tRet (tOp rScat (tVar 5) (tVar 4))) tNext) (tRet (tOp rScat (tVar 4) (tVar 5))))))))
theorem w_name {K : PySem.W.Frag} (vs : List V) (H : Hp) (Q : VK) (E : XK) (h : sp_name K vs H Q E) : t_name K { nx := fun _ H' => Q .non H', rt := Q } (start N_name vs) H := by
  obtain ⟨F0, cs, ⟨k_1, salt_2⟩, y, h, hS0, m, q⟩ := h
  obtain ⟨a0, _, rfl, ha0, h⟩ := Dts.hd h
  obtain ⟨a1, _, rfl, ha1, h⟩ := Dts.hd h
  obtain rfl := Dts.no h
  obtain rfl := Dt.toInt ha0
  obtain rfl := Dt.toInt ha1
  unfold f_name at m
  try dsimp only at m
  unfold t_name
  refine go (σ' := [some (.int k_1), some (.int salt_2), none, none, none, none]) rfl ?_
  obtain ⟨letters_7, k8, m⟩ := lt m
  refine s_setV (K := K) (d := eS letters_7) (i := 2) (σ' := [some (.int k_1), some (.int salt_2), some (.str letters_7), none, none, none]) (fun _ _ h => Dt.toStr h) hS0 (d_is d_str (congrArg eS k8)) rfl (fun F3 H4 g5 hS6 => ?_)
  obtain ⟨at_13, k14, m⟩ := lt m
  refine s_setV (K := K) (d := eI at_13) (i := 3) (σ' := [some (.int k_1), some (.int salt_2), some (.str letters_7), some (.int at_13), none, none]) (fun _ _ h => Dt.toInt h) hS6 (d_is (d_modC (d_add (d_mulC d_int (d_var rfl (.int _)) (.inl ⟨by decide, by decide⟩)) (d_var rfl (.int _))) d_int (by decide)) (congrArg eI k14)) rfl (fun F9 H10 g11 hS12 => ?_)
  obtain ⟨x15, k16, m⟩ := bnd m
  obtain ⟨x17, k18, m⟩ := bnd m
  obtain ⟨x19, k20, m⟩ := bnd m
  refine s_setV (K := K) (d := eS x19) (i := 4) (σ' := [some (.int k_1), some (.int salt_2), some (.str letters_7), some (.int at_13), some (.str x19), none]) (fun _ _ h => Dt.toStr h) hS12 (d_scat (d_ixS (d_var rfl (.str _)) (d_modC (d_var rfl (.int _)) d_int (by decide)) k16) (d_ix (e := eS) (d_lst (a_cons d_str (a_cons d_str (a_cons d_str a_nil))) (Nat.le_of_ble_eq_true rfl)) (d_fdivC (d_var rfl (.int _)) d_int ⟨by decide, by decide⟩) k18) k20) rfl (fun F21 H22 g23 hS24 => ?_)
  obtain ⟨x25, k26, m⟩ := bnd m
  obtain ⟨x27, k28, m⟩ := bnd m
  refine s_setV (K := K) (d := eS x27) (i := 5) (σ' := [some (.int k_1), some (.int salt_2), some (.str letters_7), some (.int at_13), some (.str x19), some (.str x27)]) (fun _ _ h => Dt.toStr h) hS24 (d_srep (d_ixS (d_var rfl (.str _)) (d_modC (d_var rfl (.int _)) d_int (by decide)) k26) (d_modC (d_fdivC (d_var rfl (.int _)) d_int ⟨by decide, by decide⟩) d_int (by decide)) k28) rfl (fun F29 H30 g31 hS32 => ?_)
  refine s_if (b := (decide ((salt_2 % (2 : Int)) = (0 : Int)))) hS32 (t_test (K := K) (d_eqI (d_modC (d_var rfl (.int _)) d_int (by decide)) d_int)) (fun hc F33 H34 g35 hS36 => ?_) (fun hc F45 H46 g47 hS48 => ?_)
  · rw [if_pos hc] at m
    obtain ⟨x37, k38, m⟩ := bnd m
    refine s_ret (K := K) (d := eS x37) hS36 (d_scat (d_var rfl (.str _)) (d_var rfl (.str _)) k38) (fun v43 F39 H40 g41 hS42 hv44 => ?_)
    obtain rfl := sm m
    exact q _ _ _ (Gr.tr g5 (Gr.tr g11 (Gr.tr g23 (Gr.tr g31 (Gr.tr g35 g41))))) hS42 hv44
  · rw [if_neg (bf hc)] at m
    refine nxt ?_
    obtain ⟨x49, k50, m⟩ := bnd m
    refine s_ret (K := K) (d := eS x49) hS48 (d_scat (d_var rfl (.str _)) (d_var rfl (.str _)) k50) (fun v55 F51 H52 g53 hS54 hv56 => ?_)
    obtain rfl := sm m
    exact q _ _ _ (Gr.tr g5 (Gr.tr g11 (Gr.tr g23 (Gr.tr g31 (Gr.tr g47 g53))))) hS54 hv56
theorem sc_name : FnScope N_name ["_law_k", "_law_salt"] (defScope s_name) := ⟨rfl, rfl, rfl, by decide +kernel, rfl, by decide +kernel, by decide +kernel⟩
theorem ok_name {P : Program} {w : World} {K : PySem.W.Frag} {mg : Str → Option Value} {base : Heap} (hF : Df K mg "_law_name" s_name) : Ok P w K mg base 1 "_law_name" ["_law_k", "_law_salt"] (sp_name K) := by
  obtain ⟨⟨fd, F⟩, gm⟩ := hF
  refine ⟨⟨fd, F.ok sc_name (fun vs H Q E h => ?_) (fun cdv A outer s H vs Q E hr h => ⟨t_name K, PSs.nox ?_, w_name vs H Q E h⟩), F.bindsN fun _ _ _ _ _ _ us hl => match us, hl with | [_, _], _ => rfl, lk_of F⟩, F.kp, gm⟩
  · obtain ⟨F0, cs, x, y, h, _⟩ := h; exact Dts.len h
  · exact (pss_cons (ps_set (i := 2) sc_name.nd rfl (Or.inl rfl) pe_str) (pss_cons (ps_set (i := 3) sc_name.nd rfl (Or.inl rfl) (pe_op op_mod (pe_op op_add (pe_op op_mul pe_int (pv 0)) (pv 1)) pe_int)) (pss_cons (ps_set (i := 4) sc_name.nd rfl (Or.inl rfl) (pe_op op_scatR (pe_ix ix_str (pv 2) (pe_op op_mod (pv 3) pe_int) (fun _ _ => rfl)) (pe_ix ix_list (pe_lst (pa_cons pe_str (pa_cons pe_str (pa_cons pe_str pa_nil)))) (pe_op op_fdiv (pv 3) pe_int) (fun _ _ => rfl)))) (pss_cons (ps_set (i := 5) sc_name.nd rfl (Or.inl rfl) (pe_op op_srep (pe_ix ix_str (pv 2) (pe_op op_mod (pv 1) pe_int) (fun _ _ => rfl)) (pe_op op_mod (pe_op op_fdiv (pv 1) pe_int) pe_int))) (pss_cons (ps_if (pt_cmpR op_eq (pe_op op_mod (pv 1) pe_int) pe_int (nomark _)) (pss_one (ps_ret (pe_op op_scatR (pv 5) (pv 4)))) pss_nil) (pss_one (ps_ret (pe_op op_scatR (pv 4) (pv 5)))))))))
abbrev s_orders : Stmt := (top 32)
def f_orders_b22 (script_1 : (List Int)) (last_2 : Int) (salt_3 : Int) (style_4 : Int) (hops_5 : (List Int)) : (Int × (List (Str × Int × Int × Int))) → Int → Option (Int × (List (Str × Int × Int × Int))) := fun (tick_25, orders_here_26) k_27 => (((f_pool (script_1, k_27))).bind fun x50 => (((f_take (x50, (hops_5.length : Int)))).bind fun (x59, pool_here_61) => ((atI hops_5 x59)).bind fun x62 => ((f_take (pool_here_61, x62))).bind fun (x64, pool_here_66) => letM (tick_25 + x64) fun tick_71 => (((f_take (pool_here_66, (last_2 + (1 : Int))))).bind fun (x73, pool_here_75) => ((atI ([x73, (last_2 / (2 : Int)), (0 : Int), last_2] : (List Int)) style_4)).bind fun x76 => (((f_name ((k_27 - (1 : Int)), salt_3))).bind fun x82 => ((f_take (pool_here_75, last_2))).bind fun (x84, pool_here_86) => ((modM ((x76 + (1 : Int)) + x84) (last_2 + (1 : Int)))).bind fun x87 => ((appM orders_here_26 (x82, tick_71, x76, x87))).bind fun orders_here_89 => some (tick_71, orders_here_89)))))
def f_orders : ((List Int) × Int × Int × Int × (List Int) × Int) → Option ((List (Str × Int × Int × Int))) := fun (script_1, last_2, salt_3, style_4, hops_5, fewest_6) => (letM ([] : (List (Str × Int × Int × Int))) fun orders_here_11 => (((rngM (1 : Int) (maxI fewest_6 (minI (script_1.length : Int) (61 : Int))))).bind fun x20 => (x20.foldlM (f_orders_b22 script_1 last_2 salt_3 style_4 hops_5) ((0 : Int), orders_here_11)).bind fun (tick_105, orders_here_106) => some orders_here_106))
abbrev A_orders : ((List Int) × Int × Int × Int × (List Int) × Int) → List Ar := fun x => [.d ((eL eI) x.1), .d (eI x.2.1), .d (eI x.2.2.1), .d (eI x.2.2.2.1), .d ((eL eI) x.2.2.2.2.1), .d (eI x.2.2.2.2.2)]
abbrev B_orders : ((List (Str × Int × Int × Int))) → List PyData := fun y => y.map (eT4 eS eI eI eI)
abbrev C_orders : ((List (Str × Int × Int × Int))) → List (List V) := fun y => []
abbrev N_orders : List Str := ["_law_script", "_law_last", "_law_salt", "_law_style", "_law_hops", "_law_fewest", "_law_orders_here", "_law_tick", "_law_k", "_law_pool_here", "_law_at"]
abbrev sp_orders (K : PySem.W.Frag) : Sp := spF K A_orders B_orders C_orders f_orders
def t_orders (K : PySem.W.Frag) : TS := (tSeq (tAsg (tLst tNil) (gName 6)) (tSeq (tAsg (tC (.int 0)) (gName 7)) (tSeq (tFor (iRng2 (tCons (tC (.int 1)) (tCons (tCB rMax2 (tCons (tVar 5) (tCons (tCB rMin2 (tCons (tCB (rLenL K) (tCons (tVar 0) tNil)) (tCons (tC (.int 61)) tNil))) tNil))) tNil))) (gName 8) (tSeq (tAsg (tCall (sp_pool K) [] E0 (tCons (tVar 0) (tCons (tVar 8) tNil))) (gName 9)) (tSeq (tAsg (tOp (rI0 fun i j => .int (i + j)) (tVar 7) (tCall (sp_take K) [] E0 (tCons (tVar 9) (tCons (tOp (rIxL K) (tVar 4) (tCall (sp_take K) [] E0 (tCons (tVar 9) (tCons (tCB (rLenL K) (tCons (tVar 4) tNil)) tNil)))) tNil)))) (gName 7)) (tSeq (tAsg (tOp (rIxL K) (tLst (tCons (tCall (sp_take K) [] E0 (tCons (tVar 9) (tCons (tOp (rI0 fun i j => .int (i + j)) (tVar 1) (tC (.int 1))) tNil))) (tCons (tOp (rI CDiv fun i j => .int (i / j)) (tVar 1) (tC (.int 2))) (tCons (tC (.int 0)) (tCons (tVar 1) tNil))))) (tVar 3)) (gName 10)) (tDrop (tBM K "list" rAppend (tVar 6) (tCons (tTup (tCons (tCall (sp_name K) [] E0 (tCons (tOp (rI0 fun i j => .int (i - j)) (tVar 8) (tC (.int 1))) (tCons (tVar 2) tNil))) (tCons (tVar 7) (tCons (tVar 10) (tCons (tOp (rI (fun _ j => 0 < j) fun i j => .int (i % j)) (tOp (rI0 fun i j => .int (i + j)) (tOp (rI0 fun i j => .int (i + j)) (tVar 10) (tC (.int 1))) (tCall (sp_take K) [] E0 (tCons (tVar 9) (tCons (tVar 1) tNil)))) (tOp (rI0 fun i j => .int (i + j)) (tVar 1) (tC (.int 1)))) tNil))))) tNil))))))) (tRet (tVar 6)))))
theorem w_orders {K : PySem.W.Frag} (vs : List V) (H : Hp) (Q : VK) (E : XK) (h : sp_orders K vs H Q E) : t_orders K { nx := fun _ H' => Q .non H', rt := Q } (start N_orders vs) H := by
  obtain ⟨F0, cc, cs, ⟨script_1, last_2, salt_3, style_4, hops_5, fewest_6⟩, y, h0, hS0, m, q⟩ := h
  obtain ⟨a0, _, rfl, ha0, h1⟩ := ArgR.hd h0
  obtain ⟨a1, _, rfl, ha1, h2⟩ := ArgR.hd h1
  obtain ⟨a2, _, rfl, ha2, h3⟩ := ArgR.hd h2
  obtain ⟨a3, _, rfl, ha3, h4⟩ := ArgR.hd h3
  obtain ⟨a4, _, rfl, ha4, h5⟩ := ArgR.hd h4
  obtain ⟨a5, _, rfl, ha5, h6⟩ := ArgR.hd h5
  obtain ⟨rfl, rfl⟩ := ArgR.no h6
  obtain rfl := Dt.toInt ha1
  obtain rfl := Dt.toInt ha2
  obtain rfl := Dt.toInt ha3
  obtain rfl := Dt.toInt ha5
  unfold f_orders at m
  try dsimp only at m
  unfold t_orders
  refine go (σ' := [some a0, some (.int last_2), some (.int salt_3), some (.int style_4), some a4, some (.int fewest_6), none, none, none, none, none]) rfl ?_
  obtain ⟨orders_here_11, k12, m⟩ := lt m
  refine s_setC (K := K) (ds := orders_here_11.map (eT4 eS eI eI eI)) (i := 6) (σ' := fun p13 => [some a0, some (.int last_2), some (.int salt_3), some (.int style_4), some a4, some (.int fewest_6), some (.ref p13), none, none, none, none]) hS0 (c_is (c_lst a_nil (Nat.le_of_ble_eq_true rfl)) (congrArg (List.map (eT4 eS eI eI eI)) k12)) (fun _ => rfl) (fun p13 us14 F7 H8 g9 hS10 hu15 => ?_)
  refine s_setV (K := K) (d := eI (0 : Int)) (i := 7) (σ' := [some a0, some (.int last_2), some (.int salt_3), some (.int style_4), some a4, some (.int fewest_6), some (.ref p13), some (.int (0 : Int)), none, none, none]) (fun _ _ h => Dt.toInt h) hS10 d_int rfl (fun F16 H17 g18 hS19 => ?_)
  obtain ⟨x20, k21, m⟩ := bnd m
  obtain ⟨⟨tick_105, orders_here_106⟩, k24, m⟩ := bnd m
  try dsimp only at m
  refine s_for (K := K) (xs := x20) (en := eI) (body := (f_orders_b22 script_1 last_2 salt_3 style_4 hops_5)) (s0 := ((0 : Int), orders_here_11)) (r := (tick_105, orders_here_106)) (fun (a : Int × (List (Str × Int × Int × Int))) F σ c => ∃ (j8 : Option V) (j9 : Option V) (j10 : Option V) (z6 : List V), σ = [some a0, some (.int last_2), some (.int salt_3), some (.int style_4), some a4, some (.int fewest_6), some (.ref p13), some (.int a.1), j8, j9, j10] ∧ (p13, .lst z6) :: cs = c ∧ Dts K F z6 (a.2.map (eT4 eS eI eI eI))) hS19 (i_rng2 (a_cons d_int (a_cons (d_max2 (a_cons (d_var rfl (.int _)) (a_cons (d_min2 (a_cons (d_len (e := eI) (a_cons (d_var rfl (Dt.gr (Gr.tr g9 g18) ha0)) a_nil)) (a_cons d_int a_nil))) a_nil))) a_nil)) k21) (fun _ _ => ⟨_, _, _, _, rfl, rfl, (Dts.gr ‹_› (Dts.gr g18 hu15))⟩) k24 ?_ ?_
  · rintro k_27 ⟨tick_25, orders_here_26⟩ b36 F28 F29 σ42 c43 H30 v35 N37 g31 ⟨u45, u46, u47, us48, rfl, rfl, h49⟩ g32 hS33 hv34 m44 hN39
    obtain rfl := Dt.toInt hv34
    refine tg (σ' := [some a0, some (.int last_2), some (.int salt_3), some (.int style_4), some a4, some (.int fewest_6), some (.ref p13), some (.int tick_25), some (.int k_27), u46, u47]) (fun Q hq => hq) ?_
    unfold f_orders_b22 at m44
    try dsimp only at m44
    obtain ⟨x50, k51, m44⟩ := bnd m44
    refine s_setC (K := K) (ds := x50.map eI) (i := 9) (σ' := fun p56 => [some a0, some (.int last_2), some (.int salt_3), some (.int style_4), some a4, some (.int fewest_6), some (.ref p13), some (.int tick_25), some (.int k_27), some (.ref p56), u47]) hS33 (c_callX (A := A_pool) (B := B_pool) (C := C_pool) (x := (script_1, k_27)) (y := x50) (cs2 := ((p13, HO.lst us48) :: cs)) (cc := []) (cs' := ((p13, HO.lst us48) :: cs)) (r_d (d_var rfl (Dt.gr (Gr.tr g9 (Gr.tr g18 (Gr.tr g31 g32))) ha0)) (r_d (d_var rfl (.int _)) r_nil)) sb_rfl k51 (fun _ => sb_rfl)) (fun _ => rfl) (fun p56 us57 F52 H53 g54 hS55 hu58 => ?_)
    obtain rfl := Dts.ints hu58
    obtain ⟨⟨x59, pool_here_61⟩, k60, m44⟩ := bnd m44; (try dsimp only at m44)
    obtain ⟨x62, k63, m44⟩ := bnd m44
    obtain ⟨⟨x64, pool_here_66⟩, k65, m44⟩ := bnd m44; (try dsimp only at m44)
    obtain ⟨tick_71, k72, m44⟩ := lt m44
    refine s_setV (K := K) (d := eI tick_71) (i := 7) (σ' := [some a0, some (.int last_2), some (.int salt_3), some (.int style_4), some a4, some (.int fewest_6), some (.ref p13), some (.int tick_71), some (.int k_27), some (.ref p56), u47]) (fun _ _ h => Dt.toInt h) hS55 (d_is (d_add (d_var rfl (.int _)) (d_callX (A := A_take) (B := B_take) (C := C_take) (x := (pool_here_61, x62)) (y := (x64, pool_here_66)) (cs2 := ((p56, HO.lst (pool_here_66.map V.int)) :: (p13, HO.lst us48) :: cs)) (cc := [(p56, HO.lst (pool_here_61.map V.int))]) (cs' := ((p13, HO.lst us48) :: cs)) (r_c rfl (r_d (d_ix (e := eI) (d_var rfl (Dt.gr (Gr.tr g9 (Gr.tr g18 (Gr.tr g31 (Gr.tr g32 g54)))) ha4)) (d_callX (A := A_take) (B := B_take) (C := C_take) (x := (x50, (hops_5.length : Int))) (y := (x59, pool_here_61)) (cs2 := ((p56, HO.lst (pool_here_61.map V.int)) :: (p13, HO.lst us48) :: cs)) (cc := [(p56, HO.lst (x50.map V.int))]) (cs' := ((p13, HO.lst us48) :: cs)) (r_c rfl (r_d (d_len (e := eI) (a_cons (d_var rfl (Dt.gr (Gr.tr g9 (Gr.tr g18 (Gr.tr g31 (Gr.tr g32 g54)))) ha4)) a_nil)) r_nil)) sb_rfl k60 sb_rfl) k63) r_nil)) sb_rfl k65 sb_rfl)) (congrArg eI k72)) rfl (fun F67 H68 g69 hS70 => ?_)
    obtain ⟨⟨x73, pool_here_75⟩, k74, m44⟩ := bnd m44; (try dsimp only at m44)
    obtain ⟨x76, k77, m44⟩ := bnd m44
    refine s_setV (K := K) (d := eI x76) (i := 10) (σ' := [some a0, some (.int last_2), some (.int salt_3), some (.int style_4), some a4, some (.int fewest_6), some (.ref p13), some (.int tick_71), some (.int k_27), some (.ref p56), some (.int x76)]) (fun _ _ h => Dt.toInt h) hS70 (d_ix (e := eI) (d_lst (a_cons (d_callX (A := A_take) (B := B_take) (C := C_take) (x := (pool_here_66, (last_2 + (1 : Int)))) (y := (x73, pool_here_75)) (cs2 := ((p56, HO.lst (pool_here_75.map V.int)) :: (p13, HO.lst us48) :: cs)) (cc := [(p56, HO.lst (pool_here_66.map V.int))]) (cs' := ((p13, HO.lst us48) :: cs)) (r_c rfl (r_d (d_add (d_var rfl (.int _)) d_int) r_nil)) sb_rfl k74 sb_rfl) (a_cons (d_fdivC (d_var rfl (.int _)) d_int ⟨by decide, by decide⟩) (a_cons d_int (a_cons (d_var rfl (.int _)) a_nil)))) (Nat.le_of_ble_eq_true rfl)) (d_var rfl (.int _)) k77) rfl (fun F78 H79 g80 hS81 => ?_)
    obtain ⟨x82, k83, m44⟩ := bnd m44
    obtain ⟨⟨x84, pool_here_86⟩, k85, m44⟩ := bnd m44; (try dsimp only at m44)
    obtain ⟨x87, k88, m44⟩ := bnd m44
    obtain ⟨orders_here_89, k90, m44⟩ := bnd m44
    refine s_appGV (K := K) (k1 := [(p56, .lst (pool_here_75.map V.int))]) (x := (x82, tick_71, x76, x87)) (l1 := [(p56, .lst (pool_here_86.map V.int))]) (p := p13) (en := (eT4 eS eI eI eI)) hS81 (Dts.gr (Gr.tr g32 (Gr.tr g54 (Gr.tr g69 g80))) h49) (vp_var rfl) (d_tup (a_cons (d_call (A := A_name) (B := eS) (x := ((k_27 - (1 : Int)), salt_3)) (a_cons (d_sub (d_var rfl (.int _)) d_int) (a_cons (d_var rfl (.int _)) a_nil)) k83) (a_cons (d_var rfl (.int _)) (a_cons (d_var rfl (.int _)) (a_cons (d_mod (d_add (d_add (d_var rfl (.int _)) d_int) (d_callX (A := A_take) (B := B_take) (C := C_take) (x := (pool_here_75, last_2)) (y := (x84, pool_here_86)) (cs2 := ((p56, HO.lst (pool_here_86.map V.int)) :: (p13, HO.lst us48) :: cs)) (cc := [(p56, HO.lst (pool_here_75.map V.int))]) (cs' := ((p13, HO.lst us48) :: cs)) (r_c rfl (r_d (d_var rfl (.int _)) r_nil)) sb_rfl k85 sb_rfl)) (d_add (d_var rfl (.int _)) d_int) k88) a_nil)))) (Nat.le_of_ble_eq_true rfl)) k90 (fun us95 F91 H92 g93 hS94 hu96 => ?_)
    have hS97 := Sta.perm hS94 (List.Perm.trans (List.perm_middle (l₁ := [(p56, HO.lst (pool_here_86.map V.int))])) (List.perm_middle (l₁ := [(p13, HO.lst us95)])))
    have hS98 := sb_drop _ _ hS97
    obtain rfl := sm m44
    exact hN39 _ _ _ _ (Gr.tr g54 (Gr.tr g69 (Gr.tr g80 g93))) hS98 ⟨_, _, _, _, rfl, rfl, hu96⟩
  · rintro F99 σ104 c103 H100 g101 hS102 ⟨u107, u108, u109, us110, rfl, rfl, h111⟩
    refine s_retV rfl ?_
    obtain rfl := sm m
    exact q _ _ _ _ (Gr.tr g9 (Gr.tr g18 g101)) hS102 h111
theorem sc_orders : FnScope N_orders ["_law_script", "_law_last", "_law_salt", "_law_style", "_law_hops", "_law_fewest"] (defScope s_orders) := ⟨rfl, rfl, rfl, by decide +kernel, rfl, by decide +kernel, by decide +kernel⟩
theorem ok_orders {P : Program} {w : World} {K : PySem.W.Frag} {mg : Str → Option Value} {base : Heap} (hF : Df K mg "_law_orders" s_orders) (m_len : mg "len" = none) (m_max : mg "max" = none) (m_min : mg "min" = none) (m_range : mg "range" = none) (o_take : Ok P w K mg base 1 "_law_take" ["_law_pool_here", "_law_many"] (sp_take K)) (o_name : Ok P w K mg base 1 "_law_name" ["_law_k", "_law_salt"] (sp_name K)) (o_pool : Ok P w K mg base 1 "_law_pool" ["_law_script", "_law_k"] (sp_pool K)) : Ok P w K mg base 2 "_law_orders" ["_law_script", "_law_last", "_law_salt", "_law_style", "_law_hops", "_law_fewest"] (sp_orders K) := by
  obtain ⟨⟨_, G_take, bd_take, _⟩, kp_take, gm_take⟩ := o_take
  obtain ⟨⟨_, G_name, bd_name, _⟩, kp_name, gm_name⟩ := o_name
  obtain ⟨⟨_, G_pool, bd_pool, _⟩, kp_pool, gm_pool⟩ := o_pool
  obtain ⟨⟨fd, F⟩, gm⟩ := hF
  refine ⟨⟨fd, F.ok sc_orders (fun vs H Q E h => ?_) (fun cdv A outer s H vs Q E hr h => ⟨t_orders K, PSs.nox ?_, w_orders vs H Q E h⟩), F.bindsN fun _ _ _ _ _ _ us hl => match us, hl with | [_, _, _, _, _, _], _ => rfl, lk_of F⟩, F.kp, gm⟩
  · obtain ⟨F0, cc, cs, x, y, h, _⟩ := h; exact ArgR.len h
  · exact (pss_cons (ps_set (i := 6) sc_orders.nd rfl (Or.inl rfl) (pe_lst pa_nil)) (pss_cons (ps_set (i := 7) sc_orders.nd rfl (Or.inl rfl) pe_int) (pss_cons (ps_for PassesOwn.never rfl (pi_range2 (by rfl) m_range (pa_cons pe_int (pa_cons (pe_callB (cr_max2 rfl) (by rfl) m_max (by decide +kernel) (pa_cons (pv 5) (pa_cons (pe_callB (cr_min2 rfl) (by rfl) m_min (by decide +kernel) (pa_cons (pe_callB cr_lenL (by rfl) m_len PySem.boot_len (pa_cons (pv 0) pa_nil)) (pa_cons pe_int pa_nil))) pa_nil))) pa_nil))) (pg_name (i := 8) sc_orders.nd rfl (Or.inl rfl)) (pss_cons (ps_set (i := 9) sc_orders.nd rfl (Or.inl rfl) (pe_call G_pool (hr.mono (by decide)) (by rfl) gm_pool kp_pool bd_pool .nil pass0 (pa_cons (pv 0) (pa_cons (pv 8) pa_nil)))) (pss_cons (ps_set (i := 7) sc_orders.nd rfl (Or.inl rfl) (pe_op op_add (pv 7) (pe_call G_take (hr.mono (by decide)) (by rfl) gm_take kp_take bd_take .nil pass0 (pa_cons (pv 9) (pa_cons (pe_ix ix_list (pv 4) (pe_call G_take (hr.mono (by decide)) (by rfl) gm_take kp_take bd_take .nil pass0 (pa_cons (pv 9) (pa_cons (pe_callB cr_lenL (by rfl) m_len PySem.boot_len (pa_cons (pv 4) pa_nil)) pa_nil))) (fun _ _ => rfl)) pa_nil))))) (pss_cons (ps_set (i := 10) sc_orders.nd rfl (Or.inl rfl) (pe_ix ix_list (pe_lst (pa_cons (pe_call G_take (hr.mono (by decide)) (by rfl) gm_take kp_take bd_take .nil pass0 (pa_cons (pv 9) (pa_cons (pe_op op_add (pv 1) pe_int) pa_nil))) (pa_cons (pe_op op_fdiv (pv 1) pe_int) (pa_cons pe_int (pa_cons (pv 1) pa_nil))))) (pv 3) (fun _ _ => rfl))) (pss_one (ps_expr (pe_bm PySem.F.plainAttrs_list PySem.F.slot_list_append PySem.F.type_list_append mt_append (pv 6) (pa_cons (pe_tup (pa_cons (pe_call G_name (hr.mono (by decide)) (by rfl) gm_name kp_name bd_name .nil pass0 (pa_cons (pe_op op_sub (pv 8) pe_int) (pa_cons (pv 2) pa_nil))) (pa_cons (pv 7) (pa_cons (pv 10) (pa_cons (pe_op op_mod (pe_op op_add (pe_op op_add (pv 10) pe_int) (pe_call G_take (hr.mono (by decide)) (by rfl) gm_take kp_take bd_take .nil pass0 (pa_cons (pv 9) (pa_cons (pv 1) pa_nil)))) (pe_op op_add (pv 1) pe_int)) pa_nil))))) pa_nil)))))))) (pss_one (ps_ret (pv 6))))))
abbrev s_crowds : Stmt := (top 33)
def f_crowds_b64 : (List Int) → Int → Option (List Int) := fun ups_67 gap_68 => (((atI ups_67 gap_68)).bind fun x90 => ((setM ups_67 gap_68 (x90 + (1 : Int)))).bind fun ups_92 => some ups_92)
def f_crowds_b108 : (List Int) → Int → Option (List Int) := fun downs_111 gap_112 => (((atI downs_111 gap_112)).bind fun x134 => ((setM downs_111 gap_112 (x134 + (1 : Int)))).bind fun downs_136 => some downs_136)
def f_crowds_b21 : ((List Int) × (List Int)) → (Str × Int × Int × Int) → Option ((List Int) × (List Int)) := fun (ups_24, downs_25) (name_here_26, tick_27, at_28, to_29) => (((rngM at_28 to_29)).bind fun x62 => (x62.foldlM (f_crowds_b64) ups_24).bind fun ups_104 => (((rngM to_29 at_28)).bind fun x106 => (x106.foldlM (f_crowds_b108) downs_25).bind fun downs_148 => some (ups_104, downs_148)))
def f_crowds : (Int × (List (Str × Int × Int × Int))) → Option (((List Int) × (List Int))) := fun (last_1, orders_here_2) => (((repM ([(0 : Int)] : (List Int)) last_1)).bind fun x3 => (((repM ([(0 : Int)] : (List Int)) last_1)).bind fun x12 => (orders_here_2.foldlM (f_crowds_b21) (x3, x12)).bind fun (ups_156, downs_157) => some (ups_156, downs_157)))
abbrev A_crowds : (Int × (List (Str × Int × Int × Int))) → List Ar := fun x => [.d (eI x.1), .d ((eL (eT4 eS eI eI eI)) x.2)]
abbrev B_crowds : (((List Int) × (List Int))) → PyData := fun y => (eT2 (eL eI) (eL eI)) y
def R_crowds (K : PySem.W.Frag) (y : (((List Int) × (List Int)))) (F : Hp) (v : V) (c : Cs) : Prop := ∃ (t : Addr) (p0 : Addr) (p1 : Addr), v = .ref t ∧ c = [(p0, .lst (y.1.map V.int)), (p1, .lst (y.2.map V.int))] ∧ SqT K F t [.ref p0, .ref p1]
theorem dd_crowds (K : PySem.W.Frag) : ∀ y F H v c cs, R_crowds K y F v c → Sta F (c ++ cs) H → ∃ F', Gr F F' ∧ Sta F' cs H ∧ Dt K F' v (B_crowds y) := by
  rintro y F H v c cs ⟨t, p0, p1, rfl, rfl, hT⟩ s0
  have g0 := Sta.gfr s0
  have s1 := Sta.froze s0
  have g1 := Sta.gfr s1
  have s2 := Sta.froze s1
  exact ⟨_, (Gr.tr g0 g1), s2, .tup (gr_T (Gr.tr g0 g1) hT) (Dts.cons (Dt.gr g1 (Dt.lst (.inl (.inl upd_same)) (Dts.gr g0 (Dts.of_ints _)))) (Dts.cons (Dt.lst (.inl (.inl upd_same)) (Dts.gr (Gr.tr g0 g1) (Dts.of_ints _))) Dts.nil))⟩
abbrev C_crowds : (((List Int) × (List Int))) → List (List V) := fun y => []
abbrev N_crowds : List Str := ["_law_last", "_law_orders_here", "_law_ups", "_law_downs", "_law_name_here", "_law_tick", "_law_at", "_law_to", "_law_gap"]
abbrev sp_crowds (K : PySem.W.Frag) : Sp := spR K A_crowds C_crowds (R_crowds K) f_crowds
def t_crowds (K : PySem.W.Frag) : TS := (tSeq (tAsg (tOp rRep (tLst (tCons (tC (.int 0)) tNil)) (tVar 0)) (gName 2)) (tSeq (tAsg (tOp rRep (tLst (tCons (tC (.int 0)) tNil)) (tVar 0)) (gName 3)) (tSeq (tFor (iList K (tVar 1)) (gTup K 4 (gCons (gName 4) (gCons (gName 5) (gCons (gName 6) (gCons (gName 7) gNil))))) (tSeq (tFor (iRng2 (tCons (tVar 6) (tCons (tVar 7) tNil))) (gName 8) (tAsg (tOp (rI0 fun i j => .int (i + j)) (tOp (rIxL K) (tVar 2) (tVar 8)) (tC (.int 1))) (gSub (tVar 2) (tVar 8) rSetL))) (tFor (iRng2 (tCons (tVar 7) (tCons (tVar 6) tNil))) (gName 8) (tAsg (tOp (rI0 fun i j => .int (i + j)) (tOp (rIxL K) (tVar 3) (tVar 8)) (tC (.int 1))) (gSub (tVar 3) (tVar 8) rSetL))))) (tRet (tTup (tCons (tVar 2) (tCons (tVar 3) tNil)))))))
theorem w_crowds {K : PySem.W.Frag} (vs : List V) (H : Hp) (Q : VK) (E : XK) (h : sp_crowds K vs H Q E) : t_crowds K { nx := fun _ H' => Q .non H', rt := Q } (start N_crowds vs) H := by
  obtain ⟨F0, cc, cs, ⟨last_1, orders_here_2⟩, y, h0, hS0, m, q⟩ := h
  obtain ⟨a0, _, rfl, ha0, h1⟩ := ArgR.hd h0
  obtain ⟨a1, _, rfl, ha1, h2⟩ := ArgR.hd h1
  obtain ⟨rfl, rfl⟩ := ArgR.no h2
  obtain rfl := Dt.toInt ha0
  unfold f_crowds at m
  try dsimp only at m
  unfold t_crowds
  refine go (σ' := [some (.int last_1), some a1, none, none, none, none, none, none, none]) rfl ?_
  obtain ⟨x3, k4, m⟩ := bnd m
  refine s_setC (K := K) (ds := x3.map eI) (i := 2) (σ' := fun p9 => [some (.int last_1), some a1, some (.ref p9), none, none, none, none, none, none]) hS0 (c_rep (en := eI) (c_lst (a_cons d_int a_nil) (Nat.le_of_ble_eq_true rfl)) (fun _ => (d_var rfl (.int _))) k4) (fun _ => rfl) (fun p9 us10 F5 H6 g7 hS8 hu11 => ?_)
  obtain rfl := Dts.ints hu11
  obtain ⟨x12, k13, m⟩ := bnd m
  refine s_setC (K := K) (ds := x12.map eI) (i := 3) (σ' := fun p18 => [some (.int last_1), some a1, some (.ref p9), some (.ref p18), none, none, none, none, none]) hS8 (c_rep (en := eI) (c_lst (a_cons d_int a_nil) (Nat.le_of_ble_eq_true rfl)) (fun _ => (d_var rfl (.int _))) k13) (fun _ => rfl) (fun p18 us19 F14 H15 g16 hS17 hu20 => ?_)
  obtain rfl := Dts.ints hu20
  obtain ⟨⟨ups_156, downs_157⟩, k23, m⟩ := bnd m
  try dsimp only at m
  refine s_for (K := K) (xs := orders_here_2) (en := (eT4 eS eI eI eI)) (body := (f_crowds_b21)) (s0 := (x3, x12)) (r := (ups_156, downs_157)) (fun (a : (List Int) × (List Int)) F σ c => ∃ (j4 : Option V) (j5 : Option V) (j6 : Option V) (j7 : Option V) (j8 : Option V), σ = [some (.int last_1), some a1, some (.ref p9), some (.ref p18), j4, j5, j6, j7, j8] ∧ (p18, .lst (a.2.map V.int)) :: (p9, .lst (a.1.map V.int)) :: cs = c) hS17 (i_list (en := (eT4 eS eI eI eI)) (d_var rfl (Dt.gr (Gr.tr g7 g16) ha1))) (fun _ _ => ⟨_, _, _, _, _, rfl, rfl⟩) k23 ?_ ?_
  · rintro ⟨name_here_26, tick_27, at_28, to_29⟩ ⟨ups_24, downs_25⟩ b38 F30 F31 σ44 c45 H32 v37 N39 g33 ⟨u47, u48, u49, u50, u51, rfl, rfl⟩ g34 hS35 hv36 m46 hN41
    obtain ⟨p52, w54, w55, w56, w57, rfl, hT53, hw58, hw59, hw60, hw61⟩ := u4 hv36
    obtain rfl := Dt.toStr hw58
    obtain rfl := Dt.toInt hw59
    obtain rfl := Dt.toInt hw60
    obtain rfl := Dt.toInt hw61
    refine tg (σ' := [some (.int last_1), some a1, some (.ref p9), some (.ref p18), some (.str name_here_26), some (.int tick_27), some (.int at_28), some (.int to_29), u51]) (fun Q hq => ⟨p52, [_, _, _, _], rfl, gr_T hS35.fr hT53, rfl, _, _, rfl, _, _, rfl, _, _, rfl, _, _, rfl, rfl, hq⟩) ?_
    unfold f_crowds_b21 at m46
    try dsimp only at m46
    obtain ⟨x62, k63, m46⟩ := bnd m46
    obtain ⟨ups_104, k66, m46⟩ := bnd m46
    refine s_for (K := K) (xs := x62) (en := eI) (body := (f_crowds_b64)) (s0 := ups_24) (r := ups_104) (fun (a : (List Int)) F σ c => ∃ (j8 : Option V), σ = [some (.int last_1), some a1, some (.ref p9), some (.ref p18), some (.str name_here_26), some (.int tick_27), some (.int at_28), some (.int to_29), j8] ∧ (p18, .lst (downs_25.map V.int)) :: (p9, .lst (a.map V.int)) :: cs = c) hS35 (i_rng2 (a_cons (d_var rfl (.int _)) (a_cons (d_var rfl (.int _)) a_nil)) k63) (fun _ _ => ⟨_, rfl, rfl⟩) k66 ?_ ?_
    · rintro gap_68 ups_67 b77 F69 F70 σ83 c84 H71 v76 N78 g72 ⟨u86, rfl, rfl⟩ g73 hS74 hv75 m85 hN80
      obtain rfl := Dt.toInt hv75
      refine tg (σ' := [some (.int last_1), some a1, some (.ref p9), some (.ref p18), some (.str name_here_26), some (.int tick_27), some (.int at_28), some (.int to_29), some (.int gap_68)]) (fun Q hq => hq) ?_
      unfold f_crowds_b64 at m85
      try dsimp only at m85
      obtain ⟨x90, k91, m85⟩ := bnd m85
      obtain ⟨ups_92, k93, m85⟩ := bnd m85
      refine s_itemFV (K := K) (k1 := [(p18, .lst (downs_25.map V.int))]) (m1 := [(p18, .lst (downs_25.map V.int))]) (x := (x90 + (1 : Int))) (l1 := [(p18, .lst (downs_25.map V.int))]) (p := p9) (vf := V.int) (en := eI) (fun _ _ _ h => Dt.toInt h) hS74 (vp_var rfl) (d_lendX (l1 := [(p18, HO.lst (downs_25.map V.int))]) (m1 := [(p18, HO.lst (downs_25.map V.int))]) (fun _ _ h => Dt.toInt h) (fun _ => (.int _)) (fun F87 g88 hn89 => (d_add (d_ix (e := eI) (d_var rfl (lent_l hn89 (Dts.gr g88 (Dts.of_ints _)))) (d_var rfl (.int _)) k91) d_int))) (d_var rfl (.int _)) k93 (fun F94 H95 g96 hS97 => ?_)
      obtain rfl := sm m85
      exact hN80 _ _ _ _ g96 hS97 ⟨_, rfl, rfl⟩
    · rintro F98 σ103 c102 H99 g100 hS101 ⟨u105, rfl, rfl⟩
      obtain ⟨x106, k107, m46⟩ := bnd m46
      obtain ⟨downs_148, k110, m46⟩ := bnd m46
      refine s_for (K := K) (xs := x106) (en := eI) (body := (f_crowds_b108)) (s0 := downs_25) (r := downs_148) (fun (a : (List Int)) F σ c => ∃ (j8 : Option V), σ = [some (.int last_1), some a1, some (.ref p9), some (.ref p18), some (.str name_here_26), some (.int tick_27), some (.int at_28), some (.int to_29), j8] ∧ (p18, .lst (a.map V.int)) :: (p9, .lst (ups_104.map V.int)) :: cs = c) hS101 (i_rng2 (a_cons (d_var rfl (.int _)) (a_cons (d_var rfl (.int _)) a_nil)) k107) (fun _ _ => ⟨_, rfl, rfl⟩) k110 ?_ ?_
      · rintro gap_112 downs_111 b121 F113 F114 σ127 c128 H115 v120 N122 g116 ⟨u130, rfl, rfl⟩ g117 hS118 hv119 m129 hN124
        obtain rfl := Dt.toInt hv119
        refine tg (σ' := [some (.int last_1), some a1, some (.ref p9), some (.ref p18), some (.str name_here_26), some (.int tick_27), some (.int at_28), some (.int to_29), some (.int gap_112)]) (fun Q hq => hq) ?_
        unfold f_crowds_b108 at m129
        try dsimp only at m129
        obtain ⟨x134, k135, m129⟩ := bnd m129
        obtain ⟨downs_136, k137, m129⟩ := bnd m129
        refine s_itemFV (K := K) (k1 := []) (m1 := []) (x := (x134 + (1 : Int))) (l1 := []) (p := p18) (vf := V.int) (en := eI) (fun _ _ _ h => Dt.toInt h) hS118 (vp_var rfl) (d_lendX (l1 := []) (m1 := []) (fun _ _ h => Dt.toInt h) (fun _ => (.int _)) (fun F131 g132 hn133 => (d_add (d_ix (e := eI) (d_var rfl (lent_l hn133 (Dts.gr g132 (Dts.of_ints _)))) (d_var rfl (.int _)) k135) d_int))) (d_var rfl (.int _)) k137 (fun F138 H139 g140 hS141 => ?_)
        obtain rfl := sm m129
        exact hN124 _ _ _ _ g140 hS141 ⟨_, rfl, rfl⟩
      · rintro F142 σ147 c146 H143 g144 hS145 ⟨u149, rfl, rfl⟩
        obtain rfl := sm m46
        exact hN41 _ _ _ _ (Gr.tr g100 g144) hS145 ⟨_, _, _, _, _, rfl, rfl⟩
  · rintro F150 σ155 c154 H151 g152 hS153 ⟨u158, u159, u160, u161, u162, rfl, rfl⟩
    refine o_ret (o_tup ?_)
    refine o_cons ?_
    refine o_v hS153 (vp_var rfl) ?_
    refine o_cons ?_
    refine o_v hS153 (vp_var rfl) ?_
    refine o_nil ?_
    refine ⟨Nat.le_trans (show ([(.ref p9), (.ref p18)] : List V).length ≤ 1000 from Nat.le_of_ble_eq_true rfl) (by decide), fun p163 hp166 => ?_⟩
    have g164 := Gr.new (o := .tup [(.ref p9), (.ref p18)]) (hS153.fr.back hp166)
    have hS165 := Sta.lay (o := .tup [(.ref p9), (.ref p18)]) hS153 hp166
    have hS167 := Sta.perm hS165 (List.perm_middle (l₁ := [(p18, HO.lst (downs_157.map V.int))]))
    obtain rfl := sm m
    exact q _ _ _ _ (Gr.tr g7 (Gr.tr g16 (Gr.tr g152 g164))) hS167 ⟨_, _, _, rfl, rfl, sq_new⟩
theorem sc_crowds : FnScope N_crowds ["_law_last", "_law_orders_here"] (defScope s_crowds) := ⟨rfl, rfl, rfl, by decide +kernel, rfl, by decide +kernel, by decide +kernel⟩
theorem ok_crowds {P : Program} {w : World} {K : PySem.W.Frag} {mg : Str → Option Value} {base : Heap} (hF : Df K mg "_law_crowds" s_crowds) (m_range : mg "range" = none) : Ok P w K mg base 1 "_law_crowds" ["_law_last", "_law_orders_here"] (sp_crowds K) := by
  obtain ⟨⟨fd, F⟩, gm⟩ := hF
  refine ⟨⟨fd, F.ok sc_crowds (fun vs H Q E h => ?_) (fun cdv A outer s H vs Q E hr h => ⟨t_crowds K, PSs.nox ?_, w_crowds vs H Q E h⟩), F.bindsN fun _ _ _ _ _ _ us hl => match us, hl with | [_, _], _ => rfl, lk_of F⟩, F.kp, gm⟩
  · obtain ⟨F0, cc, cs, x, y, h, _⟩ := h; exact ArgR.len h
  · exact (pss_cons (ps_set (i := 2) sc_crowds.nd rfl (Or.inl rfl) (pe_op op_rep (pe_lst (pa_cons pe_int pa_nil)) (pv 0))) (pss_cons (ps_set (i := 3) sc_crowds.nd rfl (Or.inl rfl) (pe_op op_rep (pe_lst (pa_cons pe_int pa_nil)) (pv 0))) (pss_cons (ps_for PassesOwn.never rfl (pi_list (pv 1)) (pg_tup rfl (pgs_cons (pg_name (i := 4) sc_crowds.nd rfl (Or.inl rfl)) (pgs_cons (pg_name (i := 5) sc_crowds.nd rfl (Or.inl rfl)) (pgs_cons (pg_name (i := 6) sc_crowds.nd rfl (Or.inl rfl)) (pgs_cons (pg_name (i := 7) sc_crowds.nd rfl (Or.inl rfl)) pgs_nil))))) (pss_cons (ps_for PassesOwn.never rfl (pi_range2 (by rfl) m_range (pa_cons (pv 6) (pa_cons (pv 7) pa_nil))) (pg_name (i := 8) sc_crowds.nd rfl (Or.inl rfl)) (pss_one (ps_asg (pe_op op_add (pe_ix ix_list (pv 2) (pv 8) (fun _ _ => rfl)) pe_int) (pg_sub (pv 2) (pv 8) set_list)))) (pss_one (ps_for PassesOwn.never rfl (pi_range2 (by rfl) m_range (pa_cons (pv 7) (pa_cons (pv 6) pa_nil))) (pg_name (i := 8) sc_crowds.nd rfl (Or.inl rfl)) (pss_one (ps_asg (pe_op op_add (pe_ix ix_list (pv 3) (pv 8) (fun _ _ => rfl)) pe_int) (pg_sub (pv 3) (pv 8) set_list))))))) (pss_one (ps_ret (pe_tup (pa_cons (pv 2) (pa_cons (pv 3) pa_nil))))))))
abbrev s_is_number : Stmt := (top 34)
def f_is_number : (Int × Int) → Option Bool := fun (found_1, due_2) => some (true && ((!false) && (decide (found_1 = due_2))))
abbrev A_is_number : (Int × Int) → List PyData := fun x => [eI x.1, eI x.2]
abbrev N_is_number : List Str := ["_law_found", "_law_due"]
abbrev sp_is_number (K : PySem.W.Frag) : Sp := spP K A_is_number eB f_is_number
def t_is_number (K : PySem.W.Frag) : TS := (tRet (tAndV (tCB (rIsi K) (tCons (tVar 0) (tCons (tC (.ty "int")) tNil))) (tAndV (tNotV (tCB (rIsi K) (tCons (tVar 0) (tCons (tC (.ty "bool")) tNil)))) (tOp rEq (tVar 0) (tVar 1)))))
theorem w_is_number {K : PySem.W.Frag} (vs : List V) (H : Hp) (Q : VK) (E : XK) (h : sp_is_number K vs H Q E) : t_is_number K { nx := fun _ H' => Q .non H', rt := Q } (start N_is_number vs) H := by
  obtain ⟨F0, cs, ⟨found_1, due_2⟩, y, h, hS0, m, q⟩ := h
  obtain ⟨a0, _, rfl, ha0, h⟩ := Dts.hd h
  obtain ⟨a1, _, rfl, ha1, h⟩ := Dts.hd h
  obtain rfl := Dts.no h
  obtain rfl := Dt.toInt ha0
  obtain rfl := Dt.toInt ha1
  unfold f_is_number at m
  try dsimp only at m
  unfold t_is_number
  refine go (σ' := [some (.int found_1), some (.int due_2)]) rfl ?_
  refine s_ret (K := K) (d := eB (true && ((!false) && (decide (found_1 = due_2))))) hS0 (d_andP (d_is (e := PyData.bool true) (d_isiD (c := "int") (by decide) (d_var rfl (.int _))) (congrArg PyData.bool (by rfl))) (fun hc => (d_andP (d_notV (d_is (e := PyData.bool false) (d_isiD (c := "bool") (by decide) (d_var rfl (.int _))) (congrArg PyData.bool (by rfl)))) (fun hc => (d_eqI (d_var rfl (.int _)) (d_var rfl (.int _))))))) (fun v7 F3 H4 g5 hS6 hv8 => ?_)
  obtain rfl := sm m
  exact q _ _ _ g5 hS6 hv8
theorem sc_is_number : FnScope N_is_number ["_law_found", "_law_due"] (defScope s_is_number) := ⟨rfl, rfl, rfl, by decide +kernel, rfl, by decide +kernel, by decide +kernel⟩
theorem ok_is_number {P : Program} {w : World} {K : PySem.W.Frag} {mg : Str → Option Value} {base : Heap} (hF : Df K mg "_law_is_number" s_is_number) (m_bool : mg "bool" = none) (m_int : mg "int" = none) (m_isinstance : mg "isinstance" = none) : Ok P w K mg base 1 "_law_is_number" ["_law_found", "_law_due"] (sp_is_number K) := by
  obtain ⟨⟨fd, F⟩, gm⟩ := hF
  refine ⟨⟨fd, F.ok sc_is_number (fun vs H Q E h => ?_) (fun cdv A outer s H vs Q E hr h => ⟨t_is_number K, PSs.nox ?_, w_is_number vs H Q E h⟩), F.bindsN fun _ _ _ _ _ _ us hl => match us, hl with | [_, _], _ => rfl, lk_of F⟩, F.kp, gm⟩
  · obtain ⟨F0, cs, x, y, h, _⟩ := h; exact Dts.len h
  · exact (pss_one (ps_ret (pe_and (pe_callB call_isi (by rfl) m_isinstance (by decide +kernel) (pa_cons (pv 0) (pa_cons (pe_bltn (v := .ty "int") (by rfl) m_int (by decide +kernel) rfl) pa_nil))) (pe_and (pe_not (pe_callB call_isi (by rfl) m_isinstance (by decide +kernel) (pa_cons (pv 0) (pa_cons (pe_bltn (v := .ty "bool") (by rfl) m_bool (by decide +kernel) rfl) pa_nil)))) (pe_one (pe_cmpR op_eq (pv 0) (pv 1) (nomark _)))))))
abbrev s_is_whole : Stmt := (top 7)
def f_is_whole : Int → Option Bool := fun thing_1 => some (true && (!false))
abbrev A_is_whole : Int → List PyData := fun x => [eI x]
abbrev N_is_whole : List Str := ["thing"]
abbrev sp_is_whole (K : PySem.W.Frag) : Sp := spP K A_is_whole eB f_is_whole
def t_is_whole (K : PySem.W.Frag) : TS := (tRet (tAndV (tCB (rIsi K) (tCons (tVar 0) (tCons (tC (.ty "int")) tNil))) (tNotV (tCB (rIsi K) (tCons (tVar 0) (tCons (tC (.ty "bool")) tNil))))))
theorem w_is_whole {K : PySem.W.Frag} (vs : List V) (H : Hp) (Q : VK) (E : XK) (h : sp_is_whole K vs H Q E) : t_is_whole K { nx := fun _ H' => Q .non H', rt := Q } (start N_is_whole vs) H := by
  obtain ⟨F0, cs, thing_1, y, h, hS0, m, q⟩ := h
  obtain ⟨a0, _, rfl, ha0, h⟩ := Dts.hd h
  obtain rfl := Dts.no h
  obtain rfl := Dt.toInt ha0
  unfold f_is_whole at m
  try dsimp only at m
  unfold t_is_whole
  refine go (σ' := [some (.int thing_1)]) rfl ?_
  refine s_ret (K := K) (d := eB (true && (!false))) hS0 (d_andP (d_is (e := PyData.bool true) (d_isiD (c := "int") (by decide) (d_var rfl (.int _))) (congrArg PyData.bool (by rfl))) (fun hc => (d_notV (d_is (e := PyData.bool false) (d_isiD (c := "bool") (by decide) (d_var rfl (.int _))) (congrArg PyData.bool (by rfl)))))) (fun v6 F2 H3 g4 hS5 hv7 => ?_)
  obtain rfl := sm m
  exact q _ _ _ g4 hS5 hv7
theorem sc_is_whole : FnScope N_is_whole ["thing"] (defScope s_is_whole) := ⟨rfl, rfl, rfl, by decide +kernel, rfl, by decide +kernel, by decide +kernel⟩
theorem ok_is_whole {P : Program} {w : World} {K : PySem.W.Frag} {mg : Str → Option Value} {base : Heap} (hF : Df K mg "is_whole" s_is_whole) (m_bool : mg "bool" = none) (m_int : mg "int" = none) (m_isinstance : mg "isinstance" = none) : Ok P w K mg base 1 "is_whole" ["thing"] (sp_is_whole K) := by
  obtain ⟨⟨fd, F⟩, gm⟩ := hF
  refine ⟨⟨fd, F.ok sc_is_whole (fun vs H Q E h => ?_) (fun cdv A outer s H vs Q E hr h => ⟨t_is_whole K, PSs.nox ?_, w_is_whole vs H Q E h⟩), F.bindsN fun _ _ _ _ _ _ us hl => match us, hl with | [_], _ => rfl, lk_of F⟩, F.kp, gm⟩
  · obtain ⟨F0, cs, x, y, h, _⟩ := h; exact Dts.len h
  · exact (pss_one (ps_ret (pe_and (pe_callB call_isi (by rfl) m_isinstance (by decide +kernel) (pa_cons (pv 0) (pa_cons (pe_bltn (v := .ty "int") (by rfl) m_int (by decide +kernel) rfl) pa_nil))) (pe_one (pe_not (pe_callB call_isi (by rfl) m_isinstance (by decide +kernel) (pa_cons (pv 0) (pa_cons (pe_bltn (v := .ty "bool") (by rfl) m_bool (by decide +kernel) rfl) pa_nil))))))))
abbrev s_is_between : Stmt := (top 15)
def f_is_between : (Int × Int × Int) → Option Bool := fun (thing_1, least_2, greatest_3) => (((f_is_whole thing_1)).bind fun x4 => some (x4 && (decide (least_2 ≤ thing_1) && decide (thing_1 ≤ greatest_3))))
abbrev A_is_between : (Int × Int × Int) → List PyData := fun x => [eI x.1, eI x.2.1, eI x.2.2]
abbrev N_is_between : List Str := ["thing", "least", "greatest"]
abbrev sp_is_between (K : PySem.W.Frag) : Sp := spP K A_is_between eB f_is_between
def t_is_between (K : PySem.W.Frag) : TS := (tRet (tAndV (tCall (sp_is_whole K) [] E0 (tCons (tVar 0) tNil)) (tChain (rI0 fun i j => .bl (decide (i ≤ j))) (rI0 fun i j => .bl (decide (i ≤ j))) (tVar 1) (tVar 0) (tVar 2))))
theorem w_is_between {K : PySem.W.Frag} (vs : List V) (H : Hp) (Q : VK) (E : XK) (h : sp_is_between K vs H Q E) : t_is_between K { nx := fun _ H' => Q .non H', rt := Q } (start N_is_between vs) H := by
  obtain ⟨F0, cs, ⟨thing_1, least_2, greatest_3⟩, y, h, hS0, m, q⟩ := h
  obtain ⟨a0, _, rfl, ha0, h⟩ := Dts.hd h
  obtain ⟨a1, _, rfl, ha1, h⟩ := Dts.hd h
  obtain ⟨a2, _, rfl, ha2, h⟩ := Dts.hd h
  obtain rfl := Dts.no h
  obtain rfl := Dt.toInt ha0
  obtain rfl := Dt.toInt ha1
  obtain rfl := Dt.toInt ha2
  unfold f_is_between at m
  try dsimp only at m
  unfold t_is_between
  refine go (σ' := [some (.int thing_1), some (.int least_2), some (.int greatest_3)]) rfl ?_
  obtain ⟨x4, k5, m⟩ := bnd m
  refine s_ret (K := K) (d := eB (x4 && (decide (least_2 ≤ thing_1) && decide (thing_1 ≤ greatest_3)))) hS0 (d_andP (d_call (A := A_is_whole) (B := eB) (x := thing_1) (a_cons (d_var rfl (.int _)) a_nil) k5) (fun hc => (d_chain (d_var rfl (.int _)) (d_var rfl (.int _)) (d_var rfl (.int _))))) (fun v10 F6 H7 g8 hS9 hv11 => ?_)
  obtain rfl := sm m
  exact q _ _ _ g8 hS9 hv11
theorem sc_is_between : FnScope N_is_between ["thing", "least", "greatest"] (defScope s_is_between) := ⟨rfl, rfl, rfl, by decide +kernel, rfl, by decide +kernel, by decide +kernel⟩
theorem ok_is_between {P : Program} {w : World} {K : PySem.W.Frag} {mg : Str → Option Value} {base : Heap} (hF : Df K mg "is_between" s_is_between) (o_is_whole : Ok P w K mg base 1 "is_whole" ["thing"] (sp_is_whole K)) : Ok P w K mg base 2 "is_between" ["thing", "least", "greatest"] (sp_is_between K) := by
  obtain ⟨⟨_, G_is_whole, bd_is_whole, _⟩, kp_is_whole, gm_is_whole⟩ := o_is_whole
  obtain ⟨⟨fd, F⟩, gm⟩ := hF
  refine ⟨⟨fd, F.ok sc_is_between (fun vs H Q E h => ?_) (fun cdv A outer s H vs Q E hr h => ⟨t_is_between K, PSs.nox ?_, w_is_between vs H Q E h⟩), F.bindsN fun _ _ _ _ _ _ us hl => match us, hl with | [_, _, _], _ => rfl, lk_of F⟩, F.kp, gm⟩
  · obtain ⟨F0, cs, x, y, h, _⟩ := h; exact Dts.len h
  · exact (pss_one (ps_ret (pe_and (pe_call G_is_whole (hr.mono (by decide)) (by rfl) gm_is_whole kp_is_whole bd_is_whole .nil pass0 (pa_cons (pv 0) pa_nil)) (pe_one (pe_chain op_le op_le (pv 1) (pv 0) (pv 2))))))
abbrev s_look_at_aisle : Stmt := (top 16)
def f_look_at_aisle : ((List Int) × Int) → Option Unit := fun thing_1 => (if ((!true) || (!decide ((2 : Int) = (2 : Int)))) = true then none else (letM thing_1.1 fun gaps_16 => letM thing_1.2 fun most_18 => (if ((!true) || (!(decide ((1 : Int) ≤ (gaps_16.length : Int)) && decide ((gaps_16.length : Int) ≤ (15 : Int))))) = true then none else (((lcC (fun gap_34 => (((f_is_between (gap_34, (1 : Int), (1000 : Int)))).bind fun x45 => some (some x45))) gaps_16)).bind fun x47 => (if (!((x47).all id)) = true then none else (((f_is_between (most_18, (1 : Int), (20 : Int)))).bind fun x57 => (if (!x57) = true then none else some ())))))))
abbrev A_look_at_aisle : ((List Int) × Int) → List PyData := fun x => [(eT2 (eL eI) eI) x]
abbrev N_look_at_aisle : List Str := ["thing", "gaps", "most", "gap"]
abbrev sp_look_at_aisle (K : PySem.W.Frag) : Sp := spP K A_look_at_aisle eN f_look_at_aisle
def t_look_at_aisle (K : PySem.W.Frag) : TS := (tSeq (tIfS (tOr (tNot (tB (tCB (rIsi K) (tCons (tVar 0) (tCons (tC (.ty "tuple")) tNil))))) (tTest (tOp rNe (tCB (rLenL K) (tCons (tVar 0) tNil)) (tC (.int 2))))) tNever tNext) (tSeq (tAsg (tVar 0) (gTup K 2 (gCons (gName 1) (gCons (gName 2) gNil)))) (tSeq (tIfS (tOr (tNot (tB (tCB (rIsi K) (tCons (tVar 1) (tCons (tC (.ty "list")) tNil))))) (tNot (tTest (tChain (rI0 fun i j => .bl (decide (i ≤ j))) (rI0 fun i j => .bl (decide (i ≤ j))) (tC (.int 1)) (tCB (rLenL K) (tCons (tVar 1) tNil)) (tC (.int 15)))))) tNever tNext) (tSeq (tIfS (tNot (tB (tCB (rAll K) (tCons (tLc (iList K (tVar 1)) (gName 3) tYes (tCall (sp_is_between K) [] E0 (tCons (tVar 3) (tCons (tC (.int 1)) (tCons (tC (.int 1000)) tNil)))) [3]) tNil)))) tNever tNext) (tIfS (tNot (tB (tCall (sp_is_between K) [] E0 (tCons (tVar 2) (tCons (tC (.int 1)) (tCons (tC (.int 20)) tNil)))))) tNever tNext)))))
theorem w_look_at_aisle {K : PySem.W.Frag} (vs : List V) (H : Hp) (Q : VK) (E : XK) (h : sp_look_at_aisle K vs H Q E) : t_look_at_aisle K { nx := fun _ H' => Q .non H', rt := Q } (start N_look_at_aisle vs) H := by
  obtain ⟨F0, cs, thing_1, y, h, hS0, m, q⟩ := h
  obtain ⟨a0, _, rfl, ha0, h⟩ := Dts.hd h
  obtain rfl := Dts.no h
  unfold f_look_at_aisle at m
  try dsimp only at m
  unfold t_look_at_aisle
  refine go (σ' := [some a0, none, none, none]) rfl ?_
  refine s_if (b := ((!true) || (!decide ((2 : Int) = (2 : Int))))) hS0 (t_orP (t_not (t_B (K := K) (d_is (e := PyData.bool true) (d_isiD (c := "tuple") (by decide) (d_var rfl ha0)) (congrArg PyData.bool (by rfl))))) (fun hc => (t_test (K := K) (d_neI (d_is (e := PyData.int 2) (d_lenT (a_cons (d_var rfl ha0) a_nil)) (congrArg PyData.int (by rfl))) d_int)))) (fun hc F2 H3 g4 hS5 => ?_) (fun hc F6 H7 g8 hS9 => ?_)
  · rw [if_pos hc] at m
    cases m
  · rw [if_neg (bf hc)] at m
    refine nxt ?_
    refine s_asg (K := K) (d := (eT2 (eL eI) eI) thing_1) hS9 (d_var rfl (Dt.gr g8 ha0)) (fun v14 F10 H11 g12 hS13 hv15 => ?_)
    obtain ⟨gaps_16, k17, m⟩ := lt m
    obtain ⟨most_18, k19, m⟩ := lt m
    obtain ⟨p20, w22, w23, rfl, hT21, hw24, hw25⟩ := u2 hv15
    rw [k17] at hw24
    rw [k19] at hw25
    obtain rfl := Dt.toInt hw25
    refine tg (σ' := [some a0, some w22, some (.int most_18), none]) (fun Q hq => ⟨p20, [_, _], rfl, gr_T hS13.fr hT21, rfl, _, _, rfl, _, _, rfl, rfl, hq⟩) ?_
    refine s_if (b := ((!true) || (!(decide ((1 : Int) ≤ (gaps_16.length : Int)) && decide ((gaps_16.length : Int) ≤ (15 : Int)))))) hS13 (t_orP (t_not (t_B (K := K) (d_is (e := PyData.bool true) (d_isiD (c := "list") (by decide) (d_var rfl hw24)) (congrArg PyData.bool (by rfl))))) (fun hc => (t_not (t_test (K := K) (d_chain d_int (d_len (e := eI) (a_cons (d_var rfl hw24) a_nil)) d_int))))) (fun hc F26 H27 g28 hS29 => ?_) (fun hc F30 H31 g32 hS33 => ?_)
    · rw [if_pos hc] at m
      cases m
    · rw [if_neg (bf hc)] at m
      refine nxt ?_
      obtain ⟨x47, k48, m⟩ := bnd m
      refine s_if (b := (!((x47).all id))) hS33 (t_not (t_B (K := K) (d_all (a_cons (EvC.dd (c_lcC (K := K) (f := (fun gap_34 => (((f_is_between (gap_34, (1 : Int), (1000 : Int)))).bind fun x45 => some (some x45)))) (em := eB) (i_list (en := eI) (d_var rfl (Dt.gr g32 hw24))) k48 (fun gap_34 o41 v42 F35 p36 us37 g38 hv39 ho40 => by obtain rfl := Dt.toInt hv39; obtain ⟨x45, k46, ho40⟩ := bnd ho40; obtain rfl := sm ho40; exact ⟨[some a0, some w22, some (.int most_18), some (.int gap_34)], fun H44 Q hS43 hq => (fun Q hq => hq) Q hq, rfl, t_yes, fun y hy => by obtain rfl := sm hy; exact (d_call (A := A_is_between) (B := eB) (x := (gap_34, (1 : Int), (1000 : Int))) (a_cons (d_var rfl (.int _)) (a_cons d_int (a_cons d_int a_nil))) k46)⟩))) a_nil)))) (fun hc F49 H50 g51 hS52 => ?_) (fun hc F53 H54 g55 hS56 => ?_)
      · rw [if_pos hc] at m
        cases m
      · rw [if_neg (bf hc)] at m
        refine nxt ?_
        obtain ⟨x57, k58, m⟩ := bnd m
        refine s_if (b := (!x57)) hS56 (t_not (t_B (K := K) (d_call (A := A_is_between) (B := eB) (x := (most_18, (1 : Int), (20 : Int))) (a_cons (d_var rfl (.int _)) (a_cons d_int (a_cons d_int a_nil))) k58))) (fun hc F59 H60 g61 hS62 => ?_) (fun hc F63 H64 g65 hS66 => ?_)
        · rw [if_pos hc] at m
          cases m
        · rw [if_neg (bf hc)] at m
          refine nxt ?_
          obtain rfl := sm m
          exact q _ _ _ (Gr.tr g8 (Gr.tr g12 (Gr.tr g32 (Gr.tr g55 g65)))) hS66 Dt.non
theorem sc_look_at_aisle : FnScope N_look_at_aisle ["thing"] (defScope s_look_at_aisle) := ⟨rfl, rfl, rfl, by decide +kernel, rfl, by decide +kernel, by decide +kernel⟩
theorem ok_look_at_aisle {P : Program} {w : World} {K : PySem.W.Frag} {mg : Str → Option Value} {base : Heap} (hF : Df K mg "look_at_aisle" s_look_at_aisle) (m_all : mg "all" = none) (m_isinstance : mg "isinstance" = none) (m_len : mg "len" = none) (m_list : mg "list" = none) (m_tuple : mg "tuple" = none) (c_LONGEST_GAP : ∃ t, mg "LONGEST_GAP" = some (.int 1000 t)) (c_MOST_GAPS : ∃ t, mg "MOST_GAPS" = some (.int 15 t)) (c_MOST_LOAD : ∃ t, mg "MOST_LOAD" = some (.int 20 t)) (o_is_between : Ok P w K mg base 2 "is_between" ["thing", "least", "greatest"] (sp_is_between K)) : Ok P w K mg base 3 "look_at_aisle" ["thing"] (sp_look_at_aisle K) := by
  obtain ⟨_, c_LONGEST_GAP⟩ := c_LONGEST_GAP
  obtain ⟨_, c_MOST_GAPS⟩ := c_MOST_GAPS
  obtain ⟨_, c_MOST_LOAD⟩ := c_MOST_LOAD
  obtain ⟨⟨_, G_is_between, bd_is_between, _⟩, kp_is_between, gm_is_between⟩ := o_is_between
  obtain ⟨⟨fd, F⟩, gm⟩ := hF
  refine ⟨⟨fd, F.ok sc_look_at_aisle (fun vs H Q E h => ?_) (fun cdv A outer s H vs Q E hr h => ⟨t_look_at_aisle K, PSs.nox ?_, w_look_at_aisle vs H Q E h⟩), F.bindsN fun _ _ _ _ _ _ us hl => match us, hl with | [_], _ => rfl, lk_of F⟩, F.kp, gm⟩
  · obtain ⟨F0, cs, x, y, h, _⟩ := h; exact Dts.len h
  · exact (pss_cons (ps_if (PW.pt (pw_or (pt_not (pt_val (pe_callB call_isi (by rfl) m_isinstance (by decide +kernel) (pa_cons (pv 0) (pa_cons (pe_bltn (v := .ty "tuple") (by rfl) m_tuple (by decide +kernel) rfl) pa_nil))))) (pw_or1 (pt_cmpR op_ne (pe_callB cr_lenL (by rfl) m_len PySem.boot_len (pa_cons (pv 0) pa_nil)) pe_int (nomark _))))) (pss_one ps_never) pss_nil) (pss_cons (ps_asg (pv 0) (pg_tup rfl (pgs_cons (pg_name (i := 1) sc_look_at_aisle.nd rfl (Or.inl rfl)) (pgs_cons (pg_name (i := 2) sc_look_at_aisle.nd rfl (Or.inl rfl)) pgs_nil)))) (pss_cons (ps_if (PW.pt (pw_or (pt_not (pt_val (pe_callB call_isi (by rfl) m_isinstance (by decide +kernel) (pa_cons (pv 1) (pa_cons (pe_bltn (v := .ty "list") (by rfl) m_list (by decide +kernel) rfl) pa_nil))))) (pw_or1 (pt_not (pt_chain op_le op_le pe_int (pe_callB cr_lenL (by rfl) m_len PySem.boot_len (pa_cons (pv 1) pa_nil)) (pe_glob (v := .int 15) (by rfl) c_MOST_GAPS ⟨_, rfl⟩)))))) (pss_one ps_never) pss_nil) (pss_cons (ps_if (pt_not (pt_val (pe_callB (cr_all rfl) (by rfl) m_all (by decide +kernel) (pa_cons (pe_lc (own := [("gap", 3)]) (g := (gName 3)) (tt := tYes) (te := (tCall (sp_is_between K) [] E0 (tCons (tVar 3) (tCons (tC (.int 1)) (tCons (tC (.int 1000)) tNil))))) (by rfl) sc_look_at_aisle.nd (pi_list (pv 1)) (blkOk_by (own := [("gap", 3)]) (N := N_look_at_aisle) (sc := defScope s_look_at_aisle) (by decide +kernel)) (fun _ _ _ _ _ => (pg_name (i := 3) sc_look_at_aisle.nd rfl (Or.inl rfl))) (fun _ _ _ _ _ => pts_nil) (fun _ _ _ _ _ => (pe_call G_is_between (hr.mono (by decide)) (by rfl) gm_is_between kp_is_between bd_is_between .nil pass0 (pa_cons (pv 3) (pa_cons pe_int (pa_cons (pe_glob (v := .int 1000) (by rfl) c_LONGEST_GAP ⟨_, rfl⟩) pa_nil)))))) pa_nil)))) (pss_one ps_never) pss_nil) (pss_one (ps_if (pt_not (pt_val (pe_call G_is_between (hr.mono (by decide)) (by rfl) gm_is_between kp_is_between bd_is_between .nil pass0 (pa_cons (pv 2) (pa_cons pe_int (pa_cons (pe_glob (v := .int 20) (by rfl) c_MOST_LOAD ⟨_, rfl⟩) pa_nil)))))) (pss_one ps_never) pss_nil))))))
abbrev s_is_name : Stmt := (top 8)
def f_is_name : Str → Option Bool := fun thing_1 => (((if (!true) = true then some true else (((lenS thing_1)).bind fun x2 => some (!(decide ((1 : Int) ≤ x2) && decide (x2 ≤ (8 : Int))))))).bind fun x4 => (if x4 = true then some false else (((mapC (fun sign_20 => (inS sign_20 ("abcdefghijklmnopqrstuvwxyz" : Str))) (signs thing_1))).bind fun x31 => some ((x31).all id))))
abbrev A_is_name : Str → List PyData := fun x => [eS x]
abbrev N_is_name : List Str := ["thing", "sign"]
abbrev sp_is_name (K : PySem.W.Frag) : Sp := spP K A_is_name eB f_is_name
def t_is_name (K : PySem.W.Frag) : TS := (tSeq (tIfS (tOr (tNot (tB (tCB (rIsi K) (tCons (tVar 0) (tCons (tC (.ty "str")) tNil))))) (tNot (tTest (tChain (rI0 fun i j => .bl (decide (i ≤ j))) (rI0 fun i j => .bl (decide (i ≤ j))) (tC (.int 1)) (tCB rLenS (tCons (tVar 0) tNil)) (tC (.int 8)))))) (tRet (tC (.bl false))) tNext) (tRet (tCB (rAll K) (tCons (tLc (iStr (tVar 0)) (gName 1) tYes (tOp rInS (tVar 1) (tC (.str "abcdefghijklmnopqrstuvwxyz"))) [1]) tNil))))
theorem w_is_name {K : PySem.W.Frag} (vs : List V) (H : Hp) (Q : VK) (E : XK) (h : sp_is_name K vs H Q E) : t_is_name K { nx := fun _ H' => Q .non H', rt := Q } (start N_is_name vs) H := by
  obtain ⟨F0, cs, thing_1, y, h, hS0, m, q⟩ := h
  obtain ⟨a0, _, rfl, ha0, h⟩ := Dts.hd h
  obtain rfl := Dts.no h
  obtain rfl := Dt.toStr ha0
  unfold f_is_name at m
  try dsimp only at m
  unfold t_is_name
  refine go (σ' := [some (.str thing_1), none]) rfl ?_
  obtain ⟨x4, k5, m⟩ := bnd m
  refine s_if (b := x4) hS0 (t_orM (r := x4) (t_not (t_B (K := K) (d_is (e := PyData.bool true) (d_isiD (c := "str") (by decide) (d_var rfl (.str _))) (congrArg PyData.bool (by rfl))))) (fun hc => by rw [if_neg (bf hc)] at k5; obtain ⟨x2, k3, k5⟩ := bnd k5; obtain rfl := sm k5; exact (t_not (t_test (K := K) (d_chain d_int (d_lenS (a_cons (d_var rfl (.str _)) a_nil) k3) d_int)))) (fun hc => by rw [if_pos hc] at k5; exact (sm k5).symm)) (fun hc F6 H7 g8 hS9 => ?_) (fun hc F16 H17 g18 hS19 => ?_)
  · rw [if_pos hc] at m
    refine s_ret (K := K) (d := eB false) hS9 d_bl (fun v14 F10 H11 g12 hS13 hv15 => ?_)
    obtain rfl := sm m
    exact q _ _ _ (Gr.tr g8 g12) hS13 hv15
  · rw [if_neg (bf hc)] at m
    refine nxt ?_
    obtain ⟨x31, k32, m⟩ := bnd m
    refine s_ret (K := K) (d := eB ((x31).all id)) hS19 (d_all (a_cons (EvC.dd (c_mapC (K := K) (f := (fun sign_20 => (inS sign_20 ("abcdefghijklmnopqrstuvwxyz" : Str)))) (em := eB) (i_str (d_var rfl (.str _))) k32 (fun sign_20 o27 v28 F21 p22 us23 g24 hv25 ho26 => by obtain rfl := Dt.toStr hv25; obtain rfl := sm ho26; exact ⟨[some (.str thing_1), some (.str sign_20)], fun H30 Q hS29 hq => (fun Q hq => hq) Q hq, rfl, t_yes, fun y hy => by obtain rfl := sm hy; exact (d_inS (d_var rfl (.str _)) d_str)⟩))) a_nil)) (fun v37 F33 H34 g35 hS36 hv38 => ?_)
    obtain rfl := sm m
    exact q _ _ _ (Gr.tr g18 g35) hS36 hv38
theorem sc_is_name : FnScope N_is_name ["thing"] (defScope s_is_name) := ⟨rfl, rfl, rfl, by decide +kernel, rfl, by decide +kernel, by decide +kernel⟩
theorem ok_is_name {P : Program} {w : World} {K : PySem.W.Frag} {mg : Str → Option Value} {base : Heap} (hF : Df K mg "is_name" s_is_name) (m_all : mg "all" = none) (m_isinstance : mg "isinstance" = none) (m_len : mg "len" = none) (m_str : mg "str" = none) (c_LETTERS : ∃ t, mg "LETTERS" = some (.str "abcdefghijklmnopqrstuvwxyz" t)) (c_LONGEST : ∃ t, mg "LONGEST" = some (.int 8 t)) : Ok P w K mg base 1 "is_name" ["thing"] (sp_is_name K) := by
  obtain ⟨_, c_LETTERS⟩ := c_LETTERS
  obtain ⟨_, c_LONGEST⟩ := c_LONGEST
  obtain ⟨⟨fd, F⟩, gm⟩ := hF
  refine ⟨⟨fd, F.ok sc_is_name (fun vs H Q E h => ?_) (fun cdv A outer s H vs Q E hr h => ⟨t_is_name K, PSs.nox ?_, w_is_name vs H Q E h⟩), F.bindsN fun _ _ _ _ _ _ us hl => match us, hl with | [_], _ => rfl, lk_of F⟩, F.kp, gm⟩
  · obtain ⟨F0, cs, x, y, h, _⟩ := h; exact Dts.len h
  · exact (pss_cons (ps_if (PW.pt (pw_or (pt_not (pt_val (pe_callB call_isi (by rfl) m_isinstance (by decide +kernel) (pa_cons (pv 0) (pa_cons (pe_bltn (v := .ty "str") (by rfl) m_str (by decide +kernel) rfl) pa_nil))))) (pw_or1 (pt_not (pt_chain op_le op_le pe_int (pe_callB cr_lenS (by rfl) m_len PySem.boot_len (pa_cons (pv 0) pa_nil)) (pe_glob (v := .int 8) (by rfl) c_LONGEST ⟨_, rfl⟩)))))) (pss_one (ps_ret pe_bl)) pss_nil) (pss_one (ps_ret (pe_callB (cr_all rfl) (by rfl) m_all (by decide +kernel) (pa_cons (pe_lc (own := [("sign", 1)]) (g := (gName 1)) (tt := tYes) (te := (tOp rInS (tVar 1) (tC (.str "abcdefghijklmnopqrstuvwxyz")))) (by rfl) sc_is_name.nd (pi_str (pv 0)) (blkOk_by (own := [("sign", 1)]) (N := N_is_name) (sc := defScope s_is_name) (by decide +kernel)) (fun _ _ _ _ _ => (pg_name (i := 1) sc_is_name.nd rfl (Or.inl rfl))) (fun _ _ _ _ _ => pts_nil) (fun _ _ _ _ _ => (pe_cmpR op_inR (pv 1) (pe_glob (v := .str "abcdefghijklmnopqrstuvwxyz") (by rfl) c_LETTERS ⟨_, rfl⟩) (by rfl)))) pa_nil)))))
abbrev s_is_order : Stmt := (top 17)
def f_is_order : ((Str × Int × Int × Int) × Int) → Option Bool := fun (thing_1, last_2) => (if ((!true) || (!decide ((4 : Int) = (4 : Int)))) = true then some false else (letM thing_1.1 fun name_23 => letM thing_1.2.1 fun tick_25 => (((f_is_name name_23)).bind fun x37 => ((if (!x37) = true then some true else (((f_is_between (tick_25, (0 : Int), (1000000000 : Int)))).bind fun x39 => some (!x39)))).bind fun x41 => (if x41 = true then some false else (((f_is_between (thing_1.2.2.1, (0 : Int), last_2))).bind fun x57 => ((if x57 = true then (((f_is_between (thing_1.2.2.2, (0 : Int), last_2))).bind fun x59 => some (x59 && (!decide (thing_1.2.2.1 = thing_1.2.2.2)))) else some false)).bind fun x61 => some x61)))))
abbrev A_is_order : ((Str × Int × Int × Int) × Int) → List PyData := fun x => [(eT4 eS eI eI eI) x.1, eI x.2]
abbrev N_is_order : List Str := ["thing", "last", "name", "tick", "at", "to"]
abbrev sp_is_order (K : PySem.W.Frag) : Sp := spP K A_is_order eB f_is_order
def t_is_order (K : PySem.W.Frag) : TS := (tSeq (tIfS (tOr (tNot (tB (tCB (rIsi K) (tCons (tVar 0) (tCons (tC (.ty "tuple")) tNil))))) (tTest (tOp rNe (tCB (rLenL K) (tCons (tVar 0) tNil)) (tC (.int 4))))) (tRet (tC (.bl false))) tNext) (tSeq (tAsg (tVar 0) (gTup K 4 (gCons (gName 2) (gCons (gName 3) (gCons (gName 4) (gCons (gName 5) gNil)))))) (tSeq (tIfS (tOr (tNot (tB (tCall (sp_is_name K) [] E0 (tCons (tVar 2) tNil)))) (tNot (tB (tCall (sp_is_between K) [] E0 (tCons (tVar 3) (tCons (tC (.int 0)) (tCons (tC (.int 1000000000)) tNil))))))) (tRet (tC (.bl false))) tNext) (tRet (tAndV (tCall (sp_is_between K) [] E0 (tCons (tVar 4) (tCons (tC (.int 0)) (tCons (tVar 1) tNil)))) (tAndV (tCall (sp_is_between K) [] E0 (tCons (tVar 5) (tCons (tC (.int 0)) (tCons (tVar 1) tNil)))) (tOp rNe (tVar 4) (tVar 5))))))))
theorem w_is_order {K : PySem.W.Frag} (vs : List V) (H : Hp) (Q : VK) (E : XK) (h : sp_is_order K vs H Q E) : t_is_order K { nx := fun _ H' => Q .non H', rt := Q } (start N_is_order vs) H := by
  obtain ⟨F0, cs, ⟨thing_1, last_2⟩, y, h, hS0, m, q⟩ := h
  obtain ⟨a0, _, rfl, ha0, h⟩ := Dts.hd h
  obtain ⟨a1, _, rfl, ha1, h⟩ := Dts.hd h
  obtain rfl := Dts.no h
  obtain rfl := Dt.toInt ha1
  unfold f_is_order at m
  try dsimp only at m
  unfold t_is_order
  refine go (σ' := [some a0, some (.int last_2), none, none, none, none]) rfl ?_
  refine s_if (b := ((!true) || (!decide ((4 : Int) = (4 : Int))))) hS0 (t_orP (t_not (t_B (K := K) (d_is (e := PyData.bool true) (d_isiD (c := "tuple") (by decide) (d_var rfl ha0)) (congrArg PyData.bool (by rfl))))) (fun hc => (t_test (K := K) (d_neI (d_is (e := PyData.int 4) (d_lenT (a_cons (d_var rfl ha0) a_nil)) (congrArg PyData.int (by rfl))) d_int)))) (fun hc F3 H4 g5 hS6 => ?_) (fun hc F13 H14 g15 hS16 => ?_)
  · rw [if_pos hc] at m
    refine s_ret (K := K) (d := eB false) hS6 d_bl (fun v11 F7 H8 g9 hS10 hv12 => ?_)
    obtain rfl := sm m
    exact q _ _ _ (Gr.tr g5 g9) hS10 hv12
  · rw [if_neg (bf hc)] at m
    refine nxt ?_
    refine s_asg (K := K) (d := (eT4 eS eI eI eI) thing_1) hS16 (d_var rfl (Dt.gr g15 ha0)) (fun v21 F17 H18 g19 hS20 hv22 => ?_)
    obtain ⟨name_23, k24, m⟩ := lt m
    obtain ⟨tick_25, k26, m⟩ := lt m
    obtain ⟨p27, w29, w30, w31, w32, rfl, hT28, hw33, hw34, hw35, hw36⟩ := u4 hv22
    rw [k24] at hw33
    obtain rfl := Dt.toStr hw33
    rw [k26] at hw34
    obtain rfl := Dt.toInt hw34
    obtain rfl := Dt.toInt hw35
    obtain rfl := Dt.toInt hw36
    refine tg (σ' := [some a0, some (.int last_2), some (.str name_23), some (.int tick_25), some (.int thing_1.2.2.1), some (.int thing_1.2.2.2)]) (fun Q hq => ⟨p27, [_, _, _, _], rfl, gr_T hS20.fr hT28, rfl, _, _, rfl, _, _, rfl, _, _, rfl, _, _, rfl, rfl, hq⟩) ?_
    obtain ⟨x37, k38, m⟩ := bnd m
    obtain ⟨x41, k42, m⟩ := bnd m
    refine s_if (b := x41) hS20 (t_orM (r := x41) (t_not (t_B (K := K) (d_call (A := A_is_name) (B := eB) (x := name_23) (a_cons (d_var rfl (.str _)) a_nil) k38))) (fun hc => by rw [if_neg (bf hc)] at k42; obtain ⟨x39, k40, k42⟩ := bnd k42; obtain rfl := sm k42; exact (t_not (t_B (K := K) (d_call (A := A_is_between) (B := eB) (x := (tick_25, (0 : Int), (1000000000 : Int))) (a_cons (d_var rfl (.int _)) (a_cons d_int (a_cons d_int a_nil))) k40)))) (fun hc => by rw [if_pos hc] at k42; exact (sm k42).symm)) (fun hc F43 H44 g45 hS46 => ?_) (fun hc F53 H54 g55 hS56 => ?_)
    · rw [if_pos hc] at m
      refine s_ret (K := K) (d := eB false) hS46 d_bl (fun v51 F47 H48 g49 hS50 hv52 => ?_)
      obtain rfl := sm m
      exact q _ _ _ (Gr.tr g15 (Gr.tr g19 (Gr.tr g45 g49))) hS50 hv52
    · rw [if_neg (bf hc)] at m
      refine nxt ?_
      obtain ⟨x57, k58, m⟩ := bnd m
      obtain ⟨x61, k62, m⟩ := bnd m
      refine s_ret (K := K) (d := eB x61) hS56 (d_andM (r := x61) (d_call (A := A_is_between) (B := eB) (x := (thing_1.2.2.1, (0 : Int), last_2)) (a_cons (d_var rfl (.int _)) (a_cons d_int (a_cons (d_var rfl (.int _)) a_nil))) k58) (fun hc => by rw [if_pos hc] at k62; obtain ⟨x59, k60, k62⟩ := bnd k62; obtain rfl := sm k62; exact (d_andP (d_call (A := A_is_between) (B := eB) (x := (thing_1.2.2.2, (0 : Int), last_2)) (a_cons (d_var rfl (.int _)) (a_cons d_int (a_cons (d_var rfl (.int _)) a_nil))) k60) (fun hc => (d_neI (d_var rfl (.int _)) (d_var rfl (.int _)))))) (fun hc => by rw [if_neg (bf hc)] at k62; exact (sm k62).symm)) (fun v67 F63 H64 g65 hS66 hv68 => ?_)
      obtain rfl := sm m
      exact q _ _ _ (Gr.tr g15 (Gr.tr g19 (Gr.tr g55 g65))) hS66 hv68
theorem sc_is_order : FnScope N_is_order ["thing", "last"] (defScope s_is_order) := ⟨rfl, rfl, rfl, by decide +kernel, rfl, by decide +kernel, by decide +kernel⟩
theorem ok_is_order {P : Program} {w : World} {K : PySem.W.Frag} {mg : Str → Option Value} {base : Heap} (hF : Df K mg "is_order" s_is_order) (m_isinstance : mg "isinstance" = none) (m_len : mg "len" = none) (m_tuple : mg "tuple" = none) (c_LATEST : ∃ t, mg "LATEST" = some (.int 1000000000 t)) (o_is_between : Ok P w K mg base 2 "is_between" ["thing", "least", "greatest"] (sp_is_between K)) (o_is_name : Ok P w K mg base 1 "is_name" ["thing"] (sp_is_name K)) : Ok P w K mg base 3 "is_order" ["thing", "last"] (sp_is_order K) := by
  obtain ⟨_, c_LATEST⟩ := c_LATEST
  obtain ⟨⟨_, G_is_between, bd_is_between, _⟩, kp_is_between, gm_is_between⟩ := o_is_between
  obtain ⟨⟨_, G_is_name, bd_is_name, _⟩, kp_is_name, gm_is_name⟩ := o_is_name
  obtain ⟨⟨fd, F⟩, gm⟩ := hF
  refine ⟨⟨fd, F.ok sc_is_order (fun vs H Q E h => ?_) (fun cdv A outer s H vs Q E hr h => ⟨t_is_order K, PSs.nox ?_, w_is_order vs H Q E h⟩), F.bindsN fun _ _ _ _ _ _ us hl => match us, hl with | [_, _], _ => rfl, lk_of F⟩, F.kp, gm⟩
  · obtain ⟨F0, cs, x, y, h, _⟩ := h; exact Dts.len h
  · exact (pss_cons (ps_if (PW.pt (pw_or (pt_not (pt_val (pe_callB call_isi (by rfl) m_isinstance (by decide +kernel) (pa_cons (pv 0) (pa_cons (pe_bltn (v := .ty "tuple") (by rfl) m_tuple (by decide +kernel) rfl) pa_nil))))) (pw_or1 (pt_cmpR op_ne (pe_callB cr_lenL (by rfl) m_len PySem.boot_len (pa_cons (pv 0) pa_nil)) pe_int (nomark _))))) (pss_one (ps_ret pe_bl)) pss_nil) (pss_cons (ps_asg (pv 0) (pg_tup rfl (pgs_cons (pg_name (i := 2) sc_is_order.nd rfl (Or.inl rfl)) (pgs_cons (pg_name (i := 3) sc_is_order.nd rfl (Or.inl rfl)) (pgs_cons (pg_name (i := 4) sc_is_order.nd rfl (Or.inl rfl)) (pgs_cons (pg_name (i := 5) sc_is_order.nd rfl (Or.inl rfl)) pgs_nil)))))) (pss_cons (ps_if (PW.pt (pw_or (pt_not (pt_val (pe_call G_is_name (hr.mono (by decide)) (by rfl) gm_is_name kp_is_name bd_is_name .nil pass0 (pa_cons (pv 2) pa_nil)))) (pw_or1 (pt_not (pt_val (pe_call G_is_between (hr.mono (by decide)) (by rfl) gm_is_between kp_is_between bd_is_between .nil pass0 (pa_cons (pv 3) (pa_cons pe_int (pa_cons (pe_glob (v := .int 1000000000) (by rfl) c_LATEST ⟨_, rfl⟩) pa_nil))))))))) (pss_one (ps_ret pe_bl)) pss_nil) (pss_one (ps_ret (pe_and (pe_call G_is_between (hr.mono (by decide)) (by rfl) gm_is_between kp_is_between bd_is_between .nil pass0 (pa_cons (pv 4) (pa_cons pe_int (pa_cons (pv 1) pa_nil)))) (pe_and (pe_call G_is_between (hr.mono (by decide)) (by rfl) gm_is_between kp_is_between bd_is_between .nil pass0 (pa_cons (pv 5) (pa_cons pe_int (pa_cons (pv 1) pa_nil)))) (pe_one (pe_cmpR op_ne (pv 4) (pv 5) (nomark _))))))))))
abbrev s_look_at_orders : Stmt := (top 18)
def f_look_at_orders_b24 (aisle_1 : ((List Int) × Int)) : (Int × (List (Str × Bool))) → (Str × Int × Int × Int) → Option (Int × (List (Str × Bool))) := fun (latest_27, names_28) order_29 => (((f_is_order (order_29, (aisle_1.1.length : Int)))).bind fun x48 => (if (!x48) = true then none else (if (hasK names_28 order_29.1) = true then none else (if (decide (order_29.2.1 < latest_27)) = true then none else (((putM names_28 order_29.1 true)).bind fun names_77 => (letM order_29.2.1 fun latest_87 => some (latest_87, names_77)))))))
def f_look_at_orders : (((List Int) × Int) × (List (Str × Int × Int × Int))) → Option Unit := fun (aisle_1, thing_2) => (((f_look_at_aisle aisle_1)).bind fun x3 => (if ((!true) || (decide ((60 : Int) < (thing_2.length : Int)))) = true then none else (thing_2.foldlM (f_look_at_orders_b24 aisle_1) ((0 : Int), ([] : (List (Str × Bool))))).bind fun (latest_95, names_96) => some ()))
abbrev A_look_at_orders : (((List Int) × Int) × (List (Str × Int × Int × Int))) → List PyData := fun x => [(eT2 (eL eI) eI) x.1, (eL (eT4 eS eI eI eI)) x.2]
abbrev N_look_at_orders : List Str := ["aisle", "thing", "names", "latest", "order"]
abbrev sp_look_at_orders (K : PySem.W.Frag) : Sp := spP K A_look_at_orders eN f_look_at_orders
def t_look_at_orders (K : PySem.W.Frag) : TS := (tSeq (tDrop (tCall (sp_look_at_aisle K) [] E0 (tCons (tVar 0) tNil))) (tSeq (tIfS (tOr (tNot (tB (tCB (rIsi K) (tCons (tVar 1) (tCons (tC (.ty "list")) tNil))))) (tTest (tOp (rI0 fun i j => .bl (decide (j < i))) (tCB (rLenL K) (tCons (tVar 1) tNil)) (tC (.int 60))))) tNever tNext) (tSeq (tAsg tDNewK (gName 2)) (tSeq (tAsg (tC (.int 0)) (gName 3)) (tFor (iList K (tVar 1)) (gName 4) (tSeq (tIfS (tNot (tB (tCall (sp_is_order K) [] E0 (tCons (tVar 4) (tCons (tCB (rLenL K) (tCons (tOp (rIxT K) (tVar 0) (tC (.int 0))) tNil)) tNil))))) tNever tNext) (tSeq (tIfS (tB (tDIn (tOp (rIxT K) (tVar 4) (tC (.int 0))) (tVar 2))) tNever tNext) (tSeq (tIfS (tTest (tOp (rI0 fun i j => .bl (decide (i < j))) (tOp (rIxT K) (tVar 4) (tC (.int 1))) (tVar 3))) tNever tNext) (tSeq (sDPut (tVar 2) (tOp (rIxT K) (tVar 4) (tC (.int 0))) (tC (.bl true))) (tAsg (tOp (rIxT K) (tVar 4) (tC (.int 1))) (gName 3)))))))))))
theorem w_look_at_orders {K : PySem.W.Frag} (vs : List V) (H : Hp) (Q : VK) (E : XK) (h : sp_look_at_orders K vs H Q E) : t_look_at_orders K { nx := fun _ H' => Q .non H', rt := Q } (start N_look_at_orders vs) H := by
  obtain ⟨F0, cs, ⟨aisle_1, thing_2⟩, y, h, hS0, m, q⟩ := h
  obtain ⟨a0, _, rfl, ha0, h⟩ := Dts.hd h
  obtain ⟨a1, _, rfl, ha1, h⟩ := Dts.hd h
  obtain rfl := Dts.no h
  unfold f_look_at_orders at m
  try dsimp only at m
  unfold t_look_at_orders
  refine go (σ' := [some a0, some a1, none, none, none]) rfl ?_
  obtain ⟨x3, k4, m⟩ := bnd m
  refine s_drop (K := K) (d := eN x3) hS0 (d_call (A := A_look_at_aisle) (B := eN) (x := aisle_1) (a_cons (d_var rfl ha0) a_nil) k4) (fun F5 H6 g7 hS8 => ?_)
  refine s_if (b := ((!true) || (decide ((60 : Int) < (thing_2.length : Int))))) hS8 (t_orP (t_not (t_B (K := K) (d_is (e := PyData.bool true) (d_isiD (c := "list") (by decide) (d_var rfl (Dt.gr g7 ha1))) (congrArg PyData.bool (by rfl))))) (fun hc => (t_test (K := K) (d_gt (d_len (e := (eT4 eS eI eI eI)) (a_cons (d_var rfl (Dt.gr g7 ha1)) a_nil)) d_int)))) (fun hc F9 H10 g11 hS12 => ?_) (fun hc F13 H14 g15 hS16 => ?_)
  · rw [if_pos hc] at m
    cases m
  · rw [if_neg (bf hc)] at m
    refine nxt ?_
    refine s_setDict (kf := kS) (vf := V.bl) (σ' := fun p17 => [some a0, some a1, some (.ref p17), none, none]) hS16 (fun _ => rfl) (fun p17 H18 hS19 => ?_)
    refine s_setV (K := K) (d := eI (0 : Int)) (i := 3) (σ' := [some a0, some a1, some (.ref p17), some (.int (0 : Int)), none]) (fun _ _ h => Dt.toInt h) hS19 d_int rfl (fun F20 H21 g22 hS23 => ?_)
    obtain ⟨⟨latest_95, names_96⟩, k26, m⟩ := bnd m
    try dsimp only at m
    refine s_for (K := K) (xs := thing_2) (en := (eT4 eS eI eI eI)) (body := (f_look_at_orders_b24 aisle_1)) (s0 := ((0 : Int), ([] : (List (Str × Bool))))) (r := (latest_95, names_96)) (fun (a : Int × (List (Str × Bool))) F σ c => ∃ (j4 : Option V), σ = [some a0, some a1, some (.ref p17), some (.int a.1), j4] ∧ (p17, .dK (kvE kS V.bl a.2)) :: cs = c) hS23 (i_list (en := (eT4 eS eI eI eI)) (d_var rfl (Dt.gr (Gr.tr g7 (Gr.tr g15 g22)) ha1))) (fun _ _ => ⟨_, rfl, rfl⟩) k26 ?_ ?_
    · rintro order_29 ⟨latest_27, names_28⟩ b38 F30 F31 σ44 c45 H32 v37 N39 g33 ⟨u47, rfl, rfl⟩ g34 hS35 hv36 m46 hN41
      refine tg (σ' := [some a0, some a1, some (.ref p17), some (.int latest_27), some v37]) (fun Q hq => hq) ?_
      unfold f_look_at_orders_b24 at m46
      try dsimp only at m46
      obtain ⟨x48, k49, m46⟩ := bnd m46
      refine s_if (b := (!x48)) hS35 (t_not (t_B (K := K) (d_call (A := A_is_order) (B := eB) (x := (order_29, (aisle_1.1.length : Int))) (a_cons (d_var rfl hv36) (a_cons (d_len (e := eI) (a_cons (d_ixT (d_var rfl (Dt.gr (Gr.tr g7 (Gr.tr g15 (Gr.tr g22 (Gr.tr g33 g34)))) ha0)) d_int rfl) a_nil)) a_nil)) k49))) (fun hc F50 H51 g52 hS53 => ?_) (fun hc F54 H55 g56 hS57 => ?_)
      · rw [if_pos hc] at m46
        cases m46
      · rw [if_neg (bf hc)] at m46
        refine nxt ?_
        refine s_if (b := (hasK names_28 order_29.1)) hS57 (t_lendX (l1 := []) (m1 := []) (fun F58 g59 hn60 => (t_B (K := K) (d_din kf_S (d_ixT (d_var rfl (Dt.gr (Gr.tr g56 (Gr.tr g59 (Gr.new hn60))) hv36)) d_int rfl) (vp_var rfl) upd_same)))) (fun hc F61 H62 g63 hS64 => ?_) (fun hc F65 H66 g67 hS68 => ?_)
        · rw [if_pos hc] at m46
          cases m46
        · rw [if_neg (bf hc)] at m46
          refine nxt ?_
          refine s_if (b := (decide (order_29.2.1 < latest_27))) hS68 (t_test (K := K) (d_lt (d_ixT (d_var rfl (Dt.gr (Gr.tr g56 g67) hv36)) d_int rfl) (d_var rfl (.int _)))) (fun hc F69 H70 g71 hS72 => ?_) (fun hc F73 H74 g75 hS76 => ?_)
          · rw [if_pos hc] at m46
            cases m46
          · rw [if_neg (bf hc)] at m46
            refine nxt ?_
            obtain ⟨names_77, k78, m46⟩ := bnd m46
            refine s_dput (K := K) (k1 := []) (m1 := []) (l1 := []) (p := p17) (kf := kS) (vf := V.bl) (ek := eS) (ev := eB) (x := true) kf_S (fun _ _ _ h => Dt.toBl h) hS76 d_bl (vp_var rfl) (d_ixT (d_var rfl (Dt.gr (Gr.tr g56 (Gr.tr g67 g75)) hv36)) d_int rfl) k78 (fun F79 H80 g81 hS82 => ?_)
            obtain ⟨latest_87, k88, m46⟩ := lt m46
            refine s_setV (K := K) (d := eI latest_87) (i := 3) (σ' := [some a0, some a1, some (.ref p17), some (.int latest_87), some v37]) (fun _ _ h => Dt.toInt h) hS82 (d_is (d_ixT (d_var rfl (Dt.gr (Gr.tr g56 (Gr.tr g67 (Gr.tr g75 g81))) hv36)) d_int rfl) (congrArg eI k88)) rfl (fun F83 H84 g85 hS86 => ?_)
            obtain rfl := sm m46
            exact hN41 _ _ _ _ (Gr.tr g56 (Gr.tr g67 (Gr.tr g75 (Gr.tr g81 g85)))) hS86 ⟨_, rfl, rfl⟩
    · rintro F89 σ94 c93 H90 g91 hS92 ⟨u97, rfl, rfl⟩
      have hS98 := Sta.frozeAt (l1 := []) hS92
      obtain rfl := sm m
      exact q _ _ _ (Gr.tr g7 (Gr.tr g15 (Gr.tr g22 (Gr.tr g91 (Gr.new (Sta.freeAt (l1 := []) hS92)))))) hS98 Dt.non
theorem sc_look_at_orders : FnScope N_look_at_orders ["aisle", "thing"] (defScope s_look_at_orders) := ⟨rfl, rfl, rfl, by decide +kernel, rfl, by decide +kernel, by decide +kernel⟩
theorem ok_look_at_orders {P : Program} {w : World} {K : PySem.W.Frag} {mg : Str → Option Value} {base : Heap} (hF : Df K mg "look_at_orders" s_look_at_orders) (m_isinstance : mg "isinstance" = none) (m_len : mg "len" = none) (m_list : mg "list" = none) (c_MOST_ORDERS : ∃ t, mg "MOST_ORDERS" = some (.int 60 t)) (o_is_order : Ok P w K mg base 3 "is_order" ["thing", "last"] (sp_is_order K)) (o_look_at_aisle : Ok P w K mg base 3 "look_at_aisle" ["thing"] (sp_look_at_aisle K)) : Ok P w K mg base 4 "look_at_orders" ["aisle", "thing"] (sp_look_at_orders K) := by
  obtain ⟨_, c_MOST_ORDERS⟩ := c_MOST_ORDERS
  obtain ⟨⟨_, G_is_order, bd_is_order, _⟩, kp_is_order, gm_is_order⟩ := o_is_order
  obtain ⟨⟨_, G_look_at_aisle, bd_look_at_aisle, _⟩, kp_look_at_aisle, gm_look_at_aisle⟩ := o_look_at_aisle
  obtain ⟨⟨fd, F⟩, gm⟩ := hF
  refine ⟨⟨fd, F.ok sc_look_at_orders (fun vs H Q E h => ?_) (fun cdv A outer s H vs Q E hr h => ⟨t_look_at_orders K, PSs.nox ?_, w_look_at_orders vs H Q E h⟩), F.bindsN fun _ _ _ _ _ _ us hl => match us, hl with | [_, _], _ => rfl, lk_of F⟩, F.kp, gm⟩
  · obtain ⟨F0, cs, x, y, h, _⟩ := h; exact Dts.len h
  · exact (pss_cons (ps_expr (pe_call G_look_at_aisle (hr.mono (by decide)) (by rfl) gm_look_at_aisle kp_look_at_aisle bd_look_at_aisle .nil pass0 (pa_cons (pv 0) pa_nil))) (pss_cons (ps_if (PW.pt (pw_or (pt_not (pt_val (pe_callB call_isi (by rfl) m_isinstance (by decide +kernel) (pa_cons (pv 1) (pa_cons (pe_bltn (v := .ty "list") (by rfl) m_list (by decide +kernel) rfl) pa_nil))))) (pw_or1 (pt_cmpR op_gt (pe_callB cr_lenL (by rfl) m_len PySem.boot_len (pa_cons (pv 1) pa_nil)) (pe_glob (v := .int 60) (by rfl) c_MOST_ORDERS ⟨_, rfl⟩) (nomark _))))) (pss_one ps_never) pss_nil) (pss_cons (ps_set (i := 2) sc_look_at_orders.nd rfl (Or.inl rfl) pe_dnewK) (pss_cons (ps_set (i := 3) sc_look_at_orders.nd rfl (Or.inl rfl) pe_int) (pss_one (ps_for PassesOwn.never rfl (pi_list (pv 1)) (pg_name (i := 4) sc_look_at_orders.nd rfl (Or.inl rfl)) (pss_cons (ps_if (pt_not (pt_val (pe_call G_is_order (hr.mono (by decide)) (by rfl) gm_is_order kp_is_order bd_is_order .nil pass0 (pa_cons (pv 4) (pa_cons (pe_callB cr_lenL (by rfl) m_len PySem.boot_len (pa_cons (pe_ix ix_tup (pv 0) pe_int (fun _ _ => rfl)) pa_nil)) pa_nil))))) (pss_one ps_never) pss_nil) (pss_cons (ps_if (pt_cmp (pc_din (hu_of hr) (pe_ix ix_tup (pv 4) pe_int (fun _ _ => rfl)) (pv 2))) (pss_one ps_never) pss_nil) (pss_cons (ps_if (pt_cmpR op_lt (pe_ix ix_tup (pv 4) pe_int (fun _ _ => rfl)) (pv 3) (nomark _)) (pss_one ps_never) pss_nil) (pss_cons (ps_dput (hu_of hr) (pv 2) (pe_ix ix_tup (pv 4) pe_int (fun _ _ => rfl)) pe_bl rfl) (pss_one (ps_set (i := 3) sc_look_at_orders.nd rfl (Or.inl rfl) (pe_ix ix_tup (pv 4) pe_int (fun _ _ => rfl))))))))))))))
abbrev s_is_upward : Stmt := (top 20)
def f_is_upward : (Str × Int × Int × Int) → Option Bool := fun order_1 => some (decide (order_1.2.2.1 < order_1.2.2.2))
abbrev A_is_upward : (Str × Int × Int × Int) → List PyData := fun x => [(eT4 eS eI eI eI) x]
abbrev N_is_upward : List Str := ["order"]
abbrev sp_is_upward (K : PySem.W.Frag) : Sp := spP K A_is_upward eB f_is_upward
def t_is_upward (K : PySem.W.Frag) : TS := (tRet (tOp (rI0 fun i j => .bl (decide (i < j))) (tOp (rIxT K) (tVar 0) (tC (.int 2))) (tOp (rIxT K) (tVar 0) (tC (.int 3)))))
theorem w_is_upward {K : PySem.W.Frag} (vs : List V) (H : Hp) (Q : VK) (E : XK) (h : sp_is_upward K vs H Q E) : t_is_upward K { nx := fun _ H' => Q .non H', rt := Q } (start N_is_upward vs) H := by
  obtain ⟨F0, cs, order_1, y, h, hS0, m, q⟩ := h
  obtain ⟨a0, _, rfl, ha0, h⟩ := Dts.hd h
  obtain rfl := Dts.no h
  unfold f_is_upward at m
  try dsimp only at m
  unfold t_is_upward
  refine go (σ' := [some a0]) rfl ?_
  refine s_ret (K := K) (d := eB (decide (order_1.2.2.1 < order_1.2.2.2))) hS0 (d_lt (d_ixT (d_var rfl ha0) d_int rfl) (d_ixT (d_var rfl ha0) d_int rfl)) (fun v6 F2 H3 g4 hS5 hv7 => ?_)
  obtain rfl := sm m
  exact q _ _ _ g4 hS5 hv7
theorem sc_is_upward : FnScope N_is_upward ["order"] (defScope s_is_upward) := ⟨rfl, rfl, rfl, by decide +kernel, rfl, by decide +kernel, by decide +kernel⟩
theorem ok_is_upward {P : Program} {w : World} {K : PySem.W.Frag} {mg : Str → Option Value} {base : Heap} (hF : Df K mg "is_upward" s_is_upward) : Ok P w K mg base 1 "is_upward" ["order"] (sp_is_upward K) := by
  obtain ⟨⟨fd, F⟩, gm⟩ := hF
  refine ⟨⟨fd, F.ok sc_is_upward (fun vs H Q E h => ?_) (fun cdv A outer s H vs Q E hr h => ⟨t_is_upward K, PSs.nox ?_, w_is_upward vs H Q E h⟩), F.bindsN fun _ _ _ _ _ _ us hl => match us, hl with | [_], _ => rfl, lk_of F⟩, F.kp, gm⟩
  · obtain ⟨F0, cs, x, y, h, _⟩ := h; exact Dts.len h
  · exact (pss_one (ps_ret (pe_cmpR op_lt (pe_ix ix_tup (pv 0) pe_int (fun _ _ => rfl)) (pe_ix ix_tup (pv 0) pe_int (fun _ _ => rfl)) (nomark _))))
abbrev s_gap_ahead : Stmt := (top 23)
def f_gap_ahead : (Str × Int × Int × Int) → Option Int := fun order_1 => (((f_is_upward order_1)).bind fun x2 => (if x2 = true then some order_1.2.2.1 else some (order_1.2.2.1 - (1 : Int))))
abbrev A_gap_ahead : (Str × Int × Int × Int) → List PyData := fun x => [(eT4 eS eI eI eI) x]
abbrev N_gap_ahead : List Str := ["order"]
abbrev sp_gap_ahead (K : PySem.W.Frag) : Sp := spP K A_gap_ahead eI f_gap_ahead
def t_gap_ahead (K : PySem.W.Frag) : TS := (tSeq (tIfS (tB (tCall (sp_is_upward K) [] E0 (tCons (tVar 0) tNil))) (tRet (tOp (rIxT K) (tVar 0) (tC (.int 2)))) tNext) (tRet (tOp (rI0 fun i j => .int (i - j)) (tOp (rIxT K) (tVar 0) (tC (.int 2))) (tC (.int 1)))))
theorem w_gap_ahead {K : PySem.W.Frag} (vs : List V) (H : Hp) (Q : VK) (E : XK) (h : sp_gap_ahead K vs H Q E) : t_gap_ahead K { nx := fun _ H' => Q .non H', rt := Q } (start N_gap_ahead vs) H := by
  obtain ⟨F0, cs, order_1, y, h, hS0, m, q⟩ := h
  obtain ⟨a0, _, rfl, ha0, h⟩ := Dts.hd h
  obtain rfl := Dts.no h
  unfold f_gap_ahead at m
  try dsimp only at m
  unfold t_gap_ahead
  refine go (σ' := [some a0]) rfl ?_
  obtain ⟨x2, k3, m⟩ := bnd m
  refine s_if (b := x2) hS0 (t_B (K := K) (d_call (A := A_is_upward) (B := eB) (x := order_1) (a_cons (d_var rfl ha0) a_nil) k3)) (fun hc F4 H5 g6 hS7 => ?_) (fun hc F14 H15 g16 hS17 => ?_)
  · rw [if_pos hc] at m
    refine s_ret (K := K) (d := eI order_1.2.2.1) hS7 (d_ixT (d_var rfl (Dt.gr g6 ha0)) d_int rfl) (fun v12 F8 H9 g10 hS11 hv13 => ?_)
    obtain rfl := sm m
    exact q _ _ _ (Gr.tr g6 g10) hS11 hv13
  · rw [if_neg (bf hc)] at m
    refine nxt ?_
    refine s_ret (K := K) (d := eI (order_1.2.2.1 - (1 : Int))) hS17 (d_sub (d_ixT (d_var rfl (Dt.gr g16 ha0)) d_int rfl) d_int) (fun v22 F18 H19 g20 hS21 hv23 => ?_)
    obtain rfl := sm m
    exact q _ _ _ (Gr.tr g16 g20) hS21 hv23
theorem sc_gap_ahead : FnScope N_gap_ahead ["order"] (defScope s_gap_ahead) := ⟨rfl, rfl, rfl, by decide +kernel, rfl, by decide +kernel, by decide +kernel⟩
theorem ok_gap_ahead {P : Program} {w : World} {K : PySem.W.Frag} {mg : Str → Option Value} {base : Heap} (hF : Df K mg "gap_ahead" s_gap_ahead) (o_is_upward : Ok P w K mg base 1 "is_upward" ["order"] (sp_is_upward K)) : Ok P w K mg base 2 "gap_ahead" ["order"] (sp_gap_ahead K) := by
  obtain ⟨⟨_, G_is_upward, bd_is_upward, _⟩, kp_is_upward, gm_is_upward⟩ := o_is_upward
  obtain ⟨⟨fd, F⟩, gm⟩ := hF
  refine ⟨⟨fd, F.ok sc_gap_ahead (fun vs H Q E h => ?_) (fun cdv A outer s H vs Q E hr h => ⟨t_gap_ahead K, PSs.nox ?_, w_gap_ahead vs H Q E h⟩), F.bindsN fun _ _ _ _ _ _ us hl => match us, hl with | [_], _ => rfl, lk_of F⟩, F.kp, gm⟩
  · obtain ⟨F0, cs, x, y, h, _⟩ := h; exact Dts.len h
  · exact (pss_cons (ps_if (pt_val (pe_call G_is_upward (hr.mono (by decide)) (by rfl) gm_is_upward kp_is_upward bd_is_upward .nil pass0 (pa_cons (pv 0) pa_nil))) (pss_one (ps_ret (pe_ix ix_tup (pv 0) pe_int (fun _ _ => rfl)))) pss_nil) (pss_one (ps_ret (pe_op op_sub (pe_ix ix_tup (pv 0) pe_int (fun _ _ => rfl)) pe_int))))
abbrev s_goes_over : Stmt := (top 24)
def f_goes_over : ((Str × Int × Int × Int) × Int × Bool) → Option Bool := fun (order_1, gap_2, upward_3) => (((f_is_upward order_1)).bind fun x4 => (if (!decide (x4 = upward_3)) = true then some false else some (decide ((minI order_1.2.2.1 order_1.2.2.2) ≤ gap_2) && decide (gap_2 < (maxI order_1.2.2.1 order_1.2.2.2)))))
abbrev A_goes_over : ((Str × Int × Int × Int) × Int × Bool) → List PyData := fun x => [(eT4 eS eI eI eI) x.1, eI x.2.1, eB x.2.2]
abbrev N_goes_over : List Str := ["order", "gap", "upward"]
abbrev sp_goes_over (K : PySem.W.Frag) : Sp := spP K A_goes_over eB f_goes_over
def t_goes_over (K : PySem.W.Frag) : TS := (tSeq (tIfS (tTest (tOp rNe (tCall (sp_is_upward K) [] E0 (tCons (tVar 0) tNil)) (tVar 2))) (tRet (tC (.bl false))) tNext) (tRet (tChain (rI0 fun i j => .bl (decide (i ≤ j))) (rI0 fun i j => .bl (decide (i < j))) (tCB rMin2 (tCons (tOp (rIxT K) (tVar 0) (tC (.int 2))) (tCons (tOp (rIxT K) (tVar 0) (tC (.int 3))) tNil))) (tVar 1) (tCB rMax2 (tCons (tOp (rIxT K) (tVar 0) (tC (.int 2))) (tCons (tOp (rIxT K) (tVar 0) (tC (.int 3))) tNil))))))
theorem w_goes_over {K : PySem.W.Frag} (vs : List V) (H : Hp) (Q : VK) (E : XK) (h : sp_goes_over K vs H Q E) : t_goes_over K { nx := fun _ H' => Q .non H', rt := Q } (start N_goes_over vs) H := by
  obtain ⟨F0, cs, ⟨order_1, gap_2, upward_3⟩, y, h, hS0, m, q⟩ := h
  obtain ⟨a0, _, rfl, ha0, h⟩ := Dts.hd h
  obtain ⟨a1, _, rfl, ha1, h⟩ := Dts.hd h
  obtain ⟨a2, _, rfl, ha2, h⟩ := Dts.hd h
  obtain rfl := Dts.no h
  obtain rfl := Dt.toInt ha1
  obtain rfl := Dt.toBl ha2
  unfold f_goes_over at m
  try dsimp only at m
  unfold t_goes_over
  refine go (σ' := [some a0, some (.int gap_2), some (.bl upward_3)]) rfl ?_
  obtain ⟨x4, k5, m⟩ := bnd m
  refine s_if (b := (!decide (x4 = upward_3))) hS0 (t_test (K := K) (d_neB (d_call (A := A_is_upward) (B := eB) (x := order_1) (a_cons (d_var rfl ha0) a_nil) k5) (d_var rfl (.bl _)))) (fun hc F6 H7 g8 hS9 => ?_) (fun hc F16 H17 g18 hS19 => ?_)
  · rw [if_pos hc] at m
    refine s_ret (K := K) (d := eB false) hS9 d_bl (fun v14 F10 H11 g12 hS13 hv15 => ?_)
    obtain rfl := sm m
    exact q _ _ _ (Gr.tr g8 g12) hS13 hv15
  · rw [if_neg (bf hc)] at m
    refine nxt ?_
    refine s_ret (K := K) (d := eB (decide ((minI order_1.2.2.1 order_1.2.2.2) ≤ gap_2) && decide (gap_2 < (maxI order_1.2.2.1 order_1.2.2.2)))) hS19 (d_chain (d_min2 (a_cons (d_ixT (d_var rfl (Dt.gr g18 ha0)) d_int rfl) (a_cons (d_ixT (d_var rfl (Dt.gr g18 ha0)) d_int rfl) a_nil))) (d_var rfl (.int _)) (d_max2 (a_cons (d_ixT (d_var rfl (Dt.gr g18 ha0)) d_int rfl) (a_cons (d_ixT (d_var rfl (Dt.gr g18 ha0)) d_int rfl) a_nil)))) (fun v24 F20 H21 g22 hS23 hv25 => ?_)
    obtain rfl := sm m
    exact q _ _ _ (Gr.tr g18 g22) hS23 hv25
theorem sc_goes_over : FnScope N_goes_over ["order", "gap", "upward"] (defScope s_goes_over) := ⟨rfl, rfl, rfl, by decide +kernel, rfl, by decide +kernel, by decide +kernel⟩
theorem ok_goes_over {P : Program} {w : World} {K : PySem.W.Frag} {mg : Str → Option Value} {base : Heap} (hF : Df K mg "goes_over" s_goes_over) (m_max : mg "max" = none) (m_min : mg "min" = none) (o_is_upward : Ok P w K mg base 1 "is_upward" ["order"] (sp_is_upward K)) : Ok P w K mg base 2 "goes_over" ["order", "gap", "upward"] (sp_goes_over K) := by
  obtain ⟨⟨_, G_is_upward, bd_is_upward, _⟩, kp_is_upward, gm_is_upward⟩ := o_is_upward
  obtain ⟨⟨fd, F⟩, gm⟩ := hF
  refine ⟨⟨fd, F.ok sc_goes_over (fun vs H Q E h => ?_) (fun cdv A outer s H vs Q E hr h => ⟨t_goes_over K, PSs.nox ?_, w_goes_over vs H Q E h⟩), F.bindsN fun _ _ _ _ _ _ us hl => match us, hl with | [_, _, _], _ => rfl, lk_of F⟩, F.kp, gm⟩
  · obtain ⟨F0, cs, x, y, h, _⟩ := h; exact Dts.len h
  · exact (pss_cons (ps_if (pt_cmpR op_ne (pe_call G_is_upward (hr.mono (by decide)) (by rfl) gm_is_upward kp_is_upward bd_is_upward .nil pass0 (pa_cons (pv 0) pa_nil)) (pv 2) (nomark _)) (pss_one (ps_ret pe_bl)) pss_nil) (pss_one (ps_ret (pe_chain op_le op_lt (pe_callB (cr_min2 rfl) (by rfl) m_min (by decide +kernel) (pa_cons (pe_ix ix_tup (pv 0) pe_int (fun _ _ => rfl)) (pa_cons (pe_ix ix_tup (pv 0) pe_int (fun _ _ => rfl)) pa_nil))) (pv 1) (pe_callB (cr_max2 rfl) (by rfl) m_max (by decide +kernel) (pa_cons (pe_ix ix_tup (pv 0) pe_int (fun _ _ => rfl)) (pa_cons (pe_ix ix_tup (pv 0) pe_int (fun _ _ => rfl)) pa_nil)))))))
abbrev s_crowd_of : Stmt := (top 25)
def f_crowd_of : (((List Int) × Int) × (List (Str × Int × Int × Int)) × Int) → Option Int := fun (aisle_1, orders_2, number_3) => (((f_look_at_orders (aisle_1, orders_2))).bind fun x4 => (((atI orders_2 number_3)).bind fun x10 => (((f_gap_ahead x10)).bind fun x18 => (((lcC (fun one_24 => (((f_is_upward x10)).bind fun x35 => ((f_goes_over (one_24, x18, x35))).bind fun x37 => if x37 = true then (some (some one_24)) else some none)) orders_2)).bind fun x39 => some (x39.length : Int)))))
abbrev A_crowd_of : (((List Int) × Int) × (List (Str × Int × Int × Int)) × Int) → List PyData := fun x => [(eT2 (eL eI) eI) x.1, (eL (eT4 eS eI eI eI)) x.2.1, eI x.2.2]
abbrev N_crowd_of : List Str := ["aisle", "orders", "number", "order", "gap", "one"]
abbrev sp_crowd_of (K : PySem.W.Frag) : Sp := spP K A_crowd_of eI f_crowd_of
def t_crowd_of (K : PySem.W.Frag) : TS := (tSeq (tDrop (tCall (sp_look_at_orders K) [] E0 (tCons (tVar 0) (tCons (tVar 1) tNil)))) (tSeq (tAsg (tOp (rIxL K) (tVar 1) (tVar 2)) (gName 3)) (tSeq (tAsg (tCall (sp_gap_ahead K) [] E0 (tCons (tVar 3) tNil)) (gName 4)) (tRet (tCB (rLenL K) (tCons (tLc (iList K (tVar 1)) (gName 5) (tB (tCall (sp_goes_over K) [] E0 (tCons (tVar 5) (tCons (tVar 4) (tCons (tCall (sp_is_upward K) [] E0 (tCons (tVar 3) tNil)) tNil))))) (tVar 5) [5]) tNil))))))
theorem w_crowd_of {K : PySem.W.Frag} (vs : List V) (H : Hp) (Q : VK) (E : XK) (h : sp_crowd_of K vs H Q E) : t_crowd_of K { nx := fun _ H' => Q .non H', rt := Q } (start N_crowd_of vs) H := by
  obtain ⟨F0, cs, ⟨aisle_1, orders_2, number_3⟩, y, h, hS0, m, q⟩ := h
  obtain ⟨a0, _, rfl, ha0, h⟩ := Dts.hd h
  obtain ⟨a1, _, rfl, ha1, h⟩ := Dts.hd h
  obtain ⟨a2, _, rfl, ha2, h⟩ := Dts.hd h
  obtain rfl := Dts.no h
  obtain rfl := Dt.toInt ha2
  unfold f_crowd_of at m
  try dsimp only at m
  unfold t_crowd_of
  refine go (σ' := [some a0, some a1, some (.int number_3), none, none, none]) rfl ?_
  obtain ⟨x4, k5, m⟩ := bnd m
  refine s_drop (K := K) (d := eN x4) hS0 (d_call (A := A_look_at_orders) (B := eN) (x := (aisle_1, orders_2)) (a_cons (d_var rfl ha0) (a_cons (d_var rfl ha1) a_nil)) k5) (fun F6 H7 g8 hS9 => ?_)
  obtain ⟨x10, k11, m⟩ := bnd m
  refine s_set (K := K) (d := (eT4 eS eI eI eI) x10) (i := 3) (σ' := fun v16 => [some a0, some a1, some (.int number_3), some v16, none, none]) hS9 (d_ix (e := (eT4 eS eI eI eI)) (d_var rfl (Dt.gr g8 ha1)) (d_var rfl (.int _)) k11) (fun _ => rfl) (fun v16 F12 H13 g14 hS15 hv17 => ?_)
  obtain ⟨x18, k19, m⟩ := bnd m
  refine s_setV (K := K) (d := eI x18) (i := 4) (σ' := [some a0, some a1, some (.int number_3), some v16, some (.int x18), none]) (fun _ _ h => Dt.toInt h) hS15 (d_call (A := A_gap_ahead) (B := eI) (x := x10) (a_cons (d_var rfl hv17) a_nil) k19) rfl (fun F20 H21 g22 hS23 => ?_)
  obtain ⟨x39, k40, m⟩ := bnd m
  refine s_ret (K := K) (d := eI (x39.length : Int)) hS23 (d_len (e := (eT4 eS eI eI eI)) (a_cons (EvC.dd (c_lcC (K := K) (f := (fun one_24 => (((f_is_upward x10)).bind fun x35 => ((f_goes_over (one_24, x18, x35))).bind fun x37 => if x37 = true then (some (some one_24)) else some none))) (em := (eT4 eS eI eI eI)) (i_list (en := (eT4 eS eI eI eI)) (d_var rfl (Dt.gr (Gr.tr g8 (Gr.tr g14 g22)) ha1))) k40 (fun one_24 o31 v32 F25 p26 us27 g28 hv29 ho30 => by obtain ⟨x35, k36, ho30⟩ := bnd ho30; obtain ⟨x37, k38, ho30⟩ := bnd ho30; by_cases hc : x37 = true; (rw [if_pos hc] at ho30; obtain rfl := sm ho30; refine ⟨[some a0, some a1, some (.int number_3), some v16, some (.int x18), some v32], fun H34 Q hS33 hq => (fun Q hq => hq) Q hq, rfl, ?_, ?_⟩; (rw [show (some one_24).isSome = x37 from hc.symm]; exact (t_B (K := K) (d_call (A := A_goes_over) (B := eB) (x := (one_24, x18, x35)) (a_cons (d_var rfl hv29) (a_cons (d_var rfl (.int _)) (a_cons (d_call (A := A_is_upward) (B := eB) (x := x10) (a_cons (d_var rfl (Dt.gr (Gr.tr g22 g28) hv17)) a_nil) k36) a_nil))) k38))); (intro y hy; obtain rfl := sm hy; exact (d_var rfl hv29))); (rw [if_neg hc] at ho30; obtain rfl := sm ho30; refine ⟨[some a0, some a1, some (.int number_3), some v16, some (.int x18), some v32], fun H34 Q hS33 hq => (fun Q hq => hq) Q hq, rfl, ?_, ?_⟩; (rw [show (none : Option (Str × Int × Int × Int)).isSome = x37 from (bt hc).symm]; exact (t_B (K := K) (d_call (A := A_goes_over) (B := eB) (x := (one_24, x18, x35)) (a_cons (d_var rfl hv29) (a_cons (d_var rfl (.int _)) (a_cons (d_call (A := A_is_upward) (B := eB) (x := x10) (a_cons (d_var rfl (Dt.gr (Gr.tr g22 g28) hv17)) a_nil) k36) a_nil))) k38))); (intro y hy; cases hy))))) a_nil)) (fun v45 F41 H42 g43 hS44 hv46 => ?_)
  obtain rfl := sm m
  exact q _ _ _ (Gr.tr g8 (Gr.tr g14 (Gr.tr g22 g43))) hS44 hv46
theorem sc_crowd_of : FnScope N_crowd_of ["aisle", "orders", "number"] (defScope s_crowd_of) := ⟨rfl, rfl, rfl, by decide +kernel, rfl, by decide +kernel, by decide +kernel⟩
theorem ok_crowd_of {P : Program} {w : World} {K : PySem.W.Frag} {mg : Str → Option Value} {base : Heap} (hF : Df K mg "crowd_of" s_crowd_of) (m_len : mg "len" = none) (o_goes_over : Ok P w K mg base 2 "goes_over" ["order", "gap", "upward"] (sp_goes_over K)) (o_is_upward : Ok P w K mg base 1 "is_upward" ["order"] (sp_is_upward K)) (o_gap_ahead : Ok P w K mg base 2 "gap_ahead" ["order"] (sp_gap_ahead K)) (o_look_at_orders : Ok P w K mg base 4 "look_at_orders" ["aisle", "thing"] (sp_look_at_orders K)) : Ok P w K mg base 5 "crowd_of" ["aisle", "orders", "number"] (sp_crowd_of K) := by
  obtain ⟨⟨_, G_goes_over, bd_goes_over, _⟩, kp_goes_over, gm_goes_over⟩ := o_goes_over
  obtain ⟨⟨_, G_is_upward, bd_is_upward, _⟩, kp_is_upward, gm_is_upward⟩ := o_is_upward
  obtain ⟨⟨_, G_gap_ahead, bd_gap_ahead, _⟩, kp_gap_ahead, gm_gap_ahead⟩ := o_gap_ahead
  obtain ⟨⟨_, G_look_at_orders, bd_look_at_orders, _⟩, kp_look_at_orders, gm_look_at_orders⟩ := o_look_at_orders
  obtain ⟨⟨fd, F⟩, gm⟩ := hF
  refine ⟨⟨fd, F.ok sc_crowd_of (fun vs H Q E h => ?_) (fun cdv A outer s H vs Q E hr h => ⟨t_crowd_of K, PSs.nox ?_, w_crowd_of vs H Q E h⟩), F.bindsN fun _ _ _ _ _ _ us hl => match us, hl with | [_, _, _], _ => rfl, lk_of F⟩, F.kp, gm⟩
  · obtain ⟨F0, cs, x, y, h, _⟩ := h; exact Dts.len h
  · exact (pss_cons (ps_expr (pe_call G_look_at_orders (hr.mono (by decide)) (by rfl) gm_look_at_orders kp_look_at_orders bd_look_at_orders .nil pass0 (pa_cons (pv 0) (pa_cons (pv 1) pa_nil)))) (pss_cons (ps_set (i := 3) sc_crowd_of.nd rfl (Or.inr rfl) (pe_ix ix_list (pv 1) (pv 2) (fun _ _ => rfl))) (pss_cons (ps_set (i := 4) sc_crowd_of.nd rfl (Or.inr rfl) (pe_call G_gap_ahead (hr.mono (by decide)) (by rfl) gm_gap_ahead kp_gap_ahead bd_gap_ahead .nil pass0 (pa_cons (pv 3) pa_nil))) (pss_one (ps_ret (pe_callB cr_lenL (by rfl) m_len PySem.boot_len (pa_cons (pe_lc (own := [("one", 5)]) (g := (gName 5)) (tt := (tB (tCall (sp_goes_over K) [] E0 (tCons (tVar 5) (tCons (tVar 4) (tCons (tCall (sp_is_upward K) [] E0 (tCons (tVar 3) tNil)) tNil)))))) (te := (tVar 5)) (by rfl) sc_crowd_of.nd (pi_list (pv 1)) (blkOk_by (own := [("one", 5)]) (N := N_crowd_of) (sc := defScope s_crowd_of) (by decide +kernel)) (fun _ _ _ _ _ => (pg_name (i := 5) sc_crowd_of.nd rfl (Or.inl rfl))) (fun _ _ _ _ _ => (pts_one (pt_val (pe_call G_goes_over (hr.mono (by decide)) (by rfl) gm_goes_over kp_goes_over bd_goes_over .nil pass0 (pa_cons (pv 5) (pa_cons (pv 4) (pa_cons (pe_call G_is_upward (hr.mono (by decide)) (by rfl) gm_is_upward kp_is_upward bd_is_upward .nil pass0 (pa_cons (pv 3) pa_nil)) pa_nil))))))) (fun _ _ _ _ _ => (pv 5))) pa_nil)))))))
abbrev s_round_of : Stmt := (top 21)
def f_round_of : ((List Int) × Int) → Option Int := fun aisle_1 => some ((2 : Int) * (aisle_1.1).sum)
abbrev A_round_of : ((List Int) × Int) → List PyData := fun x => [(eT2 (eL eI) eI) x]
abbrev N_round_of : List Str := ["aisle"]
abbrev sp_round_of (K : PySem.W.Frag) : Sp := spP K A_round_of eI f_round_of
def t_round_of (K : PySem.W.Frag) : TS := (tRet (tOp (rI CMul fun i j => .int (i * j)) (tC (.int 2)) (tCB (rSum K) (tCons (tOp (rIxT K) (tVar 0) (tC (.int 0))) tNil))))
theorem w_round_of {K : PySem.W.Frag} (vs : List V) (H : Hp) (Q : VK) (E : XK) (h : sp_round_of K vs H Q E) : t_round_of K { nx := fun _ H' => Q .non H', rt := Q } (start N_round_of vs) H := by
  obtain ⟨F0, cs, aisle_1, y, h, hS0, m, q⟩ := h
  obtain ⟨a0, _, rfl, ha0, h⟩ := Dts.hd h
  obtain rfl := Dts.no h
  unfold f_round_of at m
  try dsimp only at m
  unfold t_round_of
  refine go (σ' := [some a0]) rfl ?_
  refine s_ret (K := K) (d := eI ((2 : Int) * (aisle_1.1).sum)) hS0 (d_mulC d_int (d_sum (a_cons (d_ixT (d_var rfl ha0) d_int rfl) a_nil)) (.inl ⟨by decide, by decide⟩)) (fun v6 F2 H3 g4 hS5 hv7 => ?_)
  obtain rfl := sm m
  exact q _ _ _ g4 hS5 hv7
theorem sc_round_of : FnScope N_round_of ["aisle"] (defScope s_round_of) := ⟨rfl, rfl, rfl, by decide +kernel, rfl, by decide +kernel, by decide +kernel⟩
theorem ok_round_of {P : Program} {w : World} {K : PySem.W.Frag} {mg : Str → Option Value} {base : Heap} (hF : Df K mg "round_of" s_round_of) (m_sum : mg "sum" = none) : Ok P w K mg base 1 "round_of" ["aisle"] (sp_round_of K) := by
  obtain ⟨⟨fd, F⟩, gm⟩ := hF
  refine ⟨⟨fd, F.ok sc_round_of (fun vs H Q E h => ?_) (fun cdv A outer s H vs Q E hr h => ⟨t_round_of K, PSs.nox ?_, w_round_of vs H Q E h⟩), F.bindsN fun _ _ _ _ _ _ us hl => match us, hl with | [_], _ => rfl, lk_of F⟩, F.kp, gm⟩
  · obtain ⟨F0, cs, x, y, h, _⟩ := h; exact Dts.len h
  · exact (pss_one (ps_ret (pe_op op_mul pe_int (pe_callB (cr_sum rfl) (by rfl) m_sum (by decide +kernel) (pa_cons (pe_ix ix_tup (pv 0) pe_int (fun _ _ => rfl)) pa_nil)))))
abbrev s_bound_of : Stmt := (top 26)
def f_bound_of : (((List Int) × Int) × (List (Str × Int × Int × Int)) × Int) → Option Int := fun (aisle_1, orders_2, number_3) => (((f_crowd_of (aisle_1, orders_2, number_3))).bind fun x4 => (((atI orders_2 number_3)).bind fun x10 => ((fdivM (x4 - (1 : Int)) aisle_1.2)).bind fun x12 => ((f_round_of aisle_1)).bind fun x14 => ((mulM ((2 : Int) + x12) x14)).bind fun x16 => some (x10.2.1 + x16)))
abbrev A_bound_of : (((List Int) × Int) × (List (Str × Int × Int × Int)) × Int) → List PyData := fun x => [(eT2 (eL eI) eI) x.1, (eL (eT4 eS eI eI eI)) x.2.1, eI x.2.2]
abbrev N_bound_of : List Str := ["aisle", "orders", "number", "crowd"]
abbrev sp_bound_of (K : PySem.W.Frag) : Sp := spP K A_bound_of eI f_bound_of
def t_bound_of (K : PySem.W.Frag) : TS := (tSeq (tAsg (tCall (sp_crowd_of K) [] E0 (tCons (tVar 0) (tCons (tVar 1) (tCons (tVar 2) tNil)))) (gName 3)) (tRet (tOp (rI0 fun i j => .int (i + j)) (tOp (rIxT K) (tOp (rIxL K) (tVar 1) (tVar 2)) (tC (.int 1))) (tOp (rI CMul fun i j => .int (i * j)) (tOp (rI0 fun i j => .int (i + j)) (tC (.int 2)) (tOp (rI CDiv fun i j => .int (i / j)) (tOp (rI0 fun i j => .int (i - j)) (tVar 3) (tC (.int 1))) (tOp (rIxT K) (tVar 0) (tC (.int 1))))) (tCall (sp_round_of K) [] E0 (tCons (tVar 0) tNil))))))
theorem w_bound_of {K : PySem.W.Frag} (vs : List V) (H : Hp) (Q : VK) (E : XK) (h : sp_bound_of K vs H Q E) : t_bound_of K { nx := fun _ H' => Q .non H', rt := Q } (start N_bound_of vs) H := by
  obtain ⟨F0, cs, ⟨aisle_1, orders_2, number_3⟩, y, h, hS0, m, q⟩ := h
  obtain ⟨a0, _, rfl, ha0, h⟩ := Dts.hd h
  obtain ⟨a1, _, rfl, ha1, h⟩ := Dts.hd h
  obtain ⟨a2, _, rfl, ha2, h⟩ := Dts.hd h
  obtain rfl := Dts.no h
  obtain rfl := Dt.toInt ha2
  unfold f_bound_of at m
  try dsimp only at m
  unfold t_bound_of
  refine go (σ' := [some a0, some a1, some (.int number_3), none]) rfl ?_
  obtain ⟨x4, k5, m⟩ := bnd m
  refine s_setV (K := K) (d := eI x4) (i := 3) (σ' := [some a0, some a1, some (.int number_3), some (.int x4)]) (fun _ _ h => Dt.toInt h) hS0 (d_call (A := A_crowd_of) (B := eI) (x := (aisle_1, orders_2, number_3)) (a_cons (d_var rfl ha0) (a_cons (d_var rfl ha1) (a_cons (d_var rfl (.int _)) a_nil))) k5) rfl (fun F6 H7 g8 hS9 => ?_)
  obtain ⟨x10, k11, m⟩ := bnd m
  obtain ⟨x12, k13, m⟩ := bnd m
  obtain ⟨x14, k15, m⟩ := bnd m
  obtain ⟨x16, k17, m⟩ := bnd m
  refine s_ret (K := K) (d := eI (x10.2.1 + x16)) hS9 (d_add (d_ixT (d_ix (e := (eT4 eS eI eI eI)) (d_var rfl (Dt.gr g8 ha1)) (d_var rfl (.int _)) k11) d_int rfl) (d_mul (d_add d_int (d_fdiv (d_sub (d_var rfl (.int _)) d_int) (d_ixT (d_var rfl (Dt.gr g8 ha0)) d_int rfl) k13)) (d_call (A := A_round_of) (B := eI) (x := aisle_1) (a_cons (d_var rfl (Dt.gr g8 ha0)) a_nil) k15) k17)) (fun v22 F18 H19 g20 hS21 hv23 => ?_)
  obtain rfl := sm m
  exact q _ _ _ (Gr.tr g8 g20) hS21 hv23
theorem sc_bound_of : FnScope N_bound_of ["aisle", "orders", "number"] (defScope s_bound_of) := ⟨rfl, rfl, rfl, by decide +kernel, rfl, by decide +kernel, by decide +kernel⟩
theorem ok_bound_of {P : Program} {w : World} {K : PySem.W.Frag} {mg : Str → Option Value} {base : Heap} (hF : Df K mg "bound_of" s_bound_of) (o_round_of : Ok P w K mg base 1 "round_of" ["aisle"] (sp_round_of K)) (o_crowd_of : Ok P w K mg base 5 "crowd_of" ["aisle", "orders", "number"] (sp_crowd_of K)) : Ok P w K mg base 6 "bound_of" ["aisle", "orders", "number"] (sp_bound_of K) := by
  obtain ⟨⟨_, G_round_of, bd_round_of, _⟩, kp_round_of, gm_round_of⟩ := o_round_of
  obtain ⟨⟨_, G_crowd_of, bd_crowd_of, _⟩, kp_crowd_of, gm_crowd_of⟩ := o_crowd_of
  obtain ⟨⟨fd, F⟩, gm⟩ := hF
  refine ⟨⟨fd, F.ok sc_bound_of (fun vs H Q E h => ?_) (fun cdv A outer s H vs Q E hr h => ⟨t_bound_of K, PSs.nox ?_, w_bound_of vs H Q E h⟩), F.bindsN fun _ _ _ _ _ _ us hl => match us, hl with | [_, _, _], _ => rfl, lk_of F⟩, F.kp, gm⟩
  · obtain ⟨F0, cs, x, y, h, _⟩ := h; exact Dts.len h
  · exact (pss_cons (ps_set (i := 3) sc_bound_of.nd rfl (Or.inl rfl) (pe_call G_crowd_of (hr.mono (by decide)) (by rfl) gm_crowd_of kp_crowd_of bd_crowd_of .nil pass0 (pa_cons (pv 0) (pa_cons (pv 1) (pa_cons (pv 2) pa_nil))))) (pss_one (ps_ret (pe_op op_add (pe_ix ix_tup (pe_ix ix_list (pv 1) (pv 2) (fun _ _ => rfl)) pe_int (fun _ _ => rfl)) (pe_op op_mul (pe_op op_add pe_int (pe_op op_fdiv (pe_op op_sub (pv 3) pe_int) (pe_ix ix_tup (pv 0) pe_int (fun _ _ => rfl)))) (pe_call G_round_of (hr.mono (by decide)) (by rfl) gm_round_of kp_round_of bd_round_of .nil pass0 (pa_cons (pv 0) pa_nil)))))))
abbrev s_right : Stmt := (top 35)
def f_right_t65 (aisle_here_1 : ((List Int) × Int)) : (Int × Int) → Option Bool := fun (left_68, rounds_69) => (some (decide (aisle_here_1.2 ≤ left_68)))
def f_right_w65 (aisle_here_1 : ((List Int) × Int)) : (Int × Int) → Option (Fl (Int × Int) Bool) := fun (left_85, rounds_86) => (letM (left_85 - aisle_here_1.2) fun left_105 => (letM (rounds_86 + (1 : Int)) fun rounds_111 => some (Fl.nx (left_105, rounds_111))))
def f_right : (((List Int) × Int) × (List (Str × Int × Int × Int)) × Int × ((List Int) × (List Int))) → Option Bool := fun (aisle_here_1, orders_here_2, number_3, crowds_here_4) => (((atI orders_here_2 number_3)).bind fun x5 => letM x5.2.2.1 fun at_13 => letM x5.2.2.2 fun to_15 => (letM crowds_here_4.1 fun ups_33 => letM crowds_here_4.2 fun downs_35 => ((if (decide (at_13 < to_15)) = true then (((atI ups_33 at_13)).bind fun x164 => some x164) else (((atI downs_35 (at_13 - (1 : Int)))).bind fun x174 => some x174))).bind fun crowd_43 => (letM (crowd_43 - (1 : Int)) fun left_63 => (whileF (f_right_t65 aisle_here_1) (f_right_w65 aisle_here_1) fuel (left_63, (2 : Int))).bind fun r66 => match r66 with | .nx (left_120, rounds_121) => (((mulM (rounds_121 * (2 : Int)) (aisle_here_1.1).sum)).bind fun x123 => letM (x5.2.1 + x123) fun bound_129 => (((f_crowd_of (aisle_here_1, orders_here_2, number_3))).bind fun x131 => ((f_is_number (x131, crowd_43))).bind fun x133 => (if (!x133) = true then some false else (((f_bound_of (aisle_here_1, orders_here_2, number_3))).bind fun x149 => ((f_is_number (x149, bound_129))).bind fun x151 => some x151)))) | .br _ => none | .rt z159 => some z159)))
abbrev A_right : (((List Int) × Int) × (List (Str × Int × Int × Int)) × Int × ((List Int) × (List Int))) → List PyData := fun x => [(eT2 (eL eI) eI) x.1, (eL (eT4 eS eI eI eI)) x.2.1, eI x.2.2.1, (eT2 (eL eI) (eL eI)) x.2.2.2]
abbrev N_right : List Str := ["_law_aisle_here", "_law_orders_here", "_law_number", "_law_crowds_here", "_law_rounds", "_law_left", "_law_bound", "_law_name_here", "_law_tick", "_law_at", "_law_to", "_law_ups", "_law_downs", "_law_crowd"]
abbrev sp_right (K : PySem.W.Frag) : Sp := spP K A_right eB f_right
def t_right (K : PySem.W.Frag) : TS := (tSeq (tAsg (tOp (rIxL K) (tVar 1) (tVar 2)) (gTup K 4 (gCons (gName 7) (gCons (gName 8) (gCons (gName 9) (gCons (gName 10) gNil)))))) (tSeq (tAsg (tVar 3) (gTup K 2 (gCons (gName 11) (gCons (gName 12) gNil)))) (tSeq (tIfS (tTest (tOp (rI0 fun i j => .bl (decide (i < j))) (tVar 9) (tVar 10))) (tAsg (tOp (rIxL K) (tVar 11) (tVar 9)) (gName 13)) (tAsg (tOp (rIxL K) (tVar 12) (tOp (rI0 fun i j => .int (i - j)) (tVar 9) (tC (.int 1)))) (gName 13))) (tSeq (tAsg (tC (.int 2)) (gName 4)) (tSeq (tAsg (tOp (rI0 fun i j => .int (i - j)) (tVar 13) (tC (.int 1))) (gName 5)) (tSeq (tWhile (tTest (tOp (rI0 fun i j => .bl (decide (j ≤ i))) (tVar 5) (tOp (rIxT K) (tVar 0) (tC (.int 1))))) (tSeq (tAsg (tOp (rI0 fun i j => .int (i - j)) (tVar 5) (tOp (rIxT K) (tVar 0) (tC (.int 1)))) (gName 5)) (tAsg (tOp (rI0 fun i j => .int (i + j)) (tVar 4) (tC (.int 1))) (gName 4)))) (tSeq (tAsg (tOp (rI0 fun i j => .int (i + j)) (tVar 8) (tOp (rI CMul fun i j => .int (i * j)) (tOp (rI CMul fun i j => .int (i * j)) (tVar 4) (tC (.int 2))) (tCB (rSum K) (tCons (tOp (rIxT K) (tVar 0) (tC (.int 0))) tNil)))) (gName 6)) (tSeq (tIfS (tNot (tB (tCall (sp_is_number K) [] E0 (tCons (tCall (sp_crowd_of K) [] E0 (tCons (tVar 0) (tCons (tVar 1) (tCons (tVar 2) tNil)))) (tCons (tVar 13) tNil))))) (tRet (tC (.bl false))) tNext) (tRet (tCall (sp_is_number K) [] E0 (tCons (tCall (sp_bound_of K) [] E0 (tCons (tVar 0) (tCons (tVar 1) (tCons (tVar 2) tNil)))) (tCons (tVar 6) tNil))))))))))))
theorem w_right {K : PySem.W.Frag} (vs : List V) (H : Hp) (Q : VK) (E : XK) (h : sp_right K vs H Q E) : t_right K { nx := fun _ H' => Q .non H', rt := Q } (start N_right vs) H := by
  obtain ⟨F0, cs, ⟨aisle_here_1, orders_here_2, number_3, crowds_here_4⟩, y, h, hS0, m, q⟩ := h
  obtain ⟨a0, _, rfl, ha0, h⟩ := Dts.hd h
  obtain ⟨a1, _, rfl, ha1, h⟩ := Dts.hd h
  obtain ⟨a2, _, rfl, ha2, h⟩ := Dts.hd h
  obtain ⟨a3, _, rfl, ha3, h⟩ := Dts.hd h
  obtain rfl := Dts.no h
  obtain rfl := Dt.toInt ha2
  unfold f_right at m
  try dsimp only at m
  unfold t_right
  refine go (σ' := [some a0, some a1, some (.int number_3), some a3, none, none, none, none, none, none, none, none, none, none]) rfl ?_
  obtain ⟨x5, k6, m⟩ := bnd m
  refine s_asg (K := K) (d := (eT4 eS eI eI eI) x5) hS0 (d_ix (e := (eT4 eS eI eI eI)) (d_var rfl ha1) (d_var rfl (.int _)) k6) (fun v11 F7 H8 g9 hS10 hv12 => ?_)
  obtain ⟨at_13, k14, m⟩ := lt m
  obtain ⟨to_15, k16, m⟩ := lt m
  obtain ⟨p17, w19, w20, w21, w22, rfl, hT18, hw23, hw24, hw25, hw26⟩ := u4 hv12
  obtain rfl := Dt.toStr hw23
  obtain rfl := Dt.toInt hw24
  rw [k14] at hw25
  obtain rfl := Dt.toInt hw25
  rw [k16] at hw26
  obtain rfl := Dt.toInt hw26
  refine tg (σ' := [some a0, some a1, some (.int number_3), some a3, none, none, none, some (.str x5.1), some (.int x5.2.1), some (.int at_13), some (.int to_15), none, none, none]) (fun Q hq => ⟨p17, [_, _, _, _], rfl, gr_T hS10.fr hT18, rfl, _, _, rfl, _, _, rfl, _, _, rfl, _, _, rfl, rfl, hq⟩) ?_
  refine s_asg (K := K) (d := (eT2 (eL eI) (eL eI)) crowds_here_4) hS10 (d_var rfl (Dt.gr g9 ha3)) (fun v31 F27 H28 g29 hS30 hv32 => ?_)
  obtain ⟨ups_33, k34, m⟩ := lt m
  obtain ⟨downs_35, k36, m⟩ := lt m
  obtain ⟨p37, w39, w40, rfl, hT38, hw41, hw42⟩ := u2 hv32
  rw [k34] at hw41
  rw [k36] at hw42
  refine tg (σ' := [some a0, some a1, some (.int number_3), some a3, none, none, none, some (.str x5.1), some (.int x5.2.1), some (.int at_13), some (.int to_15), some w39, some w40, none]) (fun Q hq => ⟨p37, [_, _], rfl, gr_T hS30.fr hT38, rfl, _, _, rfl, _, _, rfl, rfl, hq⟩) ?_
  obtain ⟨crowd_43, k45, m⟩ := bnd m
  refine s_ifJ (b := (decide (at_13 < to_15))) (fun σ H => ∃ (F : Hp) (c : Cs), Gr F27 F ∧ Sta F c H ∧ ∃ (j4 : Option V) (j5 : Option V) (j6 : Option V), σ = [some a0, some a1, some (.int number_3), some a3, j4, j5, j6, some (.str x5.1), some (.int x5.2.1), some (.int at_13), some (.int to_15), some w39, some w40, some (.int crowd_43)] ∧ cs = c) hS30 (t_test (K := K) (d_lt (d_var rfl (.int _)) (d_var rfl (.int _)))) ?_ (fun jn44 hc F160 H161 g162 hS163 => ?_) (fun jn44 hc F170 H171 g172 hS173 => ?_)
  · rintro σ51 H47 ⟨F46, c50, g48, hS49, u52, u53, u54, rfl, rfl⟩
    refine s_setV (K := K) (d := eI (2 : Int)) (i := 4) (σ' := [some a0, some a1, some (.int number_3), some a3, some (.int (2 : Int)), u53, u54, some (.str x5.1), some (.int x5.2.1), some (.int at_13), some (.int to_15), some w39, some w40, some (.int crowd_43)]) (fun _ _ h => Dt.toInt h) hS49 d_int rfl (fun F55 H56 g57 hS58 => ?_)
    obtain ⟨left_63, k64, m⟩ := lt m
    refine s_setV (K := K) (d := eI left_63) (i := 5) (σ' := [some a0, some a1, some (.int number_3), some a3, some (.int (2 : Int)), some (.int left_63), u54, some (.str x5.1), some (.int x5.2.1), some (.int at_13), some (.int to_15), some w39, some w40, some (.int crowd_43)]) (fun _ _ h => Dt.toInt h) hS58 (d_is (d_sub (d_var rfl (.int _)) d_int) (congrArg eI k64)) rfl (fun F59 H60 g61 hS62 => ?_)
    obtain ⟨r66, k67, m⟩ := bnd m
    refine s_while (c := (f_right_t65 aisle_here_1)) (body := (f_right_w65 aisle_here_1)) (s0 := (left_63, (2 : Int))) (r := r66) (n := fuel) (fun (a : Int × Int) F σ c => ∃ (j6 : Option V), σ = [some a0, some a1, some (.int number_3), some a3, some (.int a.2), some (.int a.1), j6, some (.str x5.1), some (.int x5.2.1), some (.int at_13), some (.int to_15), some w39, some w40, some (.int crowd_43)] ∧ cs = c) hS62 ⟨_, rfl, rfl⟩ k67 ?_ ?_ ?_ ?_
    · rintro ⟨left_120, rounds_121⟩ F113 σ118 c117 H114 hz119 g115 hS116 ⟨u122, rfl, rfl⟩
      rcases hz119.symm with rfl | rfl
      · cases (show (none : Option _) = some _ from m)
      try dsimp only at m
      obtain ⟨x123, k124, m⟩ := bnd m
      obtain ⟨bound_129, k130, m⟩ := lt m
      refine s_setV (K := K) (d := eI bound_129) (i := 6) (σ' := [some a0, some a1, some (.int number_3), some a3, some (.int rounds_121), some (.int left_120), some (.int bound_129), some (.str x5.1), some (.int x5.2.1), some (.int at_13), some (.int to_15), some w39, some w40, some (.int crowd_43)]) (fun _ _ h => Dt.toInt h) hS116 (d_is (d_add (d_var rfl (.int _)) (d_mul (d_mulC (d_var rfl (.int _)) d_int (.inr ⟨by decide, by decide⟩)) (d_sum (a_cons (d_ixT (d_var rfl (Dt.gr (Gr.tr g9 (Gr.tr g29 (Gr.tr g48 (Gr.tr g57 (Gr.tr g61 g115))))) ha0)) d_int rfl) a_nil)) k124)) (congrArg eI k130)) rfl (fun F125 H126 g127 hS128 => ?_)
      obtain ⟨x131, k132, m⟩ := bnd m
      obtain ⟨x133, k134, m⟩ := bnd m
      refine s_if (b := (!x133)) hS128 (t_not (t_B (K := K) (d_call (A := A_is_number) (B := eB) (x := (x131, crowd_43)) (a_cons (d_call (A := A_crowd_of) (B := eI) (x := (aisle_here_1, orders_here_2, number_3)) (a_cons (d_var rfl (Dt.gr (Gr.tr g9 (Gr.tr g29 (Gr.tr g48 (Gr.tr g57 (Gr.tr g61 (Gr.tr g115 g127)))))) ha0)) (a_cons (d_var rfl (Dt.gr (Gr.tr g9 (Gr.tr g29 (Gr.tr g48 (Gr.tr g57 (Gr.tr g61 (Gr.tr g115 g127)))))) ha1)) (a_cons (d_var rfl (.int _)) a_nil))) k132) (a_cons (d_var rfl (.int _)) a_nil)) k134))) (fun hc F135 H136 g137 hS138 => ?_) (fun hc F145 H146 g147 hS148 => ?_)
      · rw [if_pos hc] at m
        refine s_ret (K := K) (d := eB false) hS138 d_bl (fun v143 F139 H140 g141 hS142 hv144 => ?_)
        obtain rfl := sm m
        exact q _ _ _ (Gr.tr g9 (Gr.tr g29 (Gr.tr g48 (Gr.tr g57 (Gr.tr g61 (Gr.tr g115 (Gr.tr g127 (Gr.tr g137 g141)))))))) hS142 hv144
      · rw [if_neg (bf hc)] at m
        refine nxt ?_
        obtain ⟨x149, k150, m⟩ := bnd m
        obtain ⟨x151, k152, m⟩ := bnd m
        refine s_ret (K := K) (d := eB x151) hS148 (d_call (A := A_is_number) (B := eB) (x := (x149, bound_129)) (a_cons (d_call (A := A_bound_of) (B := eI) (x := (aisle_here_1, orders_here_2, number_3)) (a_cons (d_var rfl (Dt.gr (Gr.tr g9 (Gr.tr g29 (Gr.tr g48 (Gr.tr g57 (Gr.tr g61 (Gr.tr g115 (Gr.tr g127 g147))))))) ha0)) (a_cons (d_var rfl (Dt.gr (Gr.tr g9 (Gr.tr g29 (Gr.tr g48 (Gr.tr g57 (Gr.tr g61 (Gr.tr g115 (Gr.tr g127 g147))))))) ha1)) (a_cons (d_var rfl (.int _)) a_nil))) k150) (a_cons (d_var rfl (.int _)) a_nil)) k152) (fun v157 F153 H154 g155 hS156 hv158 => ?_)
        obtain rfl := sm m
        exact q _ _ _ (Gr.tr g9 (Gr.tr g29 (Gr.tr g48 (Gr.tr g57 (Gr.tr g61 (Gr.tr g115 (Gr.tr g127 (Gr.tr g147 g155)))))))) hS156 hv158
    · rintro ⟨left_68, rounds_69⟩ b74 F70 σ73 c72 g71 ⟨u76, rfl, rfl⟩ m75
      unfold f_right_t65 at m75
      try dsimp only at m75
      obtain rfl := sm m75
      exact (t_test (K := K) (d_ge (d_var rfl (.int _)) (d_ixT (d_var rfl (Dt.gr (Gr.tr g9 (Gr.tr g29 (Gr.tr g48 (Gr.tr g57 (Gr.tr g61 g71))))) ha0)) d_int rfl)))
    · rintro ⟨left_77, rounds_78⟩ F79 F80 σ83 c84 ⟨u82, rfl, rfl⟩ g81
      exact ⟨_, rfl, rfl⟩
    · rintro ⟨left_85, rounds_86⟩ b87 F88 σ89 c90 H91 N92 B93 g94 ⟨u100, rfl, rfl⟩ hS95 m96 hN97 hB98 hR99
      unfold f_right_w65 at m96
      try dsimp only at m96
      obtain ⟨left_105, k106, m96⟩ := lt m96
      refine s_setV (K := K) (d := eI left_105) (i := 5) (σ' := [some a0, some a1, some (.int number_3), some a3, some (.int rounds_86), some (.int left_105), u100, some (.str x5.1), some (.int x5.2.1), some (.int at_13), some (.int to_15), some w39, some w40, some (.int crowd_43)]) (fun _ _ h => Dt.toInt h) hS95 (d_is (d_sub (d_var rfl (.int _)) (d_ixT (d_var rfl (Dt.gr (Gr.tr g9 (Gr.tr g29 (Gr.tr g48 (Gr.tr g57 (Gr.tr g61 g94))))) ha0)) d_int rfl)) (congrArg eI k106)) rfl (fun F101 H102 g103 hS104 => ?_)
      obtain ⟨rounds_111, k112, m96⟩ := lt m96
      refine s_setV (K := K) (d := eI rounds_111) (i := 4) (σ' := [some a0, some a1, some (.int number_3), some a3, some (.int rounds_111), some (.int left_105), u100, some (.str x5.1), some (.int x5.2.1), some (.int at_13), some (.int to_15), some w39, some w40, some (.int crowd_43)]) (fun _ _ h => Dt.toInt h) hS104 (d_is (d_add (d_var rfl (.int _)) d_int) (congrArg eI k112)) rfl (fun F107 H108 g109 hS110 => ?_)
      obtain rfl := sm m96
      exact hN97 _ _ _ _ _ rfl (Gr.tr g103 g109) hS110 ⟨_, rfl, rfl⟩
  · rw [if_pos hc] at k45
    obtain ⟨x164, k165, k45⟩ := bnd k45
    refine s_setV (K := K) (d := eI x164) (i := 13) (σ' := [some a0, some a1, some (.int number_3), some a3, none, none, none, some (.str x5.1), some (.int x5.2.1), some (.int at_13), some (.int to_15), some w39, some w40, some (.int x164)]) (fun _ _ h => Dt.toInt h) hS163 (d_ix (e := eI) (d_var rfl (Dt.gr g162 hw41)) (d_var rfl (.int _)) k165) rfl (fun F166 H167 g168 hS169 => ?_)
    obtain rfl := sm k45
    exact jn44 _ _ ⟨_, _, (Gr.tr g162 g168), hS169, _, _, _, rfl, rfl⟩
  · rw [if_neg (bf hc)] at k45
    obtain ⟨x174, k175, k45⟩ := bnd k45
    refine s_setV (K := K) (d := eI x174) (i := 13) (σ' := [some a0, some a1, some (.int number_3), some a3, none, none, none, some (.str x5.1), some (.int x5.2.1), some (.int at_13), some (.int to_15), some w39, some w40, some (.int x174)]) (fun _ _ h => Dt.toInt h) hS173 (d_ix (e := eI) (d_var rfl (Dt.gr g172 hw42)) (d_sub (d_var rfl (.int _)) d_int) k175) rfl (fun F176 H177 g178 hS179 => ?_)
    obtain rfl := sm k45
    exact jn44 _ _ ⟨_, _, (Gr.tr g172 g178), hS179, _, _, _, rfl, rfl⟩
theorem sc_right : FnScope N_right ["_law_aisle_here", "_law_orders_here", "_law_number", "_law_crowds_here"] (defScope s_right) := ⟨rfl, rfl, rfl, by decide +kernel, rfl, by decide +kernel, by decide +kernel⟩
theorem ok_right {P : Program} {w : World} {K : PySem.W.Frag} {mg : Str → Option Value} {base : Heap} (hF : Df K mg "_law_right" s_right) (m_sum : mg "sum" = none) (o_is_number : Ok P w K mg base 1 "_law_is_number" ["_law_found", "_law_due"] (sp_is_number K)) (o_bound_of : Ok P w K mg base 6 "bound_of" ["aisle", "orders", "number"] (sp_bound_of K)) (o_crowd_of : Ok P w K mg base 5 "crowd_of" ["aisle", "orders", "number"] (sp_crowd_of K)) : Ok P w K mg base 7 "_law_right" ["_law_aisle_here", "_law_orders_here", "_law_number", "_law_crowds_here"] (sp_right K) := by
  obtain ⟨⟨_, G_is_number, bd_is_number, _⟩, kp_is_number, gm_is_number⟩ := o_is_number
  obtain ⟨⟨_, G_bound_of, bd_bound_of, _⟩, kp_bound_of, gm_bound_of⟩ := o_bound_of
  obtain ⟨⟨_, G_crowd_of, bd_crowd_of, _⟩, kp_crowd_of, gm_crowd_of⟩ := o_crowd_of
  obtain ⟨⟨fd, F⟩, gm⟩ := hF
  refine ⟨⟨fd, F.ok sc_right (fun vs H Q E h => ?_) (fun cdv A outer s H vs Q E hr h => ⟨t_right K, PSs.nox ?_, w_right vs H Q E h⟩), F.bindsN fun _ _ _ _ _ _ us hl => match us, hl with | [_, _, _, _], _ => rfl, lk_of F⟩, F.kp, gm⟩
  · obtain ⟨F0, cs, x, y, h, _⟩ := h; exact Dts.len h
  · exact (pss_cons (ps_asg (pe_ix ix_list (pv 1) (pv 2) (fun _ _ => rfl)) (pg_tup rfl (pgs_cons (pg_name (i := 7) sc_right.nd rfl (Or.inl rfl)) (pgs_cons (pg_name (i := 8) sc_right.nd rfl (Or.inl rfl)) (pgs_cons (pg_name (i := 9) sc_right.nd rfl (Or.inl rfl)) (pgs_cons (pg_name (i := 10) sc_right.nd rfl (Or.inl rfl)) pgs_nil)))))) (pss_cons (ps_asg (pv 3) (pg_tup rfl (pgs_cons (pg_name (i := 11) sc_right.nd rfl (Or.inl rfl)) (pgs_cons (pg_name (i := 12) sc_right.nd rfl (Or.inl rfl)) pgs_nil)))) (pss_cons (ps_if (pt_cmpR op_lt (pv 9) (pv 10) (nomark _)) (pss_one (ps_set (i := 13) sc_right.nd rfl (Or.inl rfl) (pe_ix ix_list (pv 11) (pv 9) (fun _ _ => rfl)))) (pss_one (ps_set (i := 13) sc_right.nd rfl (Or.inl rfl) (pe_ix ix_list (pv 12) (pe_op op_sub (pv 9) pe_int) (fun _ _ => rfl))))) (pss_cons (ps_set (i := 4) sc_right.nd rfl (Or.inl rfl) pe_int) (pss_cons (ps_set (i := 5) sc_right.nd rfl (Or.inl rfl) (pe_op op_sub (pv 13) pe_int)) (pss_cons (ps_while PassesOwn.never (pt_cmpR op_ge (pv 5) (pe_ix ix_tup (pv 0) pe_int (fun _ _ => rfl)) (nomark _)) (pss_cons (ps_set (i := 5) sc_right.nd rfl (Or.inl rfl) (pe_op op_sub (pv 5) (pe_ix ix_tup (pv 0) pe_int (fun _ _ => rfl)))) (pss_one (ps_set (i := 4) sc_right.nd rfl (Or.inl rfl) (pe_op op_add (pv 4) pe_int))))) (pss_cons (ps_set (i := 6) sc_right.nd rfl (Or.inl rfl) (pe_op op_add (pv 8) (pe_op op_mul (pe_op op_mul (pv 4) pe_int) (pe_callB (cr_sum rfl) (by rfl) m_sum (by decide +kernel) (pa_cons (pe_ix ix_tup (pv 0) pe_int (fun _ _ => rfl)) pa_nil))))) (pss_cons (ps_if (pt_not (pt_val (pe_call G_is_number (hr.mono (by decide)) (by rfl) gm_is_number kp_is_number bd_is_number .nil pass0 (pa_cons (pe_call G_crowd_of (hr.mono (by decide)) (by rfl) gm_crowd_of kp_crowd_of bd_crowd_of .nil pass0 (pa_cons (pv 0) (pa_cons (pv 1) (pa_cons (pv 2) pa_nil)))) (pa_cons (pv 13) pa_nil))))) (pss_one (ps_ret pe_bl)) pss_nil) (pss_one (ps_ret (pe_call G_is_number (hr.mono (by decide)) (by rfl) gm_is_number kp_is_number bd_is_number .nil pass0 (pa_cons (pe_call G_bound_of (hr.mono (by decide)) (by rfl) gm_bound_of kp_bound_of bd_bound_of .nil pass0 (pa_cons (pv 0) (pa_cons (pv 1) (pa_cons (pv 2) pa_nil)))) (pa_cons (pv 6) pa_nil)))))))))))))
abbrev s_law : Stmt := (top 36)
def f_law_b116 (aisle_here_14 : (List Int)) (aisle_here_15 : Int) (x65 : (List (Str × Int × Int × Int))) (crowds_here_91 : (List Int)) (crowds_here_92 : (List Int)) : Unit → Int → Option (Fl Unit Bool) := fun _ number_119 => (((f_right ((aisle_here_14, aisle_here_15), x65, number_119, (crowds_here_91, crowds_here_92)))).bind fun x144 => (if (!x144) = true then some (Fl.rt false) else some (Fl.nx ())))
def f_law : (List Int) → Option Bool := fun script_1 => (((f_pool (script_1, (0 : Int)))).bind fun x2 => (((f_aisle (x2, (15 : Int), (1000 : Int)))).bind fun ((aisle_here_14, aisle_here_15), pool_here_13) => (letM (aisle_here_14.length : Int) fun last_34 => (((f_take (pool_here_13, (9516 : Int)))).bind fun (x36, pool_here_38) => (((f_take (pool_here_38, (4 : Int)))).bind fun (x43, pool_here_45) => (((f_take (pool_here_45, (2 : Int)))).bind fun (x53, pool_here_55) => ((atI ([([(1 : Int), (2 : Int), (30 : Int)] : (List Int)), ([(1 : Int), (40 : Int), ((4 : Int) * (aisle_here_14).sum), (10000000 : Int)] : (List Int))] : (List (List Int))) x53)).bind fun x56 => (((f_orders (script_1, last_34, x36, x43, x56, (2 : Int)))).bind fun x65 => (letM ([((eT2 (eL eI) eI) (aisle_here_14, aisle_here_15)), ((eL (eT4 eS eI eI eI)) x65)] : (List PyData)) fun kept_84 => (((f_crowds (last_34, x65))).bind fun (crowds_here_91, crowds_here_92) => (((rngM (0 : Int) (x65.length : Int))).bind fun x114 => (forF (f_law_b116 aisle_here_14 aisle_here_15 x65 crowds_here_91 crowds_here_92) x114 ()).bind fun r117 => match r117 with | .nx _ => (((f_right ((aisle_here_14, aisle_here_15), x65, (0 : Int), (crowds_here_91, crowds_here_92)))).bind fun x176 => ((if (!x176) = true then some true else (((eqDM ((eL eD) ([((eT2 (eL eI) eI) (aisle_here_14, aisle_here_15)), ((eL (eT4 eS eI eI eI)) x65)] : (List PyData))) ((eL eD) kept_84))).bind fun x178 => some (!x178)))).bind fun x180 => (if x180 = true then some false else (((atI aisle_here_14 (0 : Int))).bind fun x201 => ((setM aisle_here_14 (0 : Int) ((x201 % (1000 : Int)) + (1 : Int)))).bind fun aisle_here_203 => ((if (decide ((1 : Int) < (x65.length : Int))) = true then (((popM x65 (0 : Int))).bind fun (x242, orders_here_240) => some orders_here_240) else some x65)).bind fun orders_here_213 => (((f_crowds (last_34, orders_here_213))).bind fun x226 => ((f_right ((aisle_here_203, aisle_here_15), orders_here_213, (0 : Int), x226))).bind fun x228 => some x228)))) | .br _ => none | .rt z253 => some z253))))))))))
abbrev A_law : (List Int) → List PyData := fun x => [(eL eI) x]
abbrev N_law : List Str := ["_law_script", "_law_pool_here", "_law_aisle_here", "_law_last", "_law_salt", "_law_style", "_law_hops", "_law_orders_here", "_law_kept", "_law_crowds_here", "_law_number"]
abbrev sp_law (K : PySem.W.Frag) : Sp := spP K A_law eB f_law
def t_law (K : PySem.W.Frag) : TS := (tSeq (tAsg (tCall (sp_pool K) [] E0 (tCons (tVar 0) (tCons (tC (.int 0)) tNil))) (gName 1)) (tSeq (tAsg (tCall (sp_aisle K) [] E0 (tCons (tVar 1) (tCons (tC (.int 15)) (tCons (tC (.int 1000)) tNil)))) (gName 2)) (tSeq (tAsg (tCB (rLenL K) (tCons (tOp (rIxT K) (tVar 2) (tC (.int 0))) tNil)) (gName 3)) (tSeq (tAsg (tCall (sp_take K) [] E0 (tCons (tVar 1) (tCons (tC (.int 9516)) tNil))) (gName 4)) (tSeq (tAsg (tCall (sp_take K) [] E0 (tCons (tVar 1) (tCons (tC (.int 4)) tNil))) (gName 5)) (tSeq (tAsg (tOp (rIxL K) (tLst (tCons (tLst (tCons (tC (.int 1)) (tCons (tC (.int 2)) (tCons (tC (.int 30)) tNil)))) (tCons (tLst (tCons (tC (.int 1)) (tCons (tC (.int 40)) (tCons (tOp (rI CMul fun i j => .int (i * j)) (tC (.int 4)) (tCB (rSum K) (tCons (tOp (rIxT K) (tVar 2) (tC (.int 0))) tNil))) (tCons (tOp (rI CPow fun i j => .int (i ^ j.toNat)) (tC (.int 10)) (tC (.int 7))) tNil))))) tNil))) (tCall (sp_take K) [] E0 (tCons (tVar 1) (tCons (tC (.int 2)) tNil)))) (gName 6)) (tSeq (tAsg (tCall (sp_orders K) [] E0 (tCons (tVar 0) (tCons (tVar 3) (tCons (tVar 4) (tCons (tVar 5) (tCons (tVar 6) (tCons (tC (.int 2)) tNil))))))) (gName 7)) (tSeq (tAsg (tLst (tCons (tTup (tCons (tCB (rListS K) (tCons (tOp (rIxT K) (tVar 2) (tC (.int 0))) tNil)) (tCons (tOp (rIxT K) (tVar 2) (tC (.int 1))) tNil))) (tCons (tCB (rListS K) (tCons (tVar 7) tNil)) tNil))) (gName 8)) (tSeq (tAsg (tCall (sp_crowds K) [] E0 (tCons (tVar 3) (tCons (tVar 7) tNil))) (gName 9)) (tSeq (tFor (iRng1 (tCons (tCB (rLenL K) (tCons (tVar 7) tNil)) tNil)) (gName 10) (tIfS (tNot (tB (tCall (sp_right K) [] E0 (tCons (tVar 2) (tCons (tVar 7) (tCons (tVar 10) (tCons (tVar 9) tNil))))))) (tRet (tC (.bl false))) tNext)) (tSeq (tIfS (tOr (tNot (tB (tCall (sp_right K) [] E0 (tCons (tVar 2) (tCons (tVar 7) (tCons (tC (.int 0)) (tCons (tVar 9) tNil))))))) (tTest (tOp (rNeD K) (tLst (tCons (tVar 2) (tCons (tVar 7) tNil))) (tVar 8)))) (tRet (tC (.bl false))) tNext) (tSeq (tAsg (tOp (rI0 fun i j => .int (i + j)) (tOp (rI (fun _ j => 0 < j) fun i j => .int (i % j)) (tOp (rIxL K) (tOp (rIxT K) (tVar 2) (tC (.int 0))) (tC (.int 0))) (tC (.int 1000))) (tC (.int 1))) (gSub (tOp (rIxT K) (tVar 2) (tC (.int 0))) (tC (.int 0)) rSetL)) (tSeq (tIfS (tTest (tOp (rI0 fun i j => .bl (decide (j < i))) (tCB (rLenL K) (tCons (tVar 7) tNil)) (tC (.int 1)))) (tDrop (tBM K "list" rPopAt (tVar 7) (tCons (tC (.int 0)) tNil))) tNext) (tRet (tCall (sp_right K) [] E0 (tCons (tVar 2) (tCons (tVar 7) (tCons (tC (.int 0)) (tCons (tCall (sp_crowds K) [] E0 (tCons (tVar 3) (tCons (tVar 7) tNil))) tNil)))))))))))))))))))
theorem w_law {K : PySem.W.Frag} (vs : List V) (H : Hp) (Q : VK) (E : XK) (h : sp_law K vs H Q E) : t_law K { nx := fun _ H' => Q .non H', rt := Q } (start N_law vs) H := by
  obtain ⟨F0, cs, script_1, y, h, hS0, m, q⟩ := h
  obtain ⟨a0, _, rfl, ha0, h⟩ := Dts.hd h
  obtain rfl := Dts.no h
  unfold f_law at m
  try dsimp only at m
  unfold t_law
  refine go (σ' := [some a0, none, none, none, none, none, none, none, none, none, none]) rfl ?_
  obtain ⟨x2, k3, m⟩ := bnd m
  refine s_setC (K := K) (ds := x2.map eI) (i := 1) (σ' := fun p8 => [some a0, some (.ref p8), none, none, none, none, none, none, none, none, none]) hS0 (c_callX (A := A_pool) (B := B_pool) (C := C_pool) (x := (script_1, (0 : Int))) (y := x2) (cs2 := (cs)) (cc := []) (cs' := (cs)) (r_d (d_var rfl ha0) (r_d d_int r_nil)) sb_rfl k3 (fun _ => sb_rfl)) (fun _ => rfl) (fun p8 us9 F4 H5 g6 hS7 hu10 => ?_)
  obtain rfl := Dts.ints hu10
  obtain ⟨⟨⟨aisle_here_14, aisle_here_15⟩, pool_here_13⟩, k12, m⟩ := bnd m; (try dsimp only at m)
  refine o_asg (o_callR (A := A_aisle) (C := C_aisle) (R := R_aisle K) (x := (x2, (15 : Int), (1000 : Int))) (y := ((aisle_here_14, aisle_here_15), pool_here_13)) (cs2 := ((p8, HO.lst (pool_here_13.map V.int)) :: cs)) (cc := [(p8, HO.lst (x2.map V.int))]) (cs' := (cs)) hS7 (r_c rfl (r_d d_int (r_d d_int r_nil))) sb_rfl k12 su_rfl (fun v16 c17 F19 H20 g21 hS22 r18 => ?_))
  obtain ⟨t23, p24, rfl, rfl, hT25⟩ := r18
  have hS26 : Sta F19 ((p24, .lst (aisle_here_14.map V.int)) :: (p8, .lst (pool_here_13.map V.int)) :: cs) H20 := hS22
  refine o_name (σ' := [some a0, some (.ref p8), some (.ref t23), none, none, none, none, none, none, none, none]) rfl ?_
  obtain ⟨last_34, k35, m⟩ := lt m
  refine s_setV (K := K) (d := eI last_34) (i := 3) (σ' := [some a0, some (.ref p8), some (.ref t23), some (.int last_34), none, none, none, none, none, none, none]) (fun _ _ h => Dt.toInt h) hS26 (d_is (d_lendX (l1 := []) (m1 := []) (fun _ _ h => Dt.toInt h) (fun _ => (.int _)) (fun F27 g28 hn29 => (d_len (e := eI) (a_cons (d_vp (vp_tup (K := K) (vs := [(.ref p24), (.int aisle_here_15)]) (vp_var rfl) (gr_T (Gr.tr g28 (Gr.new hn29)) hT25) rfl) (lent_l hn29 (Dts.gr g28 (Dts.of_ints _)))) a_nil)))) (congrArg eI k35)) rfl (fun F30 H31 g32 hS33 => ?_)
  obtain ⟨⟨x36, pool_here_38⟩, k37, m⟩ := bnd m; (try dsimp only at m)
  refine s_setV (K := K) (d := eI x36) (i := 4) (σ' := [some a0, some (.ref p8), some (.ref t23), some (.int last_34), some (.int x36), none, none, none, none, none, none]) (fun _ _ h => Dt.toInt h) hS33 (d_callX (A := A_take) (B := B_take) (C := C_take) (x := (pool_here_13, (9516 : Int))) (y := (x36, pool_here_38)) (cs2 := ((p24, HO.lst (aisle_here_14.map V.int)) :: (p8, HO.lst (pool_here_38.map V.int)) :: cs)) (cc := [(p8, HO.lst (pool_here_13.map V.int))]) (cs' := ((p24, HO.lst (aisle_here_14.map V.int)) :: cs)) (r_c rfl (r_d d_int r_nil)) (sb_perm (List.perm_middle (l₁ := [(p24, HO.lst (aisle_here_14.map V.int))]))) k37 (sb_perm (List.Perm.symm (List.perm_middle (l₁ := [(p24, HO.lst (aisle_here_14.map V.int))]))))) rfl (fun F39 H40 g41 hS42 => ?_)
  obtain ⟨⟨x43, pool_here_45⟩, k44, m⟩ := bnd m; (try dsimp only at m)
  refine s_setV (K := K) (d := eI x43) (i := 5) (σ' := [some a0, some (.ref p8), some (.ref t23), some (.int last_34), some (.int x36), some (.int x43), none, none, none, none, none]) (fun _ _ h => Dt.toInt h) hS42 (d_callX (A := A_take) (B := B_take) (C := C_take) (x := (pool_here_38, (4 : Int))) (y := (x43, pool_here_45)) (cs2 := ((p24, HO.lst (aisle_here_14.map V.int)) :: (p8, HO.lst (pool_here_45.map V.int)) :: cs)) (cc := [(p8, HO.lst (pool_here_38.map V.int))]) (cs' := ((p24, HO.lst (aisle_here_14.map V.int)) :: cs)) (r_c rfl (r_d d_int r_nil)) (sb_perm (List.perm_middle (l₁ := [(p24, HO.lst (aisle_here_14.map V.int))]))) k44 (sb_perm (List.Perm.symm (List.perm_middle (l₁ := [(p24, HO.lst (aisle_here_14.map V.int))]))))) rfl (fun F46 H47 g48 hS49 => ?_)
  obtain ⟨⟨x53, pool_here_55⟩, k54, m⟩ := bnd m; (try dsimp only at m)
  obtain ⟨x56, k57, m⟩ := bnd m
  refine s_set (K := K) (d := (eL eI) x56) (i := 6) (σ' := fun v62 => [some a0, some (.ref p8), some (.ref t23), some (.int last_34), some (.int x36), some (.int x43), some v62, none, none, none, none]) hS49 (d_ix (e := (eL eI)) (d_lst (a_cons (d_lst (a_cons d_int (a_cons d_int (a_cons d_int a_nil))) (Nat.le_of_ble_eq_true rfl)) (a_cons (EvC.dd (c_lendX (l1 := []) (m1 := []) (fun _ _ h => Dts.ints h) (fun _ => Dts.of_ints _) (fun F50 g51 hn52 => (c_lst (a_cons d_int (a_cons d_int (a_cons (d_mulC d_int (d_sum (a_cons (d_vp (vp_tup (K := K) (vs := [(.ref p24), (.int aisle_here_15)]) (vp_var rfl) (gr_T (Gr.tr g32 (Gr.tr g41 (Gr.tr g48 (Gr.tr g51 (Gr.new hn52))))) hT25) rfl) (lent_l hn52 (Dts.gr g51 (Dts.of_ints _)))) a_nil)) (.inl ⟨by decide, by decide⟩)) (a_cons (d_is (e := PyData.int 10000000) (d_powC d_int d_int ⟨by decide, by decide, by decide⟩) (congrArg PyData.int (by decide))) a_nil)))) (Nat.le_of_ble_eq_true rfl))))) a_nil)) (Nat.le_of_ble_eq_true rfl)) (d_callX (A := A_take) (B := B_take) (C := C_take) (x := (pool_here_45, (2 : Int))) (y := (x53, pool_here_55)) (cs2 := ((p24, HO.lst (aisle_here_14.map V.int)) :: (p8, HO.lst (pool_here_55.map V.int)) :: cs)) (cc := [(p8, HO.lst (pool_here_45.map V.int))]) (cs' := ((p24, HO.lst (aisle_here_14.map V.int)) :: cs)) (r_c rfl (r_d d_int r_nil)) (sb_perm (List.perm_middle (l₁ := [(p24, HO.lst (aisle_here_14.map V.int))]))) k54 (sb_perm (List.Perm.symm (List.perm_middle (l₁ := [(p24, HO.lst (aisle_here_14.map V.int))]))))) k57) (fun _ => rfl) (fun v62 F58 H59 g60 hS61 hv63 => ?_)
  have hS64 := Sta.frozeAt (l1 := [(p24, .lst (aisle_here_14.map V.int))]) hS61
  obtain ⟨x65, k66, m⟩ := bnd m
  refine s_setC (K := K) (ds := x65.map (eT4 eS eI eI eI)) (i := 7) (σ' := fun p71 => [some a0, some (.ref p8), some (.ref t23), some (.int last_34), some (.int x36), some (.int x43), some v62, some (.ref p71), none, none, none]) hS64 (c_callX (A := A_orders) (B := B_orders) (C := C_orders) (x := (script_1, last_34, x36, x43, x56, (2 : Int))) (y := x65) (cs2 := ((p24, HO.lst (aisle_here_14.map V.int)) :: cs)) (cc := []) (cs' := ((p24, HO.lst (aisle_here_14.map V.int)) :: cs)) (r_d (d_var rfl (Dt.gr (Gr.tr g6 (Gr.tr g21 (Gr.tr g32 (Gr.tr g41 (Gr.tr g48 (Gr.tr g60 (Gr.new (Sta.freeAt (l1 := [(p24, .lst (aisle_here_14.map V.int))]) hS61)))))))) ha0)) (r_d (d_var rfl (.int _)) (r_d (d_var rfl (.int _)) (r_d (d_var rfl (.int _)) (r_d (d_var rfl (Dt.gr (Gr.new (Sta.freeAt (l1 := [(p24, .lst (aisle_here_14.map V.int))]) hS61)) hv63)) (r_d d_int r_nil)))))) sb_rfl k66 (fun _ => sb_rfl)) (fun _ => rfl) (fun p71 us72 F67 H68 g69 hS70 hu73 => ?_)
  obtain ⟨kept_84, k85, m⟩ := lt m
  refine s_set (K := K) (d := (eL eD) kept_84) (i := 8) (σ' := fun v86 => [some a0, some (.ref p8), some (.ref t23), some (.int last_34), some (.int x36), some (.int x43), some v62, some (.ref p71), some v86, none, none]) hS70 (d_is (d_lst (a_cons (d_tup (a_cons (EvC.dd (c_lendX (l1 := [(p71, HO.lst us72)]) (m1 := [(p71, HO.lst us72)]) (fun _ _ h => Dts.ints h) (fun _ => Dts.of_ints _) (fun F74 g75 hn76 => (c_list (a_cons (d_vp (vp_tup (K := K) (vs := [(.ref p24), (.int aisle_here_15)]) (vp_var rfl) (gr_T (Gr.tr g32 (Gr.tr g41 (Gr.tr g48 (Gr.tr g60 (Gr.tr (Gr.new (Sta.freeAt (l1 := [(p24, .lst (aisle_here_14.map V.int))]) hS61)) (Gr.tr g69 (Gr.tr g75 (Gr.new hn76)))))))) hT25) rfl) (lent_l hn76 (Dts.gr g75 (Dts.of_ints _)))) a_nil))))) (a_cons (d_vp (vp_tup (K := K) (vs := [(.ref p24), (.int aisle_here_15)]) (vp_var rfl) (gr_T (Gr.tr g32 (Gr.tr g41 (Gr.tr g48 (Gr.tr g60 (Gr.tr (Gr.new (Sta.freeAt (l1 := [(p24, .lst (aisle_here_14.map V.int))]) hS61)) g69))))) hT25) rfl) (.int _)) a_nil)) (Nat.le_of_ble_eq_true rfl)) (a_cons (EvC.dd (c_lendO (l1 := []) (m1 := []) (nt_l _) (nls (nl_T4 nl_S nl_I nl_I nl_I) _) (fun F77 g78 hn79 => (c_list (a_cons (d_var rfl (lent_l hn79 (Dts.gr g78 hu73))) a_nil))))) a_nil)) (Nat.le_of_ble_eq_true rfl)) (congrArg (eL eD) k85)) (fun _ => rfl) (fun v86 F80 H81 g82 hS83 hv87 => ?_)
  have hS88 := Sta.frozeAt (l1 := []) hS83
  obtain ⟨⟨crowds_here_91, crowds_here_92⟩, k90, m⟩ := bnd m; (try dsimp only at m)
  refine o_asg (o_callR (A := A_crowds) (C := C_crowds) (R := R_crowds K) (x := (last_34, x65)) (y := (crowds_here_91, crowds_here_92)) (cs2 := ((p24, HO.lst (aisle_here_14.map V.int)) :: cs)) (cc := []) (cs' := ((p24, HO.lst (aisle_here_14.map V.int)) :: cs)) hS88 (r_d (d_var rfl (.int _)) (r_d (d_var rfl (Dt.lst (.inl (.inl upd_same)) (Dts.gr (Gr.new (Sta.freeAt (l1 := []) hS83)) (Dts.gr g82 hu73)))) r_nil)) sb_rfl k90 su_rfl (fun v93 c94 F96 H97 g98 hS99 r95 => ?_))
  obtain ⟨t100, p101, p102, rfl, rfl, hT103⟩ := r95
  have hS104 : Sta F96 ((p101, .lst (crowds_here_91.map V.int)) :: (p102, .lst (crowds_here_92.map V.int)) :: (p24, .lst (aisle_here_14.map V.int)) :: cs) H97 := hS99
  have g105 := g98
  have hp106 := g105 p71 _ upd_same
  have hS107 := Sta.lent (l1 := [(p101, HO.lst (crowds_here_91.map V.int)), (p102, HO.lst (crowds_here_92.map V.int))]) g105 hS104
  have g108 := gr_cut (Sta.freeAt (l1 := []) hS83) g105
  refine o_name (σ' := [some a0, some (.ref p8), some (.ref t23), some (.int last_34), some (.int x36), some (.int x43), some v62, some (.ref p71), some v86, some (.ref t100), none]) rfl ?_
  have hS109 := Sta.frozeAt (l1 := []) hS107
  have hS110 := Sta.frozeAt (l1 := []) hS109
  obtain ⟨x114, k115, m⟩ := bnd m
  obtain ⟨r117, k118, m⟩ := bnd m
  refine s_forF (K := K) (xs := x114) (en := eI) (body := (f_law_b116 aisle_here_14 aisle_here_15 x65 crowds_here_91 crowds_here_92)) (s0 := ()) (r := r117) (fun (a : Unit) F σ c => ∃ (j10 : Option V), σ = [some a0, some (.ref p8), some (.ref t23), some (.int last_34), some (.int x36), some (.int x43), some v62, some (.ref p71), some v86, some (.ref t100), j10] ∧ (p71, .lst us72) :: (p24, .lst (aisle_here_14.map V.int)) :: cs = c) hS110 (i_rng1 (a_cons (d_lendX (l1 := []) (m1 := []) (fun _ _ h => Dt.toInt h) (fun _ => (.int _)) (fun F111 g112 hn113 => (d_len (e := (eT4 eS eI eI eI)) (a_cons (d_var rfl (lent_l hn113 (Dts.gr g112 (Dts.gr (Gr.tr g82 (Gr.tr g108 (Gr.tr (Gr.new (Sta.freeAt (l1 := []) hS107)) (Gr.new (Sta.freeAt (l1 := []) hS109))))) hu73)))) a_nil)))) a_nil) k115) (fun _ _ => ⟨_, rfl, rfl⟩) k118 ?_ ?_
  · rintro ⟨⟩ F163 σ168 c167 H164 hz254 g165 hS166 ⟨u169, rfl, rfl⟩
    rcases hz254.symm with rfl | rfl
    · cases (show (none : Option _) = some _ from m)
    try dsimp only at m
    obtain ⟨x176, k177, m⟩ := bnd m
    obtain ⟨x180, k181, m⟩ := bnd m
    refine s_if (b := x180) hS166 (t_lendX (l1 := [(p71, HO.lst us72)]) (m1 := [(p71, HO.lst us72)]) (fun F170 g171 hn172 => (t_lendX (l1 := []) (m1 := []) (fun F173 g174 hn175 => (t_orM (r := x180) (t_not (t_B (K := K) (d_call (A := A_right) (B := eB) (x := ((aisle_here_14, aisle_here_15), x65, (0 : Int), (crowds_here_91, crowds_here_92))) (a_cons (d_var rfl (dt_t (gr_T (Gr.tr g32 (Gr.tr g41 (Gr.tr g48 (Gr.tr g60 (Gr.tr (Gr.new (Sta.freeAt (l1 := [(p24, .lst (aisle_here_14.map V.int))]) hS61)) (Gr.tr g69 (Gr.tr g82 (Gr.tr g108 (Gr.tr (Gr.new (Sta.freeAt (l1 := []) hS107)) (Gr.tr (Gr.new (Sta.freeAt (l1 := []) hS109)) (Gr.tr g165 (Gr.tr (Gr.tr g171 (Gr.new hn172)) (Gr.tr g174 (Gr.new hn175)))))))))))))) hT25) (Dts.cons (Dt.gr (Gr.tr g174 (Gr.new hn175)) (lent_l hn172 (Dts.gr g171 (Dts.of_ints _)))) (Dts.cons (.int _) Dts.nil)))) (a_cons (d_var rfl (lent_l hn175 (Dts.gr g174 (Dts.gr (Gr.tr g82 (Gr.tr g108 (Gr.tr (Gr.new (Sta.freeAt (l1 := []) hS107)) (Gr.tr (Gr.new (Sta.freeAt (l1 := []) hS109)) (Gr.tr g165 (Gr.tr g171 (Gr.new hn172))))))) hu73)))) (a_cons d_int (a_cons (d_var rfl (dt_t (gr_T (Gr.tr (Gr.new (Sta.freeAt (l1 := []) hS107)) (Gr.tr (Gr.new (Sta.freeAt (l1 := []) hS109)) (Gr.tr g165 (Gr.tr (Gr.tr g171 (Gr.new hn172)) (Gr.tr g174 (Gr.new hn175)))))) (sqT_cut hp106 (nt_l _) hT103)) (Dts.cons (Dt.gr (Gr.tr (Gr.new (Sta.freeAt (l1 := []) hS109)) (Gr.tr g165 (Gr.tr (Gr.tr g171 (Gr.new hn172)) (Gr.tr g174 (Gr.new hn175))))) (Dt.lst (.inl (.inl upd_same)) (Dts.gr (Gr.new (Sta.freeAt (l1 := []) hS107)) (Dts.of_ints _)))) (Dts.cons (Dt.gr (Gr.tr g165 (Gr.tr (Gr.tr g171 (Gr.new hn172)) (Gr.tr g174 (Gr.new hn175)))) (Dt.lst (.inl (.inl upd_same)) (Dts.gr (Gr.new (Sta.freeAt (l1 := []) hS109)) (Dts.of_ints _)))) Dts.nil)))) a_nil)))) k177))) (fun hc => by rw [if_neg (bf hc)] at k181; obtain ⟨x178, k179, k181⟩ := bnd k181; obtain rfl := sm k181; exact (t_test (K := K) (d_neDM (d_lst (a_cons (d_var rfl (dt_t (gr_T (Gr.tr g32 (Gr.tr g41 (Gr.tr g48 (Gr.tr g60 (Gr.tr (Gr.new (Sta.freeAt (l1 := [(p24, .lst (aisle_here_14.map V.int))]) hS61)) (Gr.tr g69 (Gr.tr g82 (Gr.tr g108 (Gr.tr (Gr.new (Sta.freeAt (l1 := []) hS107)) (Gr.tr (Gr.new (Sta.freeAt (l1 := []) hS109)) (Gr.tr g165 (Gr.tr (Gr.tr g171 (Gr.new hn172)) (Gr.tr g174 (Gr.new hn175)))))))))))))) hT25) (Dts.cons (Dt.gr (Gr.tr g174 (Gr.new hn175)) (lent_l hn172 (Dts.gr g171 (Dts.of_ints _)))) (Dts.cons (.int _) Dts.nil)))) (a_cons (d_var rfl (lent_l hn175 (Dts.gr g174 (Dts.gr (Gr.tr g82 (Gr.tr g108 (Gr.tr (Gr.new (Sta.freeAt (l1 := []) hS107)) (Gr.tr (Gr.new (Sta.freeAt (l1 := []) hS109)) (Gr.tr g165 (Gr.tr g171 (Gr.new hn172))))))) hu73)))) a_nil)) (Nat.le_of_ble_eq_true rfl)) (d_var rfl (Dt.gr (Gr.tr g108 (Gr.tr (Gr.new (Sta.freeAt (l1 := []) hS107)) (Gr.tr (Gr.new (Sta.freeAt (l1 := []) hS109)) (Gr.tr g165 (Gr.tr (Gr.tr g171 (Gr.new hn172)) (Gr.tr g174 (Gr.new hn175))))))) hv87)) k179))) (fun hc => by rw [if_pos hc] at k181; exact (sm k181).symm)))))) (fun hc F182 H183 g184 hS185 => ?_) (fun hc F194 H195 g196 hS197 => ?_)
    · rw [if_pos hc] at m
      have hS186 := Sta.frozeAt (l1 := []) hS185
      have hS187 := Sta.frozeAt (l1 := []) hS186
      refine s_ret (K := K) (d := eB false) hS187 d_bl (fun v192 F188 H189 g190 hS191 hv193 => ?_)
      obtain rfl := sm m
      exact q _ _ _ (Gr.tr g6 (Gr.tr g21 (Gr.tr g32 (Gr.tr g41 (Gr.tr g48 (Gr.tr g60 (Gr.tr (Gr.new (Sta.freeAt (l1 := [(p24, .lst (aisle_here_14.map V.int))]) hS61)) (Gr.tr g69 (Gr.tr g82 (Gr.tr g108 (Gr.tr (Gr.new (Sta.freeAt (l1 := []) hS107)) (Gr.tr (Gr.new (Sta.freeAt (l1 := []) hS109)) (Gr.tr g165 (Gr.tr g184 (Gr.tr (Gr.new (Sta.freeAt (l1 := []) hS185)) (Gr.tr (Gr.new (Sta.freeAt (l1 := []) hS186)) g190)))))))))))))))) hS191 hv193
    · rw [if_neg (bf hc)] at m
      refine nxt ?_
      obtain ⟨x201, k202, m⟩ := bnd m
      obtain ⟨aisle_here_203, k204, m⟩ := bnd m
      refine s_itemFV (K := K) (k1 := [(p71, .lst us72)]) (m1 := [(p71, .lst us72)]) (x := ((x201 % (1000 : Int)) + (1 : Int))) (l1 := [(p71, .lst us72)]) (p := p24) (vf := V.int) (en := eI) (fun _ _ _ h => Dt.toInt h) hS197 (vp_tup (K := K) (vs := [(.ref p24), (.int aisle_here_15)]) (vp_var rfl) (gr_T (Gr.tr g32 (Gr.tr g41 (Gr.tr g48 (Gr.tr g60 (Gr.tr (Gr.new (Sta.freeAt (l1 := [(p24, .lst (aisle_here_14.map V.int))]) hS61)) (Gr.tr g69 (Gr.tr g82 (Gr.tr g108 (Gr.tr (Gr.new (Sta.freeAt (l1 := []) hS107)) (Gr.tr (Gr.new (Sta.freeAt (l1 := []) hS109)) (Gr.tr g165 g196))))))))))) hT25) rfl) (d_lendX (l1 := [(p71, HO.lst us72)]) (m1 := [(p71, HO.lst us72)]) (fun _ _ h => Dt.toInt h) (fun _ => (.int _)) (fun F198 g199 hn200 => (d_add (d_modC (d_ix (e := eI) (d_vp (vp_tup (K := K) (vs := [(.ref p24), (.int aisle_here_15)]) (vp_var rfl) (gr_T (Gr.tr g32 (Gr.tr g41 (Gr.tr g48 (Gr.tr g60 (Gr.tr (Gr.new (Sta.freeAt (l1 := [(p24, .lst (aisle_here_14.map V.int))]) hS61)) (Gr.tr g69 (Gr.tr g82 (Gr.tr g108 (Gr.tr (Gr.new (Sta.freeAt (l1 := []) hS107)) (Gr.tr (Gr.new (Sta.freeAt (l1 := []) hS109)) (Gr.tr g165 (Gr.tr g196 (Gr.tr g199 (Gr.new hn200)))))))))))))) hT25) rfl) (lent_l hn200 (Dts.gr g199 (Dts.of_ints _)))) d_int k202) d_int (by decide)) d_int))) d_int k204 (fun F205 H206 g207 hS208 => ?_)
      have hS209 := Sta.frozeAt (l1 := [(p71, .lst us72)]) hS208
      obtain ⟨orders_here_213, k215, m⟩ := bnd m
      refine s_ifJ (b := (decide ((1 : Int) < (x65.length : Int)))) (fun σ H => ∃ (F : Hp) (c : Cs), Gr (upd F205 p24 (.lst (aisle_here_203.map V.int))) F ∧ Sta F c H ∧ ∃ (j10 : Option V) (z7 : List V), σ = [some a0, some (.ref p8), some (.ref t23), some (.int last_34), some (.int x36), some (.int x43), some v62, some (.ref p71), some v86, some (.ref t100), j10] ∧ (p71, .lst z7) :: cs = c ∧ Dts K F z7 (orders_here_213.map (eT4 eS eI eI eI))) hS209 (t_lendX (l1 := []) (m1 := []) (fun F210 g211 hn212 => (t_test (K := K) (d_gt (d_len (e := (eT4 eS eI eI eI)) (a_cons (d_var rfl (lent_l hn212 (Dts.gr g211 (Dts.gr (Gr.tr g82 (Gr.tr g108 (Gr.tr (Gr.new (Sta.freeAt (l1 := []) hS107)) (Gr.tr (Gr.new (Sta.freeAt (l1 := []) hS109)) (Gr.tr g165 (Gr.tr g196 (Gr.tr g207 (Gr.new (Sta.freeAt (l1 := [(p71, .lst us72)]) hS208))))))))) hu73)))) a_nil)) d_int)))) ?_ (fun jn214 hc F236 H237 g238 hS239 => ?_) (fun jn214 hc F249 H250 g251 hS252 => ?_)
      · rintro σ221 H217 ⟨F216, c220, g218, hS219, u222, us223, rfl, rfl, h224⟩
        have hS225 := Sta.frozeAt (l1 := []) hS219
        obtain ⟨x226, k227, m⟩ := bnd m
        obtain ⟨x228, k229, m⟩ := bnd m
        refine s_ret (K := K) (d := eB x228) hS225 (d_call (A := A_right) (B := eB) (x := ((aisle_here_203, aisle_here_15), orders_here_213, (0 : Int), x226)) (a_cons (d_var rfl (dt_t (gr_T (Gr.tr g32 (Gr.tr g41 (Gr.tr g48 (Gr.tr g60 (Gr.tr (Gr.new (Sta.freeAt (l1 := [(p24, .lst (aisle_here_14.map V.int))]) hS61)) (Gr.tr g69 (Gr.tr g82 (Gr.tr g108 (Gr.tr (Gr.new (Sta.freeAt (l1 := []) hS107)) (Gr.tr (Gr.new (Sta.freeAt (l1 := []) hS109)) (Gr.tr g165 (Gr.tr g196 (Gr.tr g207 (Gr.tr (Gr.new (Sta.freeAt (l1 := [(p71, .lst us72)]) hS208)) (Gr.tr g218 (Gr.new (Sta.freeAt (l1 := []) hS219))))))))))))))))) hT25) (Dts.cons (Dt.gr (Gr.tr g218 (Gr.new (Sta.freeAt (l1 := []) hS219))) (Dt.lst (.inl (.inl upd_same)) (Dts.gr (Gr.new (Sta.freeAt (l1 := [(p71, .lst us72)]) hS208)) (Dts.of_ints _)))) (Dts.cons (.int _) Dts.nil)))) (a_cons (d_var rfl (Dt.lst (.inl (.inl upd_same)) (Dts.gr (Gr.new (Sta.freeAt (l1 := []) hS219)) h224))) (a_cons d_int (a_cons (d_callR (A := A_crowds) (C := C_crowds) (R := R_crowds K) (x := (last_34, orders_here_213)) (y := x226) (cs2 := (cs)) (cc := []) (cs' := (cs)) (B := B_crowds) (dd_crowds K) (r_d (d_var rfl (.int _)) (r_d (d_var rfl (Dt.lst (.inl (.inl upd_same)) (Dts.gr (Gr.new (Sta.freeAt (l1 := []) hS219)) h224))) r_nil)) sb_rfl k227 su_rfl) a_nil)))) k229) (fun v234 F230 H231 g232 hS233 hv235 => ?_)
        obtain rfl := sm m
        exact q _ _ _ (Gr.tr g6 (Gr.tr g21 (Gr.tr g32 (Gr.tr g41 (Gr.tr g48 (Gr.tr g60 (Gr.tr (Gr.new (Sta.freeAt (l1 := [(p24, .lst (aisle_here_14.map V.int))]) hS61)) (Gr.tr g69 (Gr.tr g82 (Gr.tr g108 (Gr.tr (Gr.new (Sta.freeAt (l1 := []) hS107)) (Gr.tr (Gr.new (Sta.freeAt (l1 := []) hS109)) (Gr.tr g165 (Gr.tr g196 (Gr.tr g207 (Gr.tr (Gr.new (Sta.freeAt (l1 := [(p71, .lst us72)]) hS208)) (Gr.tr g218 (Gr.tr (Gr.new (Sta.freeAt (l1 := []) hS219)) g232)))))))))))))))))) hS233 hv235
      · rw [if_pos hc] at k215
        obtain ⟨⟨x242, orders_here_240⟩, k241, k215⟩ := bnd k215; (try dsimp only at k215)
        refine s_popGD (K := K) (k1 := []) (l1 := []) (p := p71) (en := (eT4 eS eI eI eI)) hS239 (Dts.gr (Gr.tr g82 (Gr.tr g108 (Gr.tr (Gr.new (Sta.freeAt (l1 := []) hS107)) (Gr.tr (Gr.new (Sta.freeAt (l1 := []) hS109)) (Gr.tr g165 (Gr.tr g196 (Gr.tr g207 (Gr.tr (Gr.new (Sta.freeAt (l1 := [(p71, .lst us72)]) hS208)) g238)))))))) hu73) (vp_var rfl) d_int k241 (fun us247 F243 H244 g245 hS246 hu248 => ?_)
        obtain rfl := sm k215
        exact jn214 _ _ ⟨_, _, (Gr.tr g238 g245), hS246, _, _, rfl, rfl, hu248⟩
      · rw [if_neg (bf hc)] at k215
        refine nxt ?_
        obtain rfl := sm k215
        exact jn214 _ _ ⟨_, _, g251, hS252, _, _, rfl, rfl, (Dts.gr (Gr.tr g82 (Gr.tr g108 (Gr.tr (Gr.new (Sta.freeAt (l1 := []) hS107)) (Gr.tr (Gr.new (Sta.freeAt (l1 := []) hS109)) (Gr.tr g165 (Gr.tr g196 (Gr.tr g207 (Gr.tr (Gr.new (Sta.freeAt (l1 := [(p71, .lst us72)]) hS208)) g251)))))))) hu73)⟩
  · rintro number_119 ⟨⟩ b128 F120 F121 σ134 c135 H122 v127 N129 B130 g123 ⟨u137, rfl, rfl⟩ g124 hS125 hv126 m136 hN131 hB132 hR133
    obtain rfl := Dt.toInt hv126
    refine tg (σ' := [some a0, some (.ref p8), some (.ref t23), some (.int last_34), some (.int x36), some (.int x43), some v62, some (.ref p71), some v86, some (.ref t100), some (.int number_119)]) (fun Q hq => hq) ?_
    unfold f_law_b116 at m136
    try dsimp only at m136
    obtain ⟨x144, k145, m136⟩ := bnd m136
    refine s_if (b := (!x144)) hS125 (t_lendX (l1 := [(p71, HO.lst us72)]) (m1 := [(p71, HO.lst us72)]) (fun F138 g139 hn140 => (t_lendX (l1 := []) (m1 := []) (fun F141 g142 hn143 => (t_not (t_B (K := K) (d_call (A := A_right) (B := eB) (x := ((aisle_here_14, aisle_here_15), x65, number_119, (crowds_here_91, crowds_here_92))) (a_cons (d_var rfl (dt_t (gr_T (Gr.tr g32 (Gr.tr g41 (Gr.tr g48 (Gr.tr g60 (Gr.tr (Gr.new (Sta.freeAt (l1 := [(p24, .lst (aisle_here_14.map V.int))]) hS61)) (Gr.tr g69 (Gr.tr g82 (Gr.tr g108 (Gr.tr (Gr.new (Sta.freeAt (l1 := []) hS107)) (Gr.tr (Gr.new (Sta.freeAt (l1 := []) hS109)) (Gr.tr g123 (Gr.tr g124 (Gr.tr (Gr.tr g139 (Gr.new hn140)) (Gr.tr g142 (Gr.new hn143))))))))))))))) hT25) (Dts.cons (Dt.gr (Gr.tr g142 (Gr.new hn143)) (lent_l hn140 (Dts.gr g139 (Dts.of_ints _)))) (Dts.cons (.int _) Dts.nil)))) (a_cons (d_var rfl (lent_l hn143 (Dts.gr g142 (Dts.gr (Gr.tr g82 (Gr.tr g108 (Gr.tr (Gr.new (Sta.freeAt (l1 := []) hS107)) (Gr.tr (Gr.new (Sta.freeAt (l1 := []) hS109)) (Gr.tr g123 (Gr.tr g124 (Gr.tr g139 (Gr.new hn140)))))))) hu73)))) (a_cons (d_var rfl (.int _)) (a_cons (d_var rfl (dt_t (gr_T (Gr.tr (Gr.new (Sta.freeAt (l1 := []) hS107)) (Gr.tr (Gr.new (Sta.freeAt (l1 := []) hS109)) (Gr.tr g123 (Gr.tr g124 (Gr.tr (Gr.tr g139 (Gr.new hn140)) (Gr.tr g142 (Gr.new hn143))))))) (sqT_cut hp106 (nt_l _) hT103)) (Dts.cons (Dt.gr (Gr.tr (Gr.new (Sta.freeAt (l1 := []) hS109)) (Gr.tr g123 (Gr.tr g124 (Gr.tr (Gr.tr g139 (Gr.new hn140)) (Gr.tr g142 (Gr.new hn143)))))) (Dt.lst (.inl (.inl upd_same)) (Dts.gr (Gr.new (Sta.freeAt (l1 := []) hS107)) (Dts.of_ints _)))) (Dts.cons (Dt.gr (Gr.tr g123 (Gr.tr g124 (Gr.tr (Gr.tr g139 (Gr.new hn140)) (Gr.tr g142 (Gr.new hn143))))) (Dt.lst (.inl (.inl upd_same)) (Dts.gr (Gr.new (Sta.freeAt (l1 := []) hS109)) (Dts.of_ints _)))) Dts.nil)))) a_nil)))) k145))))))) (fun hc F146 H147 g148 hS149 => ?_) (fun hc F159 H160 g161 hS162 => ?_)
    · rw [if_pos hc] at m136
      have hS150 := Sta.frozeAt (l1 := []) hS149
      have hS151 := Sta.frozeAt (l1 := []) hS150
      refine s_ret (K := K) (d := eB false) hS151 d_bl (fun v156 F152 H153 g154 hS155 hv157 => ?_)
      obtain rfl := sm m136
      have hr158 := hR133 _ rfl
      subst hr158
      obtain rfl := sm m
      exact q _ _ _ (Gr.tr g6 (Gr.tr g21 (Gr.tr g32 (Gr.tr g41 (Gr.tr g48 (Gr.tr g60 (Gr.tr (Gr.new (Sta.freeAt (l1 := [(p24, .lst (aisle_here_14.map V.int))]) hS61)) (Gr.tr g69 (Gr.tr g82 (Gr.tr g108 (Gr.tr (Gr.new (Sta.freeAt (l1 := []) hS107)) (Gr.tr (Gr.new (Sta.freeAt (l1 := []) hS109)) (Gr.tr g123 (Gr.tr g124 (Gr.tr g148 (Gr.tr (Gr.new (Sta.freeAt (l1 := []) hS149)) (Gr.tr (Gr.new (Sta.freeAt (l1 := []) hS150)) g154))))))))))))))))) hS155 hv157
    · rw [if_neg (bf hc)] at m136
      refine nxt ?_
      obtain rfl := sm m136
      exact hN131 _ _ _ _ _ rfl g161 hS162 ⟨_, rfl, rfl⟩
theorem sc_law : FnScope N_law ["_law_script"] (defScope s_law) := ⟨rfl, rfl, rfl, by decide +kernel, rfl, by decide +kernel, by decide +kernel⟩
theorem ok_law {P : Program} {w : World} {K : PySem.W.Frag} {mg : Str → Option Value} {base : Heap} (hF : Df K mg "law" s_law) (m_len : mg "len" = none) (m_list : mg "list" = none) (m_range : mg "range" = none) (m_sum : mg "sum" = none) (o_right : Ok P w K mg base 7 "_law_right" ["_law_aisle_here", "_law_orders_here", "_law_number", "_law_crowds_here"] (sp_right K)) (o_crowds : Ok P w K mg base 1 "_law_crowds" ["_law_last", "_law_orders_here"] (sp_crowds K)) (o_orders : Ok P w K mg base 2 "_law_orders" ["_law_script", "_law_last", "_law_salt", "_law_style", "_law_hops", "_law_fewest"] (sp_orders K)) (o_take : Ok P w K mg base 1 "_law_take" ["_law_pool_here", "_law_many"] (sp_take K)) (o_aisle : Ok P w K mg base 2 "_law_aisle" ["_law_pool_here", "_law_most_gaps", "_law_longest"] (sp_aisle K)) (o_pool : Ok P w K mg base 1 "_law_pool" ["_law_script", "_law_k"] (sp_pool K)) : Ok P w K mg base 8 "law" ["_law_script"] (sp_law K) := by
  obtain ⟨⟨_, G_right, bd_right, _⟩, kp_right, gm_right⟩ := o_right
  obtain ⟨⟨_, G_crowds, bd_crowds, _⟩, kp_crowds, gm_crowds⟩ := o_crowds
  obtain ⟨⟨_, G_orders, bd_orders, _⟩, kp_orders, gm_orders⟩ := o_orders
  obtain ⟨⟨_, G_take, bd_take, _⟩, kp_take, gm_take⟩ := o_take
  obtain ⟨⟨_, G_aisle, bd_aisle, _⟩, kp_aisle, gm_aisle⟩ := o_aisle
  obtain ⟨⟨_, G_pool, bd_pool, _⟩, kp_pool, gm_pool⟩ := o_pool
  obtain ⟨⟨fd, F⟩, gm⟩ := hF
  refine ⟨⟨fd, F.ok sc_law (fun vs H Q E h => ?_) (fun cdv A outer s H vs Q E hr h => ⟨t_law K, PSs.nox ?_, w_law vs H Q E h⟩), F.bindsN fun _ _ _ _ _ _ us hl => match us, hl with | [_], _ => rfl, lk_of F⟩, F.kp, gm⟩
  · obtain ⟨F0, cs, x, y, h, _⟩ := h; exact Dts.len h
  · exact (pss_cons (ps_set (i := 1) sc_law.nd rfl (Or.inl rfl) (pe_call G_pool (hr.mono (by decide)) (by rfl) gm_pool kp_pool bd_pool .nil pass0 (pa_cons (pv 0) (pa_cons pe_int pa_nil)))) (pss_cons (ps_set (i := 2) sc_law.nd rfl (Or.inl rfl) (pe_call G_aisle (hr.mono (by decide)) (by rfl) gm_aisle kp_aisle bd_aisle .nil pass0 (pa_cons (pv 1) (pa_cons pe_int (pa_cons pe_int pa_nil))))) (pss_cons (ps_set (i := 3) sc_law.nd rfl (Or.inl rfl) (pe_callB cr_lenL (by rfl) m_len PySem.boot_len (pa_cons (pe_ix ix_tup (pv 2) pe_int (fun _ _ => rfl)) pa_nil))) (pss_cons (ps_set (i := 4) sc_law.nd rfl (Or.inl rfl) (pe_call G_take (hr.mono (by decide)) (by rfl) gm_take kp_take bd_take .nil pass0 (pa_cons (pv 1) (pa_cons pe_int pa_nil)))) (pss_cons (ps_set (i := 5) sc_law.nd rfl (Or.inl rfl) (pe_call G_take (hr.mono (by decide)) (by rfl) gm_take kp_take bd_take .nil pass0 (pa_cons (pv 1) (pa_cons pe_int pa_nil)))) (pss_cons (ps_set (i := 6) sc_law.nd rfl (Or.inl rfl) (pe_ix ix_list (pe_lst (pa_cons (pe_lst (pa_cons pe_int (pa_cons pe_int (pa_cons pe_int pa_nil)))) (pa_cons (pe_lst (pa_cons pe_int (pa_cons pe_int (pa_cons (pe_op op_mul pe_int (pe_callB (cr_sum rfl) (by rfl) m_sum (by decide +kernel) (pa_cons (pe_ix ix_tup (pv 2) pe_int (fun _ _ => rfl)) pa_nil))) (pa_cons (pe_op op_pow pe_int pe_int) pa_nil))))) pa_nil))) (pe_call G_take (hr.mono (by decide)) (by rfl) gm_take kp_take bd_take .nil pass0 (pa_cons (pv 1) (pa_cons pe_int pa_nil))) (fun _ _ => rfl))) (pss_cons (ps_set (i := 7) sc_law.nd rfl (Or.inl rfl) (pe_call G_orders (hr.mono (by decide)) (by rfl) gm_orders kp_orders bd_orders .nil pass0 (pa_cons (pv 0) (pa_cons (pv 3) (pa_cons (pv 4) (pa_cons (pv 5) (pa_cons (pv 6) (pa_cons pe_int pa_nil)))))))) (pss_cons (ps_set (i := 8) sc_law.nd rfl (Or.inl rfl) (pe_lst (pa_cons (pe_tup (pa_cons (pe_callTy cr_list (by rfl) m_list (by decide +kernel) (pa_cons (pe_ix ix_tup (pv 2) pe_int (fun _ _ => rfl)) pa_nil)) (pa_cons (pe_ix ix_tup (pv 2) pe_int (fun _ _ => rfl)) pa_nil))) (pa_cons (pe_callTy cr_list (by rfl) m_list (by decide +kernel) (pa_cons (pv 7) pa_nil)) pa_nil)))) (pss_cons (ps_set (i := 9) sc_law.nd rfl (Or.inl rfl) (pe_call G_crowds (hr.mono (by decide)) (by rfl) gm_crowds kp_crowds bd_crowds .nil pass0 (pa_cons (pv 3) (pa_cons (pv 7) pa_nil)))) (pss_cons (ps_for PassesOwn.never rfl (pi_range1 (by rfl) m_range (pa_cons (pe_callB cr_lenL (by rfl) m_len PySem.boot_len (pa_cons (pv 7) pa_nil)) pa_nil)) (pg_name (i := 10) sc_law.nd rfl (Or.inl rfl)) (pss_one (ps_if (pt_not (pt_val (pe_call G_right (hr.mono (by decide)) (by rfl) gm_right kp_right bd_right .nil pass0 (pa_cons (pv 2) (pa_cons (pv 7) (pa_cons (pv 10) (pa_cons (pv 9) pa_nil))))))) (pss_one (ps_ret pe_bl)) pss_nil))) (pss_cons (ps_if (PW.pt (pw_or (pt_not (pt_val (pe_call G_right (hr.mono (by decide)) (by rfl) gm_right kp_right bd_right .nil pass0 (pa_cons (pv 2) (pa_cons (pv 7) (pa_cons pe_int (pa_cons (pv 9) pa_nil))))))) (pw_or1 (pt_cmpR (op_neD hr.units) (pe_lst (pa_cons (pv 2) (pa_cons (pv 7) pa_nil))) (pv 8) (nomark _))))) (pss_one (ps_ret pe_bl)) pss_nil) (pss_cons (ps_asg (pe_op op_add (pe_op op_mod (pe_ix ix_list (pe_ix ix_tup (pv 2) pe_int (fun _ _ => rfl)) pe_int (fun _ _ => rfl)) pe_int) pe_int) (pg_sub (pe_ix ix_tup (pv 2) pe_int (fun _ _ => rfl)) pe_int set_list)) (pss_cons (ps_if (pt_cmpR op_gt (pe_callB cr_lenL (by rfl) m_len PySem.boot_len (pa_cons (pv 7) pa_nil)) pe_int (nomark _)) (pss_one (ps_expr (pe_bm PySem.F.plainAttrs_list PySem.F.slot_list_pop PySem.F.type_list_pop mt_popAt (pv 7) (pa_cons pe_int pa_nil)))) pss_nil) (pss_one (ps_ret (pe_call G_right (hr.mono (by decide)) (by rfl) gm_right kp_right bd_right .nil pass0 (pa_cons (pv 2) (pa_cons (pv 7) (pa_cons pe_int (pa_cons (pe_call G_crowds (hr.mono (by decide)) (by rfl) gm_crowds kp_crowds bd_crowds .nil pass0 (pa_cons (pv 3) (pa_cons (pv 7) pa_nil))) pa_nil))))))))))))))))))))
end Bw


namespace Bw
open PySem L2
theorem letM_eq {α β : Type} (x : α) (f : α → β) : letM x f = f x := Eq.trans rfl rfl
/-- step over a bind by the answer's equation (no unfolding left to the kernel) -/
theorem bo {α β : Type} {a : Option α} {x : α} (h : a = some x) (f : α → Option β) : a.bind f = f x := by subst h; rfl
/-! plain facts about what may fail -/
theorem atI_nn {α : Type} (xs : List α) (i : Nat) (h : i < xs.length) : atI xs (i : Int) = some xs[i] := by
  unfold atI ixN
  have h0 : (0 : Int) ≤ (i : Int) := by omega
  have h1 : (i : Int) < (xs.length : Int) := by omega
  rw [if_pos h0, if_pos h1]
  show xs[(i : Int).toNat]? = _
  rw [Int.toNat_natCast]
  exact List.getElem?_eq_getElem h
theorem atI_int {α : Type} (xs : List α) (i : Int) (h0 : 0 ≤ i) (h : i < xs.length) : ∃ x, atI xs i = some x ∧ xs[i.toNat]? = some x := by
  obtain ⟨n, rfl⟩ : ∃ n : Nat, i = n := ⟨i.toNat, by omega⟩
  have hn : n < xs.length := by omega
  refine ⟨xs[n], atI_nn xs n hn, ?_⟩
  rw [Int.toNat_natCast]
  exact List.getElem?_eq_getElem hn
theorem atI_mem {α : Type} {xs : List α} {i : Int} {x : α} (h : atI xs i = some x) : x ∈ xs := by
  unfold atI at h
  cases e : ixN xs.length i with
  | none => rw [e] at h; cases h
  | some j => rw [e] at h; exact List.mem_of_getElem? h
theorem appM_ok {α : Type} {xs : List α} {x : α} (h : xs.length < 100000) : appM xs x = some (xs ++ [x]) := by unfold appM; rw [if_pos h]
theorem catM_ok {α : Type} {xs ys : List α} (h : xs.length + ys.length ≤ 100000) : catM xs ys = some (xs ++ ys) := by unfold catM; rw [if_pos h]
theorem flat_one {α : Type} (x : α) : ∀ n : Nat, (List.replicate n [x]).flatten = List.replicate n x
  | 0 => rfl
  | n + 1 => by rw [List.replicate_succ, List.flatten_cons, flat_one x n]; rfl
theorem repM_one {α : Type} {x : α} {k : Int} (h0 : -(2 ^ 63) ≤ k) (h : k ≤ 100000) : repM [x] k = some (List.replicate k.toNat x) := by
  unfold repM
  rw [if_pos ⟨h0, by omega, by simp only [List.length_singleton]; omega⟩, flat_one]
theorem mulM_ok {a b : Int} (h1 : -(2 ^ 64) < a) (h2 : a < 2 ^ 64) : mulM a b = some (a * b) := by unfold mulM; rw [if_pos (.inl ⟨h1, h2⟩)]
theorem modM_ok {a b : Int} (h : 0 < b) : modM a b = some (a % b) := by unfold modM; rw [if_pos h]
theorem fdivM_ok {a b : Int} (h : 0 < b) (h2 : b < 1073741824) : fdivM a b = some (a / b) := by unfold fdivM; rw [if_pos ⟨h, h2⟩]
theorem rngM_ok {a b : Int} (h1 : -100000 ≤ a) (h2 : a ≤ 100000) (h3 : -100000 ≤ b) (h4 : b ≤ 100000) : rngM a b = some (rngL a b) := by unfold rngM; rw [if_pos ⟨by omega, by omega, by omega, by omega⟩]
theorem mapC_ok {α β : Type} {f : α → β} {xs : List α} (h : xs.length ≤ 100000) : mapC f xs = some (xs.map f) := by unfold mapC; rw [if_pos h]
theorem filC_ok {α β : Type} {p : α → Bool} {f : α → β} {xs : List α} (h : xs.length ≤ 100000) : filC p f xs = some ((xs.filter p).map f) := by unfold filC; rw [if_pos h]
theorem lcC_ok {α β : Type} {f : α → Option (Option β)} {xs : List α} (h : xs.length ≤ 100000) : lcC f xs = lcM f xs := by unfold lcC; rw [if_pos h]
theorem lcM_all {α β : Type} {f : α → Option (Option β)} {g : α → β} : ∀ {xs : List α}, (∀ x ∈ xs, f x = some (some (g x))) → lcM f xs = some (xs.map g)
  | [], _ => rfl
  | x :: xs, h => by
    show (f x).bind _ = _
    rw [h x List.mem_cons_self, lcM_all fun y hy => h y (List.mem_cons_of_mem _ hy)]
    rfl
theorem lcM_fil {α β : Type} {f : α → Option (Option β)} {p : α → Bool} {g : α → β} : ∀ {xs : List α}, (∀ x ∈ xs, f x = some (if p x = true then some (g x) else none)) → lcM f xs = some ((xs.filter p).map g)
  | [], _ => rfl
  | x :: xs, h => by
    show (f x).bind _ = _
    rw [h x List.mem_cons_self, lcM_fil fun y hy => h y (List.mem_cons_of_mem _ hy), List.filter_cons]
    cases p x <;> rfl
/-- a loop whose every turn goes on keeps what it keeps -/
theorem foldlM_inv {α S : Type} {body : S → α → Option S} (J : Nat → S → Prop) : ∀ (xs : List α) (i : Nat) (s : S), J i s → (∀ (k : Nat) (x : α) (s : S), xs[k]? = some x → J (i + k) s → ∃ t, body s x = some t ∧ J (i + k + 1) t) → ∃ r, xs.foldlM body s = some r ∧ J (i + xs.length) r
  | [], i, s, h, _ => ⟨s, rfl, h⟩
  | x :: xs, i, s, h, hb => by
    obtain ⟨t, h1, h2⟩ := hb 0 x s rfl h
    obtain ⟨r, h3, h4⟩ := foldlM_inv J xs (i + 1) t h2 fun k y u hy hu => by
      have e : i + 1 + k = i + (k + 1) := by omega
      rw [e] at hu ⊢
      exact hb (k + 1) y u (by simpa using hy) hu
    refine ⟨r, ?_, ?_⟩
    · rw [List.foldlM_cons, h1]; exact h3
    · have e : i + (x :: xs).length = i + 1 + xs.length := by rw [List.length_cons]; omega
      rw [e]; exact h4
theorem forF_nx {α S R : Type} {body : S → α → Option (Fl S R)} (J : S → Prop) : ∀ (xs : List α) (s : S), J s → (∀ x ∈ xs, ∀ s, J s → ∃ t, body s x = some (.nx t) ∧ J t) → ∃ r, forF body xs s = some (.nx r) ∧ J r
  | [], s, h, _ => ⟨s, rfl, h⟩
  | x :: xs, s, h, hb => by
    obtain ⟨t, h1, h2⟩ := hb x List.mem_cons_self s h
    obtain ⟨r, h3, h4⟩ := forF_nx J xs t h2 fun y hy => hb y (List.mem_cons_of_mem _ hy)
    refine ⟨r, ?_, h4⟩
    show (body s x).bind _ = _
    rw [h1]; exact h3
theorem enumM_get {α : Type} {xs : List α} {k : Nat} {p : Int × α} (h : (enumM xs)[k]? = some p) : ∃ x, xs[k]? = some x ∧ p = ((k : Int), x) := by
  unfold enumM at h
  rw [List.getElem?_mapIdx] at h
  cases e : xs[k]? with
  | none => rw [e] at h; cases h
  | some x => rw [e] at h; cases h; exact ⟨x, rfl, rfl⟩
theorem enumM_len {α : Type} (xs : List α) : (enumM xs).length = xs.length := by simp [enumM]
theorem rngL_len (a b : Int) : (rngL a b).length = (b - a).toNat := by simp [rngL]
theorem rngL_get {a b : Int} {k : Nat} {x : Int} (h : (rngL a b)[k]? = some x) : x = a + (k : Int) ∧ k < (b - a).toNat := by
  unfold rngL at h
  rw [List.getElem?_map] at h
  cases e : (List.range (b - a).toNat)[k]? with
  | none => rw [e] at h; cases h
  | some j =>
    rw [e] at h
    obtain ⟨h1, h2⟩ := List.getElem?_eq_some_iff.mp e
    rw [List.getElem_range] at h2
    cases h
    subst h2
    exact ⟨rfl, by simpa using h1⟩
/-- each thing below its size -/
inductive Bel : List Int → List Int → Prop
  | nil : Bel [] []
  | cons {x s : Int} {xs ss : List Int} : 0 ≤ x → x < s → Bel xs ss → Bel (x :: xs) (s :: ss)
theorem Bel.len : ∀ {xs ss : List Int}, Bel xs ss → xs.length = ss.length
  | _, _, .nil => rfl
  | _, _, .cons _ _ h => by rw [List.length_cons, List.length_cons, h.len]
theorem Bel.snoc : ∀ {xs ss : List Int} {x s : Int}, Bel xs ss → 0 ≤ x → x < s → Bel (xs ++ [x]) (ss ++ [s])
  | _, _, _, _, .nil, h1, h2 => .cons h1 h2 .nil
  | _, _, _, _, .cons a b h, h1, h2 => .cons a b (h.snoc h1 h2)
theorem Bel.get : ∀ {xs ss : List Int} {k : Nat} {s : Int}, Bel xs ss → ss[k]? = some s → ∃ x, xs[k]? = some x ∧ 0 ≤ x ∧ x < s
  | _, _, _, _, .nil, e => by simp at e
  | _, _, 0, _, .cons a b h, e => by simp at e; subst e; exact ⟨_, rfl, a, b⟩
  | _, _, k + 1, s, .cons a b h, e => by
    obtain ⟨x, h1, h2⟩ := h.get (k := k) (s := s) (by simpa using e)
    exact ⟨x, by simpa using h1, h2⟩
theorem Bel.at {xs ss : List Int} {k : Nat} {s : Int} (h : Bel xs ss) (e : ss[k]? = some s) : ∃ x, atI xs (k : Int) = some x ∧ 0 ≤ x ∧ x < s := by
  obtain ⟨x, h1, h2, h3⟩ := h.get e
  obtain ⟨hk, h4⟩ := List.getElem?_eq_some_iff.mp h1
  exact ⟨x, by rw [atI_nn xs k hk, h4], h2, h3⟩
theorem Bel.rep : ∀ {xs : List Int} {n : Nat} {s : Int}, Bel xs (List.replicate n s) → xs.length = n ∧ ∀ x ∈ xs, 0 ≤ x ∧ x < s
  | _, 0, _, h => by cases h; exact ⟨rfl, fun x hx => by cases hx⟩
  | _, n + 1, s, h => by
    rw [List.replicate_succ] at h
    cases h with
    | cons a b h =>
      obtain ⟨h1, h2⟩ := h.rep
      refine ⟨by rw [List.length_cons, h1], fun x hx => ?_⟩
      rcases List.mem_cons.mp hx with rfl | hx
      · exact ⟨a, b⟩
      · exact h2 x hx
theorem absI_nn (c : Int) : 0 ≤ absI c := by unfold absI; split <;> omega
end Bw

namespace Bw
open PySem L2
/-! what is told, and what is true of it -/
def Rt {α : Type} (o : Option α) (P : α → Prop) : Prop := ∃ x, o = some x ∧ P x
theorem Rt.mono {α : Type} {o : Option α} {P Q : α → Prop} (h : Rt o P) (k : ∀ x, P x → Q x) : Rt o Q := let ⟨x, h1, h2⟩ := h; ⟨x, h1, k x h2⟩
theorem Rt.mo {α : Type} {o : Option α} {P Q : α → Prop} (h : Rt o P) (k : ∀ x, o = some x → P x → Q x) : Rt o Q := let ⟨x, h1, h2⟩ := h; ⟨x, h1, k x h1 h2⟩
theorem Rt.eq {α : Type} {o : Option α} {y : α} (h : Rt o fun x => x = y) : o = some y := let ⟨x, h1, h2⟩ := h; h2 ▸ h1
theorem rt_of {α : Type} {o : Option α} {x : α} {P : α → Prop} (h : o = some x) (p : P x) : Rt o P := ⟨x, h, p⟩
theorem rt_some {α : Type} {x : α} {P : α → Prop} : Rt (some x) P ↔ P x := ⟨fun ⟨y, h1, h2⟩ => (Option.some.inj h1) ▸ h2, fun h => ⟨x, rfl, h⟩⟩
theorem rt_bind {α β : Type} {a : Option α} {f : α → Option β} {P : β → Prop} : Rt (a.bind f) P ↔ Rt a fun x => Rt (f x) P := by
  constructor
  · rintro ⟨y, h1, h2⟩
    obtain ⟨x, h3, h4⟩ := bnd h1
    exact ⟨x, h3, y, h4, h2⟩
  · rintro ⟨x, h3, y, h4, h2⟩
    exact ⟨y, by rw [h3]; exact h4, h2⟩
theorem rt_let {α β : Type} {x : α} {f : α → Option β} {P : β → Prop} : Rt (letM x f) P ↔ Rt (f x) P := Iff.rfl
theorem rt_ite {α : Type} {c : Prop} [Decidable c] {a b : Option α} {P : α → Prop} : Rt (if c then a else b) P ↔ (c → Rt a P) ∧ (¬ c → Rt b P) := by
  by_cases h : c
  · rw [if_pos h]; exact ⟨fun k => ⟨fun _ => k, fun z => absurd h z⟩, fun k => k.1 h⟩
  · rw [if_neg h]; exact ⟨fun k => ⟨fun z => absurd z h, fun _ => k⟩, fun k => k.2 h⟩
theorem rt_pos {α : Type} {c : Prop} [Decidable c] {a b : Option α} {P : α → Prop} (h : c) (k : Rt a P) : Rt (if c then a else b) P := by rw [if_pos h]; exact k
theorem rt_neg {α : Type} {c : Prop} [Decidable c] {a b : Option α} {P : α → Prop} (h : ¬ c) (k : Rt b P) : Rt (if c then a else b) P := by rw [if_neg h]; exact k
theorem rt_if {α : Type} {c : Prop} [Decidable c] {x : α} {P : Prop} [Decidable P] {Q : α → Prop} {o : Prop} (h : o) : o := h
theorem rt_g {α : Type} {p : Prop} [Decidable p] {x : α} {P : α → Prop} : Rt (if p then some x else none) P ↔ p ∧ P x := by
  by_cases h : p
  · rw [if_pos h, rt_some]; exact ⟨fun k => ⟨h, k⟩, fun k => k.2⟩
  · rw [if_neg h]; exact ⟨fun ⟨_, z, _⟩ => (nomatch z), fun k => absurd k.1 h⟩
theorem rt_app {α : Type} {xs : List α} {x : α} {P : List α → Prop} : Rt (appM xs x) P ↔ xs.length < 100000 ∧ P (xs ++ [x]) := by unfold appM; exact rt_g
theorem rt_cat {α : Type} {xs ys : List α} {P : List α → Prop} : Rt (catM xs ys) P ↔ xs.length + ys.length ≤ 100000 ∧ P (xs ++ ys) := by unfold catM; exact rt_g
theorem rt_mul {a b : Int} {P : Int → Prop} : Rt (mulM a b) P ↔ ((-(2 ^ 64) < a ∧ a < 2 ^ 64) ∨ (-(2 ^ 64) < b ∧ b < 2 ^ 64)) ∧ P (a * b) := by unfold mulM; exact rt_g
theorem rt_mod {a b : Int} {P : Int → Prop} : Rt (modM a b) P ↔ 0 < b ∧ P (a % b) := by unfold modM; exact rt_g
theorem rt_fdiv {a b : Int} {P : Int → Prop} : Rt (fdivM a b) P ↔ (0 < b ∧ b < 1073741824) ∧ P (a / b) := by unfold fdivM; exact rt_g
theorem rt_rng {a b : Int} {P : List Int → Prop} : Rt (rngM a b) P ↔ (-(2 ^ 62) ≤ a ∧ a < 2 ^ 62 ∧ -(2 ^ 62) ≤ b ∧ b < 2 ^ 62) ∧ P (rngL a b) := by unfold rngM; exact rt_g
theorem rt_scat {x y : Str} {P : Str → Prop} : Rt (scatM x y) P ↔ x.length + y.length ≤ 100000 ∧ P (x ++ y) := by unfold scatM; exact rt_g
theorem rt_lenS {x : Str} {P : Int → Prop} : Rt (lenS x) P ↔ x.length ≤ 100000 ∧ P (x.length : Int) := by unfold lenS; exact rt_g
theorem rt_str {x : Int} {P : Str → Prop} : Rt (strM x) P ↔ x.natAbs.log2 < 1920 ∧ P (toString x) := by unfold strM; exact rt_g
theorem rt_join {x : Str} {xs : List Str} {P : Str → Prop} : Rt (joinM x xs) P ↔ ((xs.map (·.length)).sum + x.length * xs.length) ≤ 100000 ∧ P (Txt.join x xs) := by unfold joinM; exact rt_g
theorem rt_mapC {α β : Type} {f : α → β} {xs : List α} {P : List β → Prop} : Rt (mapC f xs) P ↔ xs.length ≤ 100000 ∧ P (xs.map f) := by unfold mapC; exact rt_g
theorem rt_filC {α β : Type} {p : α → Bool} {f : α → β} {xs : List α} {P : List β → Prop} : Rt (filC p f xs) P ↔ xs.length ≤ 100000 ∧ P ((xs.filter p).map f) := by unfold filC; exact rt_g
theorem rt_lcC {α β : Type} {f : α → Option (Option β)} {xs : List α} {P : List β → Prop} : Rt (lcC f xs) P ↔ xs.length ≤ 100000 ∧ Rt (lcM f xs) P := by
  unfold lcC
  by_cases h : xs.length ≤ 100000
  · rw [if_pos h]; exact ⟨fun k => ⟨h, k⟩, fun k => k.2⟩
  · rw [if_neg h]; exact ⟨fun ⟨_, z, _⟩ => (nomatch z), fun k => absurd k.1 h⟩
theorem rt_rep {α : Type} {xs : List α} {k : Int} {P : List α → Prop} : Rt (repM xs k) P ↔ (-(2 ^ 63) ≤ k ∧ k < 2 ^ 63 ∧ xs.length * k.toNat ≤ 100000) ∧ P (List.replicate k.toNat xs).flatten := by unfold repM; exact rt_g
theorem rt_at {α : Type} {xs : List α} {i : Int} {P : α → Prop} (h0 : 0 ≤ i) (h : i < xs.length) (k : ∀ x, xs[i.toNat]? = some x → P x) : Rt (atI xs i) P := by
  obtain ⟨x, h1, h2⟩ := atI_int xs i h0 h
  exact ⟨x, h1, k x h2⟩
theorem rt_lc {α β : Type} {f : α → Option (Option β)} {R : α → β → Prop} : ∀ {xs : List α} {P : List β → Prop}, (∀ x ∈ xs, Rt (f x) fun o => ∃ y, o = some y ∧ R x y) → (∀ ys : List β, ys.length = xs.length → (∀ (i : Nat) x y, xs[i]? = some x → ys[i]? = some y → R x y) → P ys) → Rt (lcM f xs) P
  | [], P, _, k => ⟨[], rfl, k [] rfl fun i x y h => by simp at h⟩
  | x :: xs, P, h, k => by
    obtain ⟨o, h1, y, rfl, h2⟩ := h x List.mem_cons_self
    obtain ⟨ys, h3, h4, h5⟩ := rt_lc (xs := xs) (P := fun ys => ys.length = xs.length ∧ ∀ (i : Nat) x y, xs[i]? = some x → ys[i]? = some y → R x y) (fun z hz => h z (List.mem_cons_of_mem _ hz)) fun ys a b => ⟨a, b⟩
    refine ⟨y :: ys, ?_, k _ (by simp [h4]) fun i x' y' hx hy => ?_⟩
    · show (f x).bind _ = _
      rw [h1]
      show (lcM f xs).bind _ = _
      rw [h3]; rfl
    · cases i with
      | zero => simp at hx hy; subst hx; subst hy; exact h2
      | succ i => exact h5 i x' y' (by simpa using hx) (by simpa using hy)
/-- a loop by what it keeps: the turns so far -/
theorem rt_fold {α S : Type} {body : S → α → Option S} {xs : List α} {s : S} {P : S → Prop} (J : Nat → S → Prop) (h0 : J 0 s) (hb : ∀ (k : Nat) x s, xs[k]? = some x → J k s → Rt (body s x) (J (k + 1))) (hd : ∀ s, J xs.length s → P s) : Rt (xs.foldlM body s) P := by
  obtain ⟨r, h1, h2⟩ := foldlM_inv (body := body) J xs 0 s h0 fun k x t hx ht => by
    rw [Nat.zero_add] at ht ⊢
    exact hb k x t hx ht
  exact ⟨r, h1, hd r (by rwa [Nat.zero_add] at h2)⟩
/-- a loop that goes through -/
theorem rt_for {α S R : Type} {body : S → α → Option (Fl S R)} {xs : List α} {s : S} {P : Fl S R → Prop} (J : S → Prop) (h0 : J s) (hb : ∀ x ∈ xs, ∀ s, J s → Rt (body s x) fun f => ∃ t, f = .nx t ∧ J t) (hd : ∀ s, J s → P (.nx s)) : Rt (forF body xs s) P := by
  obtain ⟨r, h1, h2⟩ := forF_nx (body := body) J xs s h0 fun x hx t ht => by
    obtain ⟨f, h1, u, rfl, h2⟩ := hb x hx t ht
    exact ⟨u, h1, h2⟩
  exact ⟨_, h1, hd r h2⟩
end Bw

namespace Bw
open PySem L2 TL
/-! good stores -/
abbrev Bx := Str × Int × Int
abbrev Sto := List Int × List Int × Int × List Bx
theorem popM_ok {α : Type} {xs : List α} (i : Nat) (h : i < xs.length) (hl : xs.length < 1000000) : popM xs (i : Int) = some (xs[i], xs.eraseIdx i) := by
  unfold popM
  rw [if_pos ⟨by omega, by omega⟩]
  have e : seqIndex? (i : Int) xs.length = some i := by
    unfold seqIndex?
    have h0 : ¬ ((i : Int) < 0) := by omega
    simp only [if_neg h0, Int.toNat_natCast]
    rw [if_pos]
    simp; omega
  rw [bo e, List.getElem?_eq_getElem h]
  rfl
theorem erase_perm {α : Type} : ∀ (xs : List α) (i : Nat) (h : i < xs.length), xs.Perm (xs[i] :: xs.eraseIdx i)
  | x :: xs, 0, _ => .refl _
  | x :: xs, i + 1, h => by
    have h' : i < xs.length := by simpa using h
    exact ((erase_perm xs i h').cons x).trans (.swap _ _ _)
theorem remM_ok {xs : List Int} {x : Int} (h : x ∈ xs) : remM xs x = some (xs.erase x) := by
  unfold remM inL
  rw [if_pos]
  exact List.any_eq_true.mpr ⟨x, h, by simp⟩
theorem fold_arr (c : Nat) : ∀ (n : Nat) (a : Array Nat), ((List.replicate n #[c]).foldl (· ++ ·) a).toList = a.toList ++ List.replicate n c
  | 0, a => by simp
  | n + 1, a => by
    rw [List.replicate_succ, List.foldl_cons, fold_arr c n, List.replicate_succ]
    simp
theorem tl_mul1 (x : Str) (c : Nat) (hx : tl x = [c]) (n : Int) : tl (Txt.mul x n) = List.replicate n.toNat c := by
  have e : x = ⟨#[c]⟩ := ext_tl hx
  subst e
  unfold Txt.mul
  split
  · rename_i h
    have : n.toNat = 0 := by omega
    rw [this]; rfl
  · split
    · rename_i h1 h2
      simp [Str.length] at h2
      subst h2
      rfl
    · show ((List.replicate n.toNat #[c]).foldl (· ++ ·) #[]).toList = _
      rw [fold_arr]; rfl
theorem srepM_ok (x : Str) (c : Nat) (hx : tl x = [c]) (n : Int) (h0 : 0 ≤ n) (h : n ≤ 100) : srepM x n = some ⟨(List.replicate n.toNat c).toArray⟩ := by
  unfold srepM
  have hl : x.length = 1 := by rw [len_tl, hx]; rfl
  rw [if_pos ⟨by omega, by omega, by rw [hl]; omega⟩]
  exact congrArg some (ext_tl (by rw [tl_mul1 x c hx]))
theorem scatM_ok (x y : Str) (h : (tl x).length + (tl y).length ≤ 100000) : scatM x y = some ⟨(tl x ++ tl y).toArray⟩ := by
  unfold scatM
  rw [len_tl, len_tl, if_pos h]
  exact congrArg some (ext_tl (by rw [tl_append]))
abbrev abc : Str := "abcdefghijklmnopqrstuvwxyz"
theorem abc_ix : ∀ i : Fin 26, ixS abc ((i.val : Nat) : Int) = some ⟨#[97 + i.val]⟩ := by decide +kernel
theorem abc_at (i : Int) (h0 : 0 ≤ i) (h : i < 26) : ixS abc i = some ⟨#[97 + i.toNat]⟩ := by
  have := abc_ix ⟨i.toNat, by omega⟩
  simp only at this
  rw [← this]
  congr 1
  omega
def NmOk (s : Str) : Prop := 1 ≤ (tl s).length ∧ (tl s).length ≤ 8 ∧ ∀ c ∈ tl s, 97 ≤ c ∧ c ≤ 122
structure BxOk (rooms : List Int) (bs : List Bx) : Prop where
  len : bs.length ≤ 60
  nm : ∀ x ∈ bs, NmOk x.1
  nd : (bs.map (·.1)).Nodup
  ba : ∀ x ∈ bs, 0 ≤ x.2.1 ∧ x.2.1 < rooms.length
  bt : ∀ x ∈ bs, 0 ≤ x.2.2 ∧ x.2.2 < rooms.length
  ra : ∀ (b : Nat) (r : Int), rooms[b]? = some r → (bs.countP fun x => decide (x.2.1 = (b : Int))) ≤ r.toNat
  rt : ∀ (b : Nat) (r : Int), rooms[b]? = some r → (bs.countP fun x => decide (x.2.2 = (b : Int))) ≤ r.toNat
structure SOk (s : Sto) : Prop where
  n2 : 2 ≤ s.1.length
  n16 : s.1.length ≤ 16
  rm : ∀ r ∈ s.1, 1 ≤ r ∧ r ≤ 40
  gl : s.2.1.length + 1 = s.1.length
  gm : ∀ g ∈ s.2.1, 1 ≤ g ∧ g ≤ 1000000000
  mo : 1 ≤ s.2.2.1 ∧ s.2.2.1 ≤ 20
  bx : BxOk s.1 s.2.2.2
/-! equal to its copy -/
def Shp (n : Nat) (d : PyData) : Prop := d.canLay0 = true ∧ d.depth ≤ n
theorem Shp.mono {n m : Nat} {d : PyData} (h : Shp n d) (hm : n ≤ m) : Shp m d := ⟨h.1, Nat.le_trans h.2 hm⟩
theorem shp_int (i : Int) : Shp 0 (.int i) := ⟨rfl, Nat.le_refl _⟩
theorem shp_all {n : Nat} : ∀ {xs : List PyData}, (∀ x ∈ xs, Shp n x) → PyData.canLayAll0 xs = true ∧ PyData.depthAll xs ≤ n
  | [], _ => ⟨rfl, Nat.zero_le _⟩
  | x :: xs, h => by
    obtain ⟨a, b⟩ := shp_all fun y hy => h y (List.mem_cons_of_mem _ hy)
    obtain ⟨c, d⟩ := h x List.mem_cons_self
    unfold PyData.canLayAll0 PyData.depthAll
    rw [a, c]
    exact ⟨rfl, Nat.max_le.mpr ⟨d, b⟩⟩
theorem shp_list {n : Nat} {xs : List PyData} (h : ∀ x ∈ xs, Shp n x) : Shp (n + 1) (.list xs) := by
  obtain ⟨a, b⟩ := shp_all h
  exact ⟨by unfold PyData.canLay0; exact a, by unfold PyData.depth; omega⟩
theorem shp_tup {n : Nat} {xs : List PyData} (h : ∀ x ∈ xs, Shp n x) : Shp (n + 1) (.tuple xs) := by
  obtain ⟨a, b⟩ := shp_all h
  exact ⟨by unfold PyData.canLay0; exact a, by unfold PyData.depth; omega⟩
theorem shp_str {s : Str} (h : ∀ c ∈ tl s, c < 0x110000) : Shp 0 (.str s) := by
  refine ⟨?_, Nat.le_refl _⟩
  unfold PyData.canLay0 PyData.strOk
  rw [Array.all_eq_true']
  intro c hc
  exact decide_eq_true (h c (Array.mem_def.mp hc))
theorem shp_ints (xs : List Int) : Shp 1 (eL eI xs) := shp_list fun x hx => by
  obtain ⟨i, _, rfl⟩ := List.mem_map.mp hx
  exact shp_int i
theorem shp_box {x : Bx} (h : NmOk x.1) : Shp 1 (eT3 eS eI eI x) := shp_tup fun y hy => by
  have hs : Shp 0 (eS x.1) := shp_str fun c hc => by have := h.2.2 c hc; omega
  simp only [List.mem_cons, List.not_mem_nil, or_false] at hy
  rcases hy with rfl | rfl | rfl
  · exact hs
  · exact shp_int _
  · exact shp_int _
theorem shp_boxes {bs : List Bx} (h : ∀ x ∈ bs, NmOk x.1) : Shp 2 (eL (eT3 eS eI eI) bs) := shp_list fun x hx => by
  obtain ⟨y, hy, rfl⟩ := List.mem_map.mp hx
  exact shp_box (h y hy)
theorem shp_store {s : Sto} (h : SOk s) : Shp 3 (eT4 (eL eI) (eL eI) eI (eL (eT3 eS eI eI)) s) := shp_tup fun y hy => by
  simp only [List.mem_cons, List.not_mem_nil, or_false] at hy
  rcases hy with rfl | rfl | rfl | rfl
  · exact (shp_ints _).mono (by decide)
  · exact (shp_ints _).mono (by decide)
  · exact (shp_int _).mono (by decide)
  · exact shp_boxes h.bx.nm
theorem Shp.ok {n : Nat} {d : PyData} (h : Shp n d) (hn : n ≤ 64) : SeqAt.shaped d = true := by
  unfold SeqAt.shaped
  rw [h.1, decide_eq_true (Nat.le_trans h.2 hn)]; rfl
theorem eqT_self {α : Type} [DecidableEq α] {e : α → PyData} {x : α} {n : Nat} (h : Shp n (e x)) (hn : n ≤ 64) : eqTM e x x = some true := by
  unfold eqTM
  rw [if_pos ⟨h.ok hn, h.ok hn⟩, decide_eq_true rfl]
theorem setM_ok {α : Type} {xs : List α} {i : Int} (x : α) (h0 : 0 ≤ i) (h : i < xs.length) : setM xs i x = some (xs.set i.toNat x) := by
  unfold setM ixN
  rw [if_pos h0, if_pos h]
  rfl
theorem cut_take {α : Type} (xs : List α) (i : Int) (h0 : 0 ≤ i) : cutL xs none (some i) = xs.take i.toNat := by
  obtain ⟨k, rfl⟩ : ∃ k : Nat, i = k := ⟨i.toNat, by omega⟩
  unfold cutL
  rw [HT.sIx_none, HT.sIx_nat, Int.toNat_natCast, List.drop_zero, Nat.sub_zero]
  by_cases h : k ≤ xs.length
  · rw [Nat.min_eq_left h]
  · rw [Nat.min_eq_right (by omega), List.take_of_length_le (Nat.le_refl _), List.take_of_length_le (by omega)]
theorem bx_take {rooms : List Int} {bs : List Bx} (h : BxOk rooms bs) (n : Nat) : BxOk rooms (bs.take n) := by
  have sub := List.take_sublist n bs
  refine ⟨Nat.le_trans sub.length_le h.len, fun x hx => h.nm x (sub.mem hx), h.nd.sublist (sub.map _), fun x hx => h.ba x (sub.mem hx), fun x hx => h.bt x (sub.mem hx), fun b r e => Nat.le_trans (sub.countP_le) (h.ra b r e), fun b r e => Nat.le_trans (sub.countP_le) (h.rt b r e)⟩
theorem bx_room {rooms rooms' : List Int} {bs : List Bx} (h : BxOk rooms bs) (hl : rooms'.length = rooms.length) (hg : ∀ (b : Nat) (r' : Int), rooms'[b]? = some r' → ∃ r, rooms[b]? = some r ∧ r ≤ r') : BxOk rooms' bs := by
  refine ⟨h.len, h.nm, h.nd, by rw [hl]; exact h.ba, by rw [hl]; exact h.bt, fun b r' e => ?_, fun b r' e => ?_⟩
  · obtain ⟨r, e1, e2⟩ := hg b r' e
    have := h.ra b r e1; omega
  · obtain ⟨r, e1, e2⟩ := hg b r' e
    have := h.rt b r e1; omega
end Bw

namespace Bw
open PySem L2 TL
/-! good names are names -/
theorem whole_ok (x : Int) : f_is_whole x = some true := rfl
theorem between_eq (x a b : Int) : f_is_between (x, a, b) = some (decide (a ≤ x) && decide (x ≤ b)) := by
  unfold f_is_between
  dsimp only
  rw [bo (whole_ok x), Bool.true_and]
theorem between_ok {x a b : Int} (h1 : a ≤ x) (h2 : x ≤ b) : f_is_between (x, a, b) = some true := by rw [between_eq, decide_eq_true h1, decide_eq_true h2]; rfl
theorem all_id : ∀ {α : Type} (xs : List α), (xs.map fun _ => true).all id = true
  | _, [] => rfl
  | _, _ :: xs => by rw [List.map_cons, List.all_cons, all_id xs]; rfl
theorem inS_abc {c : Nat} (h1 : 97 ≤ c) (h2 : c ≤ 122) : inS ⟨#[c]⟩ "abcdefghijklmnopqrstuvwxyz" = true := by
  have h : ∀ i : Fin 26, 97 + i.val ∈ tl ("abcdefghijklmnopqrstuvwxyz" : Str) := by decide +kernel
  unfold inS
  rw [PySem.StrLaws.found_one, decide_eq_true_eq]
  have := h ⟨c - 97, by omega⟩
  have e : 97 + (c - 97) = c := by omega
  simpa [e] using this
theorem is_name_ok {s : Str} (h : NmOk s) : f_is_name s = some true := by
  obtain ⟨h1, h2, h3⟩ := h
  unfold f_is_name
  have hl : lenS s = some ((tl s).length : Int) := by unfold lenS; rw [len_tl, if_pos (by omega)]
  have e : mapC (fun sign_20 => inS sign_20 ("abcdefghijklmnopqrstuvwxyz" : Str)) (signs s) = some ((signs s).map fun _ => true) := by
    rw [mapC_ok (by simp [signs]; have := len_tl s; simp [tl, Str.length] at *; omega)]
    refine congrArg some (List.map_congr_left fun x hx => ?_)
    obtain ⟨c, hc, rfl⟩ := List.mem_map.mp hx
    exact inS_abc (h3 c hc).1 (h3 c hc).2
  rw [if_neg (by decide), bo hl]
  have g : (!(decide ((1 : Int) ≤ ((tl s).length : Int)) && decide (((tl s).length : Int) ≤ 8))) = false := by
    rw [decide_eq_true (by omega), decide_eq_true (by omega)]; rfl
  rw [g, bo rfl, if_neg (by decide), bo e, all_id]
end Bw

namespace Bw
open PySem L2 TL
/-- lists by their places -/
def lst (N : Nat) (g : Nat → Int) : List Int := (List.range N).map g
theorem lst_len (N : Nat) (g : Nat → Int) : (lst N g).length = N := by simp [lst]
theorem lst_get {N : Nat} {g : Nat → Int} {i : Nat} (h : i < N) : (lst N g)[i]? = some (g i) := by simp [lst, List.getElem?_map, List.getElem?_range h]
theorem lst_ext {N : Nat} {g : Nat → Int} {xs : List Int} (hl : xs.length = N) (h : ∀ i, i < N → xs[i]? = some (g i)) : xs = lst N g := by
  apply List.ext_getElem?
  intro i
  by_cases hi : i < N
  · rw [h i hi, lst_get hi]
  · rw [List.getElem?_eq_none (by omega), List.getElem?_eq_none (by rw [lst_len]; omega)]
theorem lst_at {N : Nat} {g : Nat → Int} {k : Int} (h0 : 0 ≤ k) (h : k < N) : atI (lst N g) k = some (g k.toNat) := by
  obtain ⟨x, h1, h2⟩ := atI_int (lst N g) k h0 (by rw [lst_len]; exact h)
  rw [lst_get (by omega)] at h2
  rw [h1, ← h2]
theorem lst_set {N : Nat} {g : Nat → Int} {k v : Int} (h0 : 0 ≤ k) (h : k < N) : setM (lst N g) k v = some (lst N fun i => if i = k.toNat then v else g i) := by
  rw [setM_ok v h0 (by rw [lst_len]; exact h)]
  refine congrArg some (lst_ext (by rw [List.length_set, lst_len]) fun i hi => ?_)
  rw [List.getElem?_set]
  by_cases e : i = k.toNat
  · rw [if_pos e.symm, if_pos (by rw [lst_len]; omega), if_pos e]
  · rw [if_neg (fun z => e z.symm), lst_get hi, if_neg e]
theorem eqD_self {d : PyData} {n : Nat} (h : Shp n d) (hn : n ≤ 64) : eqDM d d = some true := by
  unfold eqDM
  rw [if_pos ⟨h.ok hn, h.ok hn⟩, SeqAt.eqv_refl _ h.1]
end Bw

namespace Bw
open PySem L2 TL
/-! pools of digits -/
def Pl (s : List Int) : Prop := ∃ a b : Int, s = [a, b] ∧ 0 ≤ b ∧ b < 2147483647
theorem take_ok {s : List Int} (h : Pl s) (m : Int) (hm : 0 < m) (hm2 : m < 1073741824) : ∃ x s', f_take (s, m) = some (x, s') ∧ 0 ≤ x ∧ x < m ∧ Pl s' := by
  obtain ⟨a, b, rfl, hb1, hb2⟩ := h
  have e0 : atI [a, b] 0 = some a := rfl
  have e1 : atI [a, b] 1 = some b := rfl
  unfold f_take
  dsimp only
  rw [bo e0]
  by_cases q : 0 < a
  · rw [if_pos (decide_eq_true q), bo e0, bo (modM_ok hm), bo e0, bo (fdivM_ok hm hm2), bo (show setM [a, b] 0 (a / m) = some [a / m, b] from rfl)]
    exact ⟨_, _, rfl, Int.emod_nonneg _ (by omega), Int.emod_lt_of_pos _ hm, _, _, rfl, hb1, hb2⟩
  · rw [if_neg (by simpa using q), bo e1, bo (show setM [a, b] 1 ((b * 48271 + 11) % 2147483647) = some [a, (b * 48271 + 11) % 2147483647] from rfl)]
    have k1 := Int.emod_nonneg (b * 48271 + 11) (show (2147483647 : Int) ≠ 0 by decide)
    have k2 := Int.emod_lt_of_pos (b * 48271 + 11) (show (0 : Int) < 2147483647 by decide)
    generalize (b * 48271 + 11) % 2147483647 = z at k1 k2
    have e2 : atI [a, z] 1 = some z := rfl
    rw [bo e2, bo e2, bo (mulM_ok (by omega) (by omega)), bo (modM_ok hm)]
    exact ⟨_, _, rfl, Int.emod_nonneg _ (by omega), Int.emod_lt_of_pos _ hm, _, _, rfl, k1, k2⟩
end Bw

namespace Bw
open PySem L2 TL
/-! aisles and orders -/
abbrev Ai := List Int × Int
abbrev Od := Str × Int × Int × Int
structure AOk (a : Ai) : Prop where
  n1 : 1 ≤ a.1.length
  n15 : a.1.length ≤ 15
  gm : ∀ g ∈ a.1, 1 ≤ g ∧ g ≤ 1000
  mo : 1 ≤ a.2 ∧ a.2 ≤ 20
structure OOk (n : Nat) (os : List Od) : Prop where
  l60 : os.length ≤ 60
  nm : ∀ x ∈ os, NmOk x.1
  nd : (os.map (·.1)).Nodup
  tk : ∀ x ∈ os, 0 ≤ x.2.1 ∧ x.2.1 ≤ 1000000000
  by_ : ∀ x ∈ os, 0 ≤ x.2.2.1 ∧ x.2.2.1 ≤ n ∧ 0 ≤ x.2.2.2 ∧ x.2.2.2 ≤ n ∧ x.2.2.1 ≠ x.2.2.2
  so : os.Pairwise fun x y => x.2.1 ≤ y.2.1
theorem pool_ok (s : List Int) (k : Int) (h : 0 ≤ k) (hk : k ≤ 100) : Rt (f_pool (s, k)) Pl := by
  unfold f_pool
  dsimp only
  have hc : ∃ c, (if (decide (k < (s.length : Int))) = true then (atI s k).bind fun x => some x else some (0 : Int)) = some c := by
    by_cases q : k < (s.length : Int)
    · rw [if_pos (decide_eq_true q)]
      obtain ⟨x, h1, _⟩ := atI_int s k h q
      exact ⟨x, by rw [bo h1]⟩
    · exact ⟨0, by rw [if_neg (by simpa using q)]⟩
  obtain ⟨c, hc⟩ := hc
  rw [bo hc, bo (mulM_ok (by omega) (by omega)), letM_eq, rt_bind, rt_ite]
  exact ⟨fun _ => rt_some.mpr (rt_some.mpr ⟨_, _, rfl, Int.emod_nonneg _ (by decide), Int.emod_lt_of_pos _ (by decide)⟩), fun _ => rt_some.mpr (rt_some.mpr ⟨_, _, rfl, Int.emod_nonneg _ (by decide), Int.emod_lt_of_pos _ (by decide)⟩)⟩
theorem takes_lc (m : Int) (hm : 0 < m) (hm2 : m < 1073741824) : ∀ (xs : List Int) (s : List Int), Pl s → ∃ s' ys, lcS (fun (z : List Int) (_ : Int) => (f_take (z, m)).bind fun (x, z') => some (z', some (1 + x))) s xs = some (s', ys) ∧ Pl s' ∧ ys.length = xs.length ∧ ∀ y ∈ ys, 1 ≤ y ∧ y ≤ m
  | [], s, h => ⟨s, [], rfl, h, rfl, fun y hy => by cases hy⟩
  | x :: xs, s, h => by
    obtain ⟨u, s1, a1, u0, u1, h1⟩ := take_ok h m hm hm2
    obtain ⟨s2, ys, a2, h2, hl, hy⟩ := takes_lc m hm hm2 xs s1 h1
    refine ⟨s2, (1 + u) :: ys, ?_, h2, by simp [hl], fun y hy' => ?_⟩
    · unfold lcS
      rw [a1]
      show ((lcS _ s1 xs).bind _) = _
      rw [a2]; rfl
    · rcases List.mem_cons.mp hy' with rfl | hy'
      · omega
      · exact hy y hy'
theorem takes_lcC (m : Int) (hm : 0 < m) (hm2 : m < 1073741824) (xs s : List Int) (h : Pl s) (hl : xs.length ≤ 1000) : ∃ s' ys, lcSC (fun (z : List Int) (_ : Int) => (f_take (z, m)).bind fun (x, z') => some (z', some (1 + x))) s xs = some (s', ys) ∧ Pl s' ∧ ys.length = xs.length ∧ ∀ y ∈ ys, 1 ≤ y ∧ y ≤ m := by
  obtain ⟨s', ys, e, r⟩ := takes_lc m hm hm2 xs s h
  exact ⟨s', ys, by unfold lcSC; rw [if_pos (by omega)]; exact e, r⟩
theorem aisle_ok {p : List Int} (hp : Pl p) (mg lo : Int) (h1 : 1 ≤ mg) (h2 : mg ≤ 15) (h3 : 1 ≤ lo) (h4 : lo ≤ 1000) : Rt (f_aisle (p, mg, lo)) fun r => AOk r.1 ∧ Pl r.2 := by
  unfold f_aisle
  dsimp only
  obtain ⟨x, p1, e1, x0, x1, hp1⟩ := take_ok hp mg (by omega) (by omega)
  rw [bo e1]
  dsimp only
  rw [bo (rngM_ok (by omega) (by omega) (by omega) (by omega))]
  obtain ⟨p2, gs, e2, hp2, gl, gm⟩ := takes_lcC lo (by omega) (by omega) (rngL 0 (1 + x)) p1 hp1 (by rw [rngL_len]; omega)
  rw [rngL_len] at gl
  rw [bo e2]
  dsimp only
  obtain ⟨y, p3, e3, y0, y1, hp3⟩ := take_ok hp2 3 (by decide) (by decide)
  rw [bo e3]
  dsimp only
  have pick : ∃ z, atI ([1, 3, 20] : List Int) y = some z ∧ 1 ≤ z ∧ z ≤ 20 := by
    have : y = 0 ∨ y = 1 ∨ y = 2 := by omega
    rcases this with rfl | rfl | rfl
    · exact ⟨_, rfl, by decide, by decide⟩
    · exact ⟨_, rfl, by decide, by decide⟩
    · exact ⟨_, rfl, by decide, by decide⟩
  obtain ⟨z, z1, z2, z3⟩ := pick
  obtain ⟨w, p4, e4, w0, w1, hp4⟩ := take_ok hp3 z (by omega) (by omega)
  rw [bo z1, bo e4]
  dsimp only
  rw [letM_eq]
  refine rt_some.mpr ⟨⟨by dsimp only; omega, by dsimp only; omega, fun g hg => ?_, by dsimp only; omega, by dsimp only; omega⟩, hp4⟩
  have := gm g hg
  omega
/-! names -/
def suf : Int → List Nat
  | 0 => []
  | 1 => [97]
  | _ => [122, 122]
theorem suf_ok (q : Int) (h : q = 0 ∨ q = 1 ∨ q = 2) : (suf q).length ≤ 2 ∧ ∀ c ∈ suf q, 97 ≤ c ∧ c ≤ 122 := by
  rcases h with rfl | rfl | rfl <;> decide
def nmt (k s : Int) : List Nat :=
  let a := (97 + ((37 * k + s) % 61 % 26).toNat) :: suf ((37 * k + s) % 61 / 26)
  let b := List.replicate (s / 26 % 6).toNat (97 + (s % 26).toNat)
  if s % 2 = 0 then b ++ a else a ++ b
theorem name_ok (k s : Int) : ∃ x, f_name (k, s) = some x ∧ tl x = nmt k s := by
  unfold f_name nmt
  dsimp only
  simp only [letM_eq]
  have a0 := Int.emod_nonneg (37 * k + s) (show (61 : Int) ≠ 0 by decide)
  have a1 := Int.emod_lt_of_pos (37 * k + s) (show (0 : Int) < 61 by decide)
  generalize (37 * k + s) % 61 = t at a0 a1
  have e : ∃ z : Str, atI (["", "a", "zz"] : List Str) (t / 26) = some z ∧ tl z = suf (t / 26) := by
    have : t / 26 = 0 ∨ t / 26 = 1 ∨ t / 26 = 2 := by omega
    rcases this with q | q | q <;> rw [q]
    · exact ⟨"", rfl, by decide +kernel⟩
    · exact ⟨"a", rfl, by decide +kernel⟩
    · exact ⟨"zz", rfl, by decide +kernel⟩
  obtain ⟨z, z1, z2⟩ := e
  have hs := (suf_ok (t / 26) (by omega)).1
  have l1 : (tl z).length ≤ 2 := by rw [z2]; exact hs
  rw [bo (abc_at (t % 26) (by omega) (by omega)), bo z1, bo (scatM_ok _ _ (by show 1 + _ ≤ _; omega)), bo (abc_at (s % 26) (by omega) (by omega)), bo (srepM_ok _ _ rfl _ (by omega) (by omega))]
  have tx : ∀ xs : List Nat, tl (⟨xs.toArray⟩ : Str) = xs := fun xs => rfl
  have o1 : tl (⟨#[97 + (t % 26).toNat]⟩ : Str) = [97 + (t % 26).toNat] := rfl
  by_cases q : s % 2 = 0
  · rw [if_pos (decide_eq_true q), if_pos q, bo (scatM_ok _ _ (by rw [tx, tx, List.length_replicate, List.length_append, o1, List.length_singleton]; omega))]
    refine ⟨_, rfl, ?_⟩
    rw [tx, tx, tx, o1, z2]; rfl
  · rw [if_neg (by simpa using q), if_neg q, bo (scatM_ok _ _ (by simp only [tx, o1, List.length_replicate, List.length_append, List.length_singleton]; omega))]
    refine ⟨_, rfl, ?_⟩
    simp only [tx, o1, z2]; rfl
theorem name_nm {k s : Int} {x : Str} (h : tl x = nmt k s) : NmOk x := by
  have a0 := Int.emod_nonneg (37 * k + s) (show (61 : Int) ≠ 0 by decide)
  have a1 := Int.emod_lt_of_pos (37 * k + s) (show (0 : Int) < 61 by decide)
  unfold nmt at h
  unfold NmOk
  rw [h]
  generalize (37 * k + s) % 61 = t at a0 a1
  have hs := suf_ok (t / 26) (by omega)
  have ha : ∀ c ∈ (97 + (t % 26).toNat) :: suf (t / 26), 97 ≤ c ∧ c ≤ 122 := fun c hc => by
    rcases List.mem_cons.mp hc with rfl | hc
    · omega
    · exact hs.2 c hc
  have hb : ∀ c ∈ List.replicate (s / 26 % 6).toNat (97 + (s % 26).toNat), 97 ≤ c ∧ c ≤ 122 := fun c hc => by
    rw [List.eq_of_mem_replicate hc]; omega
  dsimp only
  split
  · refine ⟨by rw [List.length_append, List.length_cons]; omega, by rw [List.length_append, List.length_cons, List.length_replicate]; omega, fun c hc => ?_⟩
    rcases List.mem_append.mp hc with hc | hc
    · exact hb c hc
    · exact ha c hc
  · refine ⟨by rw [List.length_append, List.length_cons]; omega, by rw [List.length_append, List.length_cons, List.length_replicate]; omega, fun c hc => ?_⟩
    rcases List.mem_append.mp hc with hc | hc
    · exact ha c hc
    · exact hb c hc
theorem name_ne {k j s : Int} {x y : Str} (hk : 0 ≤ k) (hj : 0 ≤ j) (hk2 : k < 61) (hj2 : j < 61) (hkj : k ≠ j) (h : tl x = nmt k s) (h' : tl y = nmt j s) : x ≠ y := by
  rintro rfl
  rw [h] at h'
  unfold nmt at h'
  have key : (97 + ((37 * k + s) % 61 % 26).toNat) :: suf ((37 * k + s) % 61 / 26) = (97 + ((37 * j + s) % 61 % 26).toNat) :: suf ((37 * j + s) % 61 / 26) := by
    dsimp only at h'
    split at h'
    · exact List.append_cancel_left h'
    · exact List.append_cancel_right h'
  injection key with e1 e2
  have hq : ∀ a b : Int, (a = 0 ∨ a = 1 ∨ a = 2) → (b = 0 ∨ b = 1 ∨ b = 2) → suf a = suf b → a = b := by
    intro a b ha hb e
    rcases ha with rfl | rfl | rfl <;> rcases hb with rfl | rfl | rfl <;> first | rfl | (exact absurd e (by decide))
  have := hq _ _ (by omega) (by omega) e2
  omega
/-! orders -/
theorem orders_ok (s : List Int) (n : Nat) (salt style : Int) (hops : List Int) (few : Int) (n1 : 1 ≤ n) (n15 : n ≤ 15) (y0 : 0 ≤ style) (y1 : style < 4) (h0 : 1 ≤ hops.length) (h9 : hops.length ≤ 100) (hh : ∀ x ∈ hops, 1 ≤ x ∧ x ≤ 10000000) (f0 : 1 ≤ few) (f1 : few ≤ 61) : Rt (f_orders (s, (n : Int), salt, style, hops, few)) fun r => OOk n r ∧ few - 1 ≤ r.length := by
  unfold f_orders
  dsimp only
  have hm : few ≤ maxI few (minI (s.length : Int) 61) ∧ maxI few (minI (s.length : Int) 61) ≤ 61 := by unfold maxI minI; split <;> split <;> omega
  generalize maxI few (minI (s.length : Int) 61) = many at hm
  rw [letM_eq, bo (rngM_ok (by omega) (by omega) (by omega) (by omega)), rt_bind]
  refine rt_fold (fun k (t : Int × List Od) => t.2.length = k ∧ (0 ≤ t.1 ∧ t.1 ≤ 10000000 * k) ∧ (∀ (i : Nat) x, t.2[i]? = some x → tl x.1 = nmt (i : Int) salt ∧ (0 ≤ x.2.1 ∧ x.2.1 ≤ t.1) ∧ 0 ≤ x.2.2.1 ∧ x.2.2.1 ≤ n ∧ 0 ≤ x.2.2.2 ∧ x.2.2.2 ≤ n ∧ x.2.2.1 ≠ x.2.2.2) ∧ t.2.Pairwise fun x y => x.2.1 ≤ y.2.1) ⟨rfl, ⟨by decide, by decide⟩, fun i x hx => by simp at hx, List.Pairwise.nil⟩ (fun k pl t hk ht => ?_) fun t ht => ?_
  · obtain ⟨tick, os⟩ := t
    obtain ⟨hl, htk, hx, hso⟩ := ht
    dsimp only at hl htk hx hso
    obtain ⟨rfl, hk2⟩ := rngL_get hk
    obtain ⟨p, a0, P0⟩ := pool_ok s (1 + (k : Int)) (by omega) (by omega)
    obtain ⟨u, p1, a1, u0, u1, P1⟩ := take_ok P0 (hops.length : Int) (by omega) (by omega)
    obtain ⟨hp, a2, a2'⟩ := atI_int hops u u0 u1
    have hhp := hh hp (List.mem_of_getElem? a2')
    obtain ⟨v, p2, a3, v0, v1, P2⟩ := take_ok P1 hp (by omega) (by omega)
    obtain ⟨w, p3, a4, w0, w1, P3⟩ := take_ok P2 ((n : Int) + 1) (by omega) (by omega)
    have pick : ∃ z, atI ([w, (n : Int) / 2, 0, (n : Int)] : List Int) style = some z ∧ 0 ≤ z ∧ z ≤ n := by
      have : style = 0 ∨ style = 1 ∨ style = 2 ∨ style = 3 := by omega
      rcases this with rfl | rfl | rfl | rfl
      · exact ⟨_, rfl, by omega, by omega⟩
      · exact ⟨_, rfl, by omega, by omega⟩
      · exact ⟨_, rfl, by omega, by omega⟩
      · exact ⟨_, rfl, by omega, by omega⟩
    obtain ⟨z, z1, z2, z3⟩ := pick
    obtain ⟨nm, a5, nm1⟩ := name_ok (1 + (k : Int) - 1) salt
    obtain ⟨d, p4, a6, d0, d1, P4⟩ := take_ok P3 (n : Int) (by omega) (by omega)
    unfold f_orders_b22
    dsimp only
    rw [bo a0, bo a1]
    dsimp only
    rw [bo a2, bo a3]
    dsimp only
    rw [letM_eq, bo a4]
    dsimp only
    rw [bo z1, bo a5, bo a6]
    dsimp only
    rw [bo (modM_ok (by omega)), bo (appM_ok (by omega))]
    have to0 := Int.emod_nonneg (z + 1 + d) (show (n : Int) + 1 ≠ 0 by omega)
    have to1 := Int.emod_lt_of_pos (z + 1 + d) (show (0 : Int) < (n : Int) + 1 by omega)
    have hne : z ≠ (z + 1 + d) % ((n : Int) + 1) := by
      by_cases q : z + 1 + d < (n : Int) + 1
      · rw [Int.emod_eq_of_lt (by omega) q]; omega
      · have : (z + 1 + d) % ((n : Int) + 1) = (z + 1 + d - ((n : Int) + 1)) % ((n : Int) + 1) := by rw [Int.sub_emod_right]
        rw [this, Int.emod_eq_of_lt (by omega) (by omega)]; omega
    refine rt_some.mpr ⟨by simp [hl], ⟨by dsimp only; omega, by dsimp only; omega⟩, fun i x hx' => ?_, ?_⟩
    · dsimp only at hx' ⊢
      rw [List.getElem?_append] at hx'
      split at hx'
      · have := hx i x hx'
        exact ⟨this.1, ⟨this.2.1.1, by omega⟩, this.2.2⟩
      · have h3 := (List.getElem?_eq_some_iff.mp hx').1
        rw [List.length_singleton] at h3
        have h4 : i - os.length = 0 := by omega
        rw [h4] at hx'
        have h5 : (nm, tick + v, z, (z + 1 + d) % ((n : Int) + 1)) = x := by simpa using hx'
        subst h5
        have h6 : (i : Int) = 1 + (k : Int) - 1 := by omega
        rw [h6]
        exact ⟨nm1, ⟨by dsimp only; omega, by dsimp only; omega⟩, z2, z3, to0, by dsimp only; omega, hne⟩
    · dsimp only
      rw [List.pairwise_append]
      refine ⟨hso, List.pairwise_singleton _ _, fun a ha b hb => ?_⟩
      rw [List.mem_singleton.mp hb]
      obtain ⟨i, hi⟩ := List.getElem?_of_mem ha
      have := (hx i a hi).2.1
      dsimp only
      omega
  · obtain ⟨tick, os⟩ := t
    obtain ⟨hl, htk, hx, hso⟩ := ht
    rw [rngL_len] at hl htk
    dsimp only at hl htk hx hso ⊢
    refine rt_some.mpr ⟨⟨by omega, fun x hm => ?_, ?_, fun x hm => ?_, fun x hm => ?_, hso⟩, by omega⟩
    · obtain ⟨i, hi⟩ := List.getElem?_of_mem hm
      exact name_nm (hx i x hi).1
    · rw [List.nodup_iff_pairwise_ne, List.pairwise_map, List.pairwise_iff_getElem]
      intro i j hi hj hij
      have a := (hx i _ (List.getElem?_eq_getElem hi)).1
      have b := (hx j _ (List.getElem?_eq_getElem hj)).1
      exact name_ne (by omega) (by omega) (by omega) (by omega) (by omega) a b
    · obtain ⟨i, hi⟩ := List.getElem?_of_mem hm
      have := (hx i x hi).2.1
      omega
    · obtain ⟨i, hi⟩ := List.getElem?_of_mem hm
      exact (hx i x hi).2.2
/-! good orders are looked at and nothing is said -/
theorem look_aisle_ok {a : Ai} (h : AOk a) : f_look_at_aisle a = some () := by
  have n1 := h.n1
  have n15 := h.n15
  unfold f_look_at_aisle
  rw [if_neg (by decide), letM_eq, letM_eq, if_neg (by rw [decide_eq_true (by omega), decide_eq_true (by omega)]; decide), bo ((lcC_ok (by omega)).trans (lcM_all (g := fun _ => true) fun x hx => by
    rw [bo (between_ok (h.gm x hx).1 (h.gm x hx).2)])), all_id, if_neg (by decide), bo (between_ok h.mo.1 h.mo.2), if_neg (by decide)]
theorem is_order_ok {n : Nat} {os : List Od} (h : OOk n os) {x : Od} (hx : x ∈ os) : f_is_order (x, (n : Int)) = some true := by
  have b := h.by_ x hx
  have t := h.tk x hx
  unfold f_is_order
  dsimp only
  rw [if_neg (by decide), letM_eq, letM_eq, bo (is_name_ok (h.nm x hx)), if_neg (by decide), bo (between_ok t.1 t.2), bo rfl, if_neg (by decide), bo (between_ok b.1 b.2.1), if_pos rfl, bo (between_ok b.2.2.1 b.2.2.2.1), decide_eq_false b.2.2.2.2, bo rfl]
  rfl
theorem look_orders_ok {a : Ai} (ha : AOk a) {os : List Od} (h : OOk a.1.length os) : f_look_at_orders (a, os) = some () := by
  have l60 := h.l60
  unfold f_look_at_orders
  dsimp only
  rw [bo (look_aisle_ok ha), if_neg (by rw [decide_eq_false (by omega)]; decide)]
  refine Rt.eq (rt_bind.mpr (rt_fold (fun k (t : Int × List (Str × Bool)) => t.2.map (·.1) = (os.take k).map (·.1) ∧ t.1 ≤ 1000000000 ∧ ∀ x, os[k]? = some x → t.1 ≤ x.2.1) ⟨rfl, by decide, fun x hx => (h.tk x (List.mem_of_getElem? hx)).1⟩ (fun k x t hk ht => ?_) fun t ht => rt_some.mpr rfl))
  obtain ⟨late, names⟩ := t
  obtain ⟨h1, h2, h3⟩ := ht
  dsimp only at h1 h2 h3
  have hm := List.mem_of_getElem? hk
  have hlt : k < os.length := (List.getElem?_eq_some_iff.mp hk).1
  have hnew : ∀ p ∈ names, p.1 ≠ x.1 := fun p hp e => by
    have : p.1 ∈ (os.take k).map (·.1) := by rw [← h1]; exact List.mem_map_of_mem hp
    obtain ⟨y, hy, e2⟩ := List.mem_map.mp this
    obtain ⟨i, hi⟩ := List.getElem?_of_mem hy
    rw [List.getElem?_take] at hi
    split at hi
    · rename_i hik
      have nd := h.nd
      rw [List.nodup_iff_pairwise_ne, List.pairwise_map, List.pairwise_iff_getElem] at nd
      have hi' : i < os.length := by omega
      have q1 : os[i] = y := by rw [List.getElem?_eq_getElem hi'] at hi; exact Option.some.inj hi
      have q2 : os[k] = x := by rw [List.getElem?_eq_getElem hlt] at hk; exact Option.some.inj hk
      have := nd i k hi' hlt hik
      rw [q1, q2] at this
      exact this (e2.trans e)
    · cases hi
  have hl : names.length ≤ 60 := by
    have := congrArg List.length h1
    rw [List.length_map, List.length_map, List.length_take] at this
    omega
  have hno : (names.find? fun p => decide (p.1 = x.1)) = none := by
    rw [List.find?_eq_none]; intro p hp; rw [decide_eq_true_eq]; exact hnew p hp
  have hk1 : hasK names x.1 = false := by unfold hasK lookK; rw [hno]; rfl
  have hp1 : putM names x.1 true = some (names ++ [(x.1, true)]) := by
    unfold putM putKV
    rw [if_pos (by omega), if_neg]
    rw [List.any_eq_true]
    rintro ⟨p, hp, e⟩
    exact hnew p hp (of_decide_eq_true e)
  have h4 := h3 x hk
  unfold f_look_at_orders_b24
  dsimp only
  rw [bo (is_order_ok h hm), if_neg (by decide), hk1, if_neg (by decide), if_neg (by rw [decide_eq_true_eq]; omega), bo hp1, letM_eq]
  refine rt_some.mpr ⟨?_, by have := h.tk x hm; dsimp only; omega, fun y hy => ?_⟩
  · dsimp only
    rw [List.map_append, h1, List.take_add_one, hk, List.map_append]; rfl
  · have so := h.so
    rw [List.pairwise_iff_getElem] at so
    have hlt2 : k + 1 < os.length := (List.getElem?_eq_some_iff.mp hy).1
    have := so k (k + 1) hlt hlt2 (by omega)
    have q2 : os[k] = x := by rw [List.getElem?_eq_getElem hlt] at hk; exact Option.some.inj hk
    have q3 : os[k + 1] = y := by rw [List.getElem?_eq_getElem hlt2] at hy; exact Option.some.inj hy
    rw [q2, q3] at this
    exact this
theorem shp_order {x : Od} (h : NmOk x.1) : Shp 1 (eT4 eS eI eI eI x) := shp_tup fun y hy => by
  simp only [List.mem_cons, List.not_mem_nil, or_false] at hy
  rcases hy with rfl | rfl | rfl | rfl
  · exact (shp_str fun c hc => by have := h.2.2 c hc; omega).mono (by decide)
  · exact shp_int _
  · exact shp_int _
  · exact shp_int _
theorem shp_orders {n : Nat} {os : List Od} (h : OOk n os) : Shp 2 (eL (eT4 eS eI eI eI) os) := shp_list fun x hx => by
  obtain ⟨y, hy, rfl⟩ := List.mem_map.mp hx
  exact shp_order (h.nm y hy)
theorem shp_aisle (a : Ai) : Shp 2 (eT2 (eL eI) eI a) := shp_tup fun y hy => by
  simp only [List.mem_cons, List.not_mem_nil, or_false] at hy
  rcases hy with rfl | rfl
  · exact shp_ints _
  · exact (shp_int _).mono (by decide)
end Bw

namespace Bw
open PySem L2 TL
/-! crowds -/
def upc (os : List Od) (g : Nat) : Int := (os.countP fun x => decide (x.2.2.1 ≤ (g : Int) ∧ (g : Int) < x.2.2.2) : Nat)
def dnc (os : List Od) (g : Nat) : Int := (os.countP fun x => decide (x.2.2.2 ≤ (g : Int) ∧ (g : Int) < x.2.2.1) : Nat)
theorem bump (n : Nat) (a b : Int) (ha : 0 ≤ a) (hb : b ≤ n) (g : Nat → Int) : (rngL a b).foldlM f_crowds_b64 (lst n g) = some (lst n fun i => g i + if a ≤ (i : Int) ∧ (i : Int) < b then 1 else 0) := by
  refine Rt.eq (rt_fold (fun k (t : List Int) => t = lst n fun i => g i + if a ≤ (i : Int) ∧ (i : Int) < a + k then 1 else 0) ?_ (fun k x t hk ht => ?_) fun t ht => ?_)
  · refine lst_ext (lst_len _ _) fun i hi => ?_
    rw [lst_get hi, if_neg (by omega)]; congr 1; omega
  · subst ht
    obtain ⟨rfl, hk2⟩ := rngL_get hk
    unfold f_crowds_b64
    rw [bo (lst_at (by omega) (by omega)), bo (lst_set (by omega) (by omega))]
    refine rt_some.mpr (lst_ext (lst_len _ _) fun i hi => ?_)
    rw [lst_get hi]
    congr 1
    by_cases e : i = (a + (k : Int)).toNat
    · subst e
      rw [if_pos rfl, if_neg (by omega), if_pos (by omega)]; omega
    · rw [if_neg e]
      by_cases q : a ≤ (i : Int) ∧ (i : Int) < a + (k : Int)
      · rw [if_pos q, if_pos (by omega)]
      · rw [if_neg q, if_neg (by omega)]
  · subst ht
    rw [rngL_len]
    refine lst_ext (lst_len _ _) fun i hi => ?_
    rw [lst_get hi]
    congr 2
    by_cases q : a ≤ (i : Int) ∧ (i : Int) < b
    · rw [if_pos q, if_pos (by omega)]
    · rw [if_neg q, if_neg (by omega)]
theorem crowds_ok {n : Nat} (hn : n ≤ 15) {os : List Od} (h : OOk n os) : f_crowds ((n : Int), os) = some (lst n (upc os), lst n (dnc os)) := by
  have hb : f_crowds_b108 = f_crowds_b64 := rfl
  unfold f_crowds
  dsimp only
  rw [bo (repM_one (by omega) (by omega)), bo (repM_one (by omega) (by omega))]
  refine Rt.eq (rt_bind.mpr (rt_fold (fun k (t : List Int × List Int) => t = (lst n (upc (os.take k)), lst n (dnc (os.take k)))) ?_ (fun k x t hk ht => ?_) fun t ht => ?_))
  · have : List.replicate (n : Int).toNat (0 : Int) = lst n fun _ => 0 := lst_ext (by simp) fun i hi => by rw [List.getElem?_replicate, if_pos (by omega)]
    rw [this]; rfl
  · subst ht
    have b := h.by_ x (List.mem_of_getElem? hk)
    obtain ⟨nm, tk, at_, to_⟩ := x
    unfold f_crowds_b21
    rw [hb]
    dsimp only at b ⊢
    rw [bo (rngM_ok (by omega) (by omega) (by omega) (by omega)), bo (bump n _ _ b.1 b.2.2.2.1 _), bo (rngM_ok (by omega) (by omega) (by omega) (by omega)), bo (bump n _ _ b.2.2.1 b.2.1 _)]
    refine rt_some.mpr (Prod.ext (lst_ext (lst_len _ _) fun i hi => ?_) (lst_ext (lst_len _ _) fun i hi => ?_))
    · dsimp only
      rw [lst_get hi]
      congr 1
      unfold upc
      rw [List.take_add_one, hk, List.countP_append]
      simp only [Option.toList_some, List.countP_singleton, decide_eq_true_eq]
      split <;> omega
    · dsimp only
      rw [lst_get hi]
      congr 1
      unfold dnc
      rw [List.take_add_one, hk, List.countP_append]
      simp only [Option.toList_some, List.countP_singleton, decide_eq_true_eq]
      split <;> omega
  · subst ht
    rw [List.take_length]
    exact rt_some.mpr rfl
theorem upward_ok (x : Od) : f_is_upward x = some (decide (x.2.2.1 < x.2.2.2)) := rfl
def cw (os : List Od) (x : Od) : Int := if x.2.2.1 < x.2.2.2 then upc os x.2.2.1.toNat else dnc os (x.2.2.1 - 1).toNat
theorem over_up (y : Od) (g : Int) : f_goes_over (y, g, true) = some (decide (y.2.2.1 ≤ g ∧ g < y.2.2.2)) := by
  unfold f_goes_over
  dsimp only
  rw [bo (upward_ok y)]
  by_cases q : y.2.2.1 < y.2.2.2
  · rw [decide_eq_true q, if_neg (by decide)]
    unfold minI maxI
    rw [if_neg (by omega), if_pos (by omega), Bool.decide_and]
  · rw [decide_eq_false q, if_pos (by decide), decide_eq_false (by omega)]
theorem over_down (y : Od) (g : Int) (hne : y.2.2.1 ≠ y.2.2.2) : f_goes_over (y, g, false) = some (decide (y.2.2.2 ≤ g ∧ g < y.2.2.1)) := by
  unfold f_goes_over
  dsimp only
  rw [bo (upward_ok y)]
  by_cases q : y.2.2.1 < y.2.2.2
  · rw [decide_eq_true q, if_pos (by decide), decide_eq_false (by omega)]
  · rw [decide_eq_false q, if_neg (by decide)]
    unfold minI maxI
    rw [if_pos (by omega), if_neg (by omega), Bool.decide_and]
theorem crowd_of_ok {a : Ai} (ha : AOk a) {os : List Od} (h : OOk a.1.length os) {k : Int} {x : Od} (hx : atI os k = some x) : f_crowd_of (a, os, k) = some (cw os x) := by
  have l60 := h.l60
  have hm := atI_mem hx
  have b := h.by_ x hm
  unfold f_crowd_of
  dsimp only
  rw [bo (look_orders_ok ha h), bo hx]
  unfold cw
  by_cases q : x.2.2.1 < x.2.2.2
  · have g1 : f_gap_ahead x = some x.2.2.1 := by unfold f_gap_ahead; rw [bo (upward_ok x), decide_eq_true q, if_pos rfl]
    rw [bo g1, bo ((lcC_ok (by omega)).trans (lcM_fil (p := fun y : Od => decide (y.2.2.1 ≤ x.2.2.1 ∧ x.2.2.1 < y.2.2.2)) (g := fun y => y) fun y hy => by
      rw [bo (upward_ok x), decide_eq_true q, bo (over_up y _)]
      split <;> rfl)), if_pos q]
    refine congrArg some ?_
    unfold upc
    rw [List.length_map, List.countP_eq_length_filter]
    have : ((x.2.2.1.toNat : Nat) : Int) = x.2.2.1 := by omega
    rw [this]
  · have g1 : f_gap_ahead x = some (x.2.2.1 - 1) := by unfold f_gap_ahead; rw [bo (upward_ok x), decide_eq_false q, if_neg (by decide)]
    rw [bo g1, bo ((lcC_ok (by omega)).trans (lcM_fil (p := fun y : Od => decide (y.2.2.2 ≤ x.2.2.1 - 1 ∧ x.2.2.1 - 1 < y.2.2.1)) (g := fun y => y) fun y hy => by
      rw [bo (upward_ok x), decide_eq_false q, bo (over_down y _ (h.by_ y hy).2.2.2.2)]
      split <;> rfl)), if_neg q]
    refine congrArg some ?_
    unfold dnc
    rw [List.length_map, List.countP_eq_length_filter]
    have : (((x.2.2.1 - 1).toNat : Nat) : Int) = x.2.2.1 - 1 := by omega
    rw [this]
theorem cw_le {n : Nat} {os : List Od} (h : OOk n os) {x : Od} (hx : x ∈ os) : 1 ≤ cw os x ∧ cw os x ≤ 60 := by
  have l60 := h.l60
  have b := h.by_ x hx
  unfold cw
  split
  · unfold upc
    have := List.countP_le_length (p := fun x_1 : Od => decide (x_1.2.2.1 ≤ (x.2.2.1.toNat : Int) ∧ (x.2.2.1.toNat : Int) < x_1.2.2.2)) (l := os)
    have : 0 < os.countP (fun x_1 : Od => decide (x_1.2.2.1 ≤ (x.2.2.1.toNat : Int) ∧ (x.2.2.1.toNat : Int) < x_1.2.2.2)) := List.countP_pos_iff.mpr ⟨x, hx, decide_eq_true (by omega)⟩
    omega
  · unfold dnc
    have := List.countP_le_length (p := fun x_1 : Od => decide (x_1.2.2.2 ≤ ((x.2.2.1 - 1).toNat : Int) ∧ ((x.2.2.1 - 1).toNat : Int) < x_1.2.2.1)) (l := os)
    have : 0 < os.countP (fun x_1 : Od => decide (x_1.2.2.2 ≤ ((x.2.2.1 - 1).toNat : Int) ∧ ((x.2.2.1 - 1).toNat : Int) < x_1.2.2.1)) := List.countP_pos_iff.mpr ⟨x, hx, decide_eq_true (by omega)⟩
    omega
theorem rounds_while (a : Ai) (hm : 1 ≤ a.2) : ∀ (n : Nat) (l r : Int), 0 ≤ l → l.toNat < n → ∃ l', whileF (f_right_t65 a) (f_right_w65 a) n (l, r) = some (.nx (l', r + l / a.2))
  | 0, l, r, _, h => by omega
  | n + 1, l, r, h0, h => by
    unfold whileF
    rw [bo (show f_right_t65 a (l, r) = some (decide (a.2 ≤ l)) from rfl)]
    by_cases q : a.2 ≤ l
    · rw [if_pos (decide_eq_true q), bo (show f_right_w65 a (l, r) = some (.nx (l - a.2, r + 1)) from rfl)]
      dsimp only
      obtain ⟨l', e⟩ := rounds_while a hm n (l - a.2) (r + 1) (by omega) (by omega)
      refine ⟨l', e.trans ?_⟩
      have : l / a.2 = (l - a.2) / a.2 + 1 := by
        have k : l = (l - a.2) + a.2 * 1 := by omega
        conv => lhs; rw [k, Int.add_mul_ediv_left _ _ (by omega)]
      rw [this]
      congr 3
      omega
    · rw [if_neg (by simpa using q), Int.ediv_eq_zero_of_lt h0 (by omega)]
      exact ⟨l, by rw [Int.add_zero]⟩
theorem sum_nn : ∀ xs : List Int, (∀ g ∈ xs, 1 ≤ g ∧ g ≤ 1000) → 0 ≤ xs.sum ∧ xs.sum ≤ 1000 * xs.length
  | [], _ => ⟨by decide, by decide⟩
  | x :: xs, h => by
    have := sum_nn xs fun g hg => h g (List.mem_cons_of_mem _ hg)
    have := h x List.mem_cons_self
    rw [List.sum_cons, List.length_cons]
    omega
theorem right_ok {a : Ai} (ha : AOk a) {os : List Od} (h : OOk a.1.length os) {k : Int} (k0 : 0 ≤ k) (k1 : k < os.length) : f_right (a, os, k, (lst a.1.length (upc os), lst a.1.length (dnc os))) = some true := by
  obtain ⟨x, e1, e2⟩ := atI_int os k k0 k1
  have hm := List.mem_of_getElem? e2
  have b := h.by_ x hm
  have c := cw_le h hm
  have sn := sum_nn a.1 ha.gm
  have n15 := ha.n15
  have mo := ha.mo
  unfold f_right
  dsimp only
  rw [bo e1]
  simp only [letM_eq]
  have hc : (if (decide (x.2.2.1 < x.2.2.2)) = true then (atI (lst a.1.length (upc os)) x.2.2.1).bind fun z => some z else (atI (lst a.1.length (dnc os)) (x.2.2.1 - 1)).bind fun z => some z) = some (cw os x) := by
    unfold cw
    by_cases q : x.2.2.1 < x.2.2.2
    · rw [if_pos (decide_eq_true q), if_pos q, bo (lst_at b.1 (by omega))]
    · rw [if_neg (by simpa using q), if_neg q, bo (lst_at (by omega) (by omega))]
  rw [bo hc]
  obtain ⟨l', w⟩ := rounds_while a mo.1 fuel (cw os x - 1) 2 (by omega) (by unfold fuel; omega)
  rw [bo w]
  dsimp only
  have d0 : 0 ≤ (cw os x - 1) / a.2 := Int.ediv_nonneg (by omega) (by omega)
  have d1 : (cw os x - 1) / a.2 ≤ 60 := Int.le_trans (Int.ediv_le_self _ (by omega)) (by omega)
  rw [bo (mulM_ok (by omega) (by omega)), bo (crowd_of_ok ha h e1), bo (show f_is_number (cw os x, cw os x) = some true by unfold f_is_number; dsimp only; rw [decide_eq_true rfl]; rfl), if_neg (by decide)]
  have hbd : f_bound_of (a, os, k) = some (x.2.1 + (2 + (cw os x - 1) / a.2) * 2 * a.1.sum) := by
    unfold f_bound_of
    dsimp only
    rw [bo (crowd_of_ok ha h e1), bo e1, bo (fdivM_ok (by omega) (by omega)), bo (show f_round_of a = some (2 * a.1.sum) from rfl), bo (mulM_ok (by omega) (by omega)), Int.mul_assoc]
  rw [bo hbd]
  unfold f_is_number
  dsimp only
  rw [decide_eq_true rfl]; rfl
theorem OOk.tail {n : Nat} {x : Od} {os : List Od} (h : OOk n (x :: os)) : OOk n os :=
  ⟨by have := h.l60; rw [List.length_cons] at this; omega, fun y hy => h.nm y (List.mem_cons_of_mem _ hy), (List.nodup_cons.mp h.nd).2, fun y hy => h.tk y (List.mem_cons_of_mem _ hy), fun y hy => h.by_ y (List.mem_cons_of_mem _ hy), (List.pairwise_cons.mp h.so).2⟩
theorem law_true (ns : List Int) (_ : ns.length ≤ 63) : f_law ns = some true := by
  obtain ⟨p0, e0, P0⟩ := pool_ok ns 0 (by decide) (by decide)
  obtain ⟨⟨⟨gaps, most⟩, p1⟩, e1, A, P1⟩ := aisle_ok P0 15 1000 (by decide) (by decide) (by decide) (by decide)
  dsimp only at A P1
  obtain ⟨salt, p2, e2, s0, s1, P2⟩ := take_ok P1 9516 (by decide) (by decide)
  obtain ⟨sty, p3, e3, y0, y1, P3⟩ := take_ok P2 4 (by decide) (by decide)
  obtain ⟨h, p4, e4, h0, h1, P4⟩ := take_ok P3 2 (by decide) (by decide)
  have n1 : 1 ≤ gaps.length := A.n1
  have n15 : gaps.length ≤ 15 := A.n15
  have sn := sum_nn gaps A.gm
  have hs : 1 ≤ gaps.sum := by
    cases gaps with
    | nil => simp at n1
    | cons g gs =>
      have := A.gm g List.mem_cons_self
      have := (sum_nn gs fun z hz => A.gm z (List.mem_cons_of_mem _ hz)).1
      rw [List.sum_cons]; omega
  have pick : ∃ z : List Int, atI ([[1, 2, 30], [1, 40, 4 * gaps.sum, 10000000]] : List (List Int)) h = some z ∧ (1 ≤ z.length ∧ z.length ≤ 100) ∧ ∀ x ∈ z, 1 ≤ x ∧ x ≤ 10000000 := by
    have : h = 0 ∨ h = 1 := by omega
    rcases this with rfl | rfl
    · exact ⟨_, rfl, by decide, by decide⟩
    · refine ⟨_, rfl, ⟨by simp, by simp⟩, fun x hx => ?_⟩
      simp only [List.mem_cons, List.not_mem_nil, or_false] at hx
      rcases hx with rfl | rfl | rfl | rfl <;> omega
  obtain ⟨hops, z1, z2, z3⟩ := pick
  obtain ⟨os, e5, O, ol⟩ := orders_ok ns gaps.length salt sty hops 2 n1 n15 y0 y1 z2.1 z2.2 z3 (by decide) (by decide)
  unfold f_law
  rw [bo e0, bo e1]
  dsimp only
  rw [letM_eq, bo e2]
  dsimp only
  rw [bo e3]
  dsimp only
  rw [bo e4]
  dsimp only
  rw [bo z1, bo e5, letM_eq, bo (crowds_ok n15 O)]
  dsimp only
  have l60 := O.l60
  rw [bo (rngM_ok (by omega) (by omega) (by omega) (by omega))]
  refine Rt.eq ?_
  rw [rt_bind]
  refine rt_for (fun _ => True) trivial (fun k hk u _ => ?_) fun _ _ => ?_
  · obtain ⟨i, hi⟩ := List.getElem?_of_mem hk
    obtain ⟨rfl, hi2⟩ := rngL_get hi
    unfold f_law_b116
    rw [bo (right_ok A O (by omega) (by omega)), if_neg (by decide)]
    exact rt_some.mpr ⟨(), rfl, trivial⟩
  · dsimp only
    rw [bo (right_ok A O (by omega) (by omega)), if_neg (by decide), bo (eqD_self (n := 3) (shp_list fun d hd => by
      simp only [List.mem_map, List.mem_cons, List.not_mem_nil, or_false] at hd
      obtain ⟨d', hd, rfl⟩ := hd
      rcases hd with rfl | rfl
      · exact shp_aisle _
      · exact shp_orders O) (by decide)), bo rfl, if_neg (by decide)]
    obtain ⟨g0, q1, q2⟩ := atI_int gaps 0 (by decide) (by omega)
    rw [bo q1, bo (setM_ok _ (by decide) (by omega))]
    have A' : AOk (gaps.set (0 : Int).toNat (g0 % 1000 + 1), most) := ⟨by dsimp only; rw [List.length_set]; exact n1, by dsimp only; rw [List.length_set]; exact n15, fun g hg => by
      rcases List.mem_or_eq_of_mem_set hg with hg | rfl
      · exact A.gm g hg
      · omega, A.mo⟩
    have fin : ∀ os' : List Od, OOk gaps.length os' → 1 ≤ os'.length → Rt ((f_crowds ((gaps.length : Int), os')).bind fun x226 => (f_right ((gaps.set (0 : Int).toNat (g0 % 1000 + 1), most), os', 0, x226)).bind fun x228 => some x228) fun x => x = true := fun os' O' l1 => by
      rw [bo (crowds_ok n15 O')]
      have el : (gaps.set (0 : Int).toNat (g0 % 1000 + 1)).length = gaps.length := List.length_set
      have := right_ok A' (os := os') (by dsimp only; rw [el]; exact O') (k := 0) (by decide) (by omega)
      dsimp only at this
      rw [el] at this
      rw [bo this]
      exact rt_some.mpr rfl
    rw [rt_bind, rt_ite]
    refine ⟨fun q => ?_, fun q => rt_some.mpr (fin os O (by omega))⟩
    have q' : 1 < os.length := by have := of_decide_eq_true q; omega
    have pp : popM os 0 = some (os[0], os.eraseIdx 0) := popM_ok (xs := os) 0 (by omega) (by omega)
    rw [bo pp]
    refine rt_some.mpr (fin _ ?_ ?_)
    · cases os with
      | nil => simp at q'
      | cons o os => exact O.tail
    · rw [List.length_eraseIdx, if_pos (by omega)]; omega
end Bw

set_option maxHeartbeats 0
namespace Bw
open PySem L2
def de0 : He.DefD := ⟨("is_whole", none), "is_whole", "is_whole", defArgs s_is_whole, defBody s_is_whole, defScope s_is_whole, [], []⟩
def de1 : He.DefD := ⟨("is_name", none), "is_name", "is_name", defArgs s_is_name, defBody s_is_name, defScope s_is_name, [], []⟩
def de2 : He.DefD := ⟨("is_between", none), "is_between", "is_between", defArgs s_is_between, defBody s_is_between, defScope s_is_between, [], []⟩
def de3 : He.DefD := ⟨("look_at_aisle", none), "look_at_aisle", "look_at_aisle", defArgs s_look_at_aisle, defBody s_look_at_aisle, defScope s_look_at_aisle, [], []⟩
def de4 : He.DefD := ⟨("is_order", none), "is_order", "is_order", defArgs s_is_order, defBody s_is_order, defScope s_is_order, [], []⟩
def de5 : He.DefD := ⟨("look_at_orders", none), "look_at_orders", "look_at_orders", defArgs s_look_at_orders, defBody s_look_at_orders, defScope s_look_at_orders, [], []⟩
def de6 : He.DefD := ⟨("is_upward", none), "is_upward", "is_upward", defArgs s_is_upward, defBody s_is_upward, defScope s_is_upward, [], []⟩
def de7 : He.DefD := ⟨("round_of", none), "round_of", "round_of", defArgs s_round_of, defBody s_round_of, defScope s_round_of, [], []⟩
def de8 : He.DefD := ⟨("gap_ahead", none), "gap_ahead", "gap_ahead", defArgs s_gap_ahead, defBody s_gap_ahead, defScope s_gap_ahead, [], []⟩
def de9 : He.DefD := ⟨("goes_over", none), "goes_over", "goes_over", defArgs s_goes_over, defBody s_goes_over, defScope s_goes_over, [], []⟩
def de10 : He.DefD := ⟨("crowd_of", none), "crowd_of", "crowd_of", defArgs s_crowd_of, defBody s_crowd_of, defScope s_crowd_of, [], []⟩
def de11 : He.DefD := ⟨("bound_of", none), "bound_of", "bound_of", defArgs s_bound_of, defBody s_bound_of, defScope s_bound_of, [], []⟩
def de12 : He.DefD := ⟨("_law_pool", none), "_law_pool", "_law_pool", defArgs s_pool, defBody s_pool, defScope s_pool, [], []⟩
def de13 : He.DefD := ⟨("_law_take", none), "_law_take", "_law_take", defArgs s_take, defBody s_take, defScope s_take, [], []⟩
def de14 : He.DefD := ⟨("_law_aisle", none), "_law_aisle", "_law_aisle", defArgs s_aisle, defBody s_aisle, defScope s_aisle, [], []⟩
def de15 : He.DefD := ⟨("_law_name", none), "_law_name", "_law_name", defArgs s_name, defBody s_name, defScope s_name, [], []⟩
def de16 : He.DefD := ⟨("_law_orders", none), "_law_orders", "_law_orders", defArgs s_orders, defBody s_orders, defScope s_orders, [], []⟩
def de17 : He.DefD := ⟨("_law_crowds", none), "_law_crowds", "_law_crowds", defArgs s_crowds, defBody s_crowds, defScope s_crowds, [], []⟩
def de18 : He.DefD := ⟨("_law_is_number", none), "_law_is_number", "_law_is_number", defArgs s_is_number, defBody s_is_number, defScope s_is_number, [], []⟩
def de19 : He.DefD := ⟨("_law_right", none), "_law_right", "_law_right", defArgs s_right, defBody s_right, defScope s_right, [], []⟩
def de20 : He.DefD := ⟨("law", none), "law", "law", defArgs s_law, defBody s_law, defScope s_law, [], []⟩
def fnL : List He.DefD := [de0, de1, de2, de3, de4, de5, de6, de7, de8, de9, de10, de11, de12, de13, de14, de15, de16, de17, de18, de19, de20]
def faL : List He.Fa := [.glo "is_whole", .glo "is_name", .glo "is_between", .glo "look_at_aisle", .glo "is_order", .glo "look_at_orders", .glo "is_upward", .glo "round_of", .glo "gap_ahead", .glo "goes_over", .glo "crowd_of", .glo "bound_of", .glo "_law_pool", .glo "_law_take", .glo "_law_aisle", .glo "_law_name", .glo "_law_orders", .glo "_law_crowds", .glo "_law_is_number", .glo "_law_right", .glo "law", .free "all", .free "bool", .free "int", .free "isinstance", .free "len", .free "list", .free "max", .free "min", .free "range", .free "str", .free "sum", .free "tuple", .int "LATEST" 1000000000, .str "LETTERS" "abcdefghijklmnopqrstuvwxyz", .int "LONGEST" 8, .int "LONGEST_GAP" 1000, .int "MOST_GAPS" 15, .int "MOST_LOAD" 20, .int "MOST_ORDERS" 60]
def lo0 : List Str := ["CartError", "NoAisle", "NoOrders", "LETTERS", "LONGEST", "is_whole", "is_name", "MOST_GAPS", "LONGEST_GAP", "MOST_LOAD", "MOST_ORDERS", "LATEST", "is_between", "look_at_aisle", "is_order", "look_at_orders", "is_upward", "round_of", "gap_ahead", "goes_over", "crowd_of", "bound_of", "_law_pool", "_law_take", "_law_aisle", "_law_name", "_law_orders", "_law_crowds", "_law_is_number", "_law_right"]
def looseL : List Str := lo0
abbrev RowL : PySem.W.OpenRow := PySem.W.OpenLaw.row PySem.Challenge.rw_baycart_k59_crowds_and_bounds
abbrev hkL : PySem.W.Hook := He.hookD 4 faL fnL
def obL (s : PySem.W.SharedT) : He.AlD := He.obsDG 4 faL fnL (HandSHeadRun.getT s)
theorem obL_eq (s : PySem.W.SharedT) : obL s = hkL.obs s.abs := He.obsDG_eq (HandSHeadRun.getT_eq s)
theorem runL (w : World) : HandSHeadRun.RunEq RowL (PySem.W.view RowL.prog [36]) hkL obL 20000 looseL w := by
  intro os
  kernel_rfl
theorem all_ok {P : Program} {w : World} {K : PySem.W.Frag} {h : Heap} {mg : Str → Option Value} {base : Heap} (X : K.In h) (G : h.Ns mainGlobals mg) (c : He.SaysD faL fnL K) : Ok P w K mg base 8 "law" ["_law_script"] (sp_law K) := by
  have m_all : mg "all" = none := He.free_ok X G (c.fact 21 (f := .free "all") rfl)
  have m_bool : mg "bool" = none := He.free_ok X G (c.fact 22 (f := .free "bool") rfl)
  have m_int : mg "int" = none := He.free_ok X G (c.fact 23 (f := .free "int") rfl)
  have m_isinstance : mg "isinstance" = none := He.free_ok X G (c.fact 24 (f := .free "isinstance") rfl)
  have m_len : mg "len" = none := He.free_ok X G (c.fact 25 (f := .free "len") rfl)
  have m_list : mg "list" = none := He.free_ok X G (c.fact 26 (f := .free "list") rfl)
  have m_max : mg "max" = none := He.free_ok X G (c.fact 27 (f := .free "max") rfl)
  have m_min : mg "min" = none := He.free_ok X G (c.fact 28 (f := .free "min") rfl)
  have m_range : mg "range" = none := He.free_ok X G (c.fact 29 (f := .free "range") rfl)
  have m_str : mg "str" = none := He.free_ok X G (c.fact 30 (f := .free "str") rfl)
  have m_sum : mg "sum" = none := He.free_ok X G (c.fact 31 (f := .free "sum") rfl)
  have m_tuple : mg "tuple" = none := He.free_ok X G (c.fact 32 (f := .free "tuple") rfl)
  have c_LATEST : ∃ t, mg "LATEST" = some (.int 1000000000 t) := He.int_ok X G (c.fact 33 (f := .int "LATEST" 1000000000) rfl)
  have c_LETTERS : ∃ t, mg "LETTERS" = some (.str "abcdefghijklmnopqrstuvwxyz" t) := He.str_ok X G (c.fact 34 (f := .str "LETTERS" "abcdefghijklmnopqrstuvwxyz") rfl)
  have c_LONGEST : ∃ t, mg "LONGEST" = some (.int 8 t) := He.int_ok X G (c.fact 35 (f := .int "LONGEST" 8) rfl)
  have c_LONGEST_GAP : ∃ t, mg "LONGEST_GAP" = some (.int 1000 t) := He.int_ok X G (c.fact 36 (f := .int "LONGEST_GAP" 1000) rfl)
  have c_MOST_GAPS : ∃ t, mg "MOST_GAPS" = some (.int 15 t) := He.int_ok X G (c.fact 37 (f := .int "MOST_GAPS" 15) rfl)
  have c_MOST_LOAD : ∃ t, mg "MOST_LOAD" = some (.int 20 t) := He.int_ok X G (c.fact 38 (f := .int "MOST_LOAD" 20) rfl)
  have c_MOST_ORDERS : ∃ t, mg "MOST_ORDERS" = some (.int 60 t) := He.int_ok X G (c.fact 39 (f := .int "MOST_ORDERS" 60) rfl)
  have d_is_whole : Df K mg "is_whole" s_is_whole := ⟨c.def_ 0 (d := de0) rfl, He.glo_ok X G (c.fact 0 (f := .glo "is_whole") rfl)⟩
  have d_is_name : Df K mg "is_name" s_is_name := ⟨c.def_ 1 (d := de1) rfl, He.glo_ok X G (c.fact 1 (f := .glo "is_name") rfl)⟩
  have d_is_between : Df K mg "is_between" s_is_between := ⟨c.def_ 2 (d := de2) rfl, He.glo_ok X G (c.fact 2 (f := .glo "is_between") rfl)⟩
  have d_look_at_aisle : Df K mg "look_at_aisle" s_look_at_aisle := ⟨c.def_ 3 (d := de3) rfl, He.glo_ok X G (c.fact 3 (f := .glo "look_at_aisle") rfl)⟩
  have d_is_order : Df K mg "is_order" s_is_order := ⟨c.def_ 4 (d := de4) rfl, He.glo_ok X G (c.fact 4 (f := .glo "is_order") rfl)⟩
  have d_look_at_orders : Df K mg "look_at_orders" s_look_at_orders := ⟨c.def_ 5 (d := de5) rfl, He.glo_ok X G (c.fact 5 (f := .glo "look_at_orders") rfl)⟩
  have d_is_upward : Df K mg "is_upward" s_is_upward := ⟨c.def_ 6 (d := de6) rfl, He.glo_ok X G (c.fact 6 (f := .glo "is_upward") rfl)⟩
  have d_round_of : Df K mg "round_of" s_round_of := ⟨c.def_ 7 (d := de7) rfl, He.glo_ok X G (c.fact 7 (f := .glo "round_of") rfl)⟩
  have d_gap_ahead : Df K mg "gap_ahead" s_gap_ahead := ⟨c.def_ 8 (d := de8) rfl, He.glo_ok X G (c.fact 8 (f := .glo "gap_ahead") rfl)⟩
  have d_goes_over : Df K mg "goes_over" s_goes_over := ⟨c.def_ 9 (d := de9) rfl, He.glo_ok X G (c.fact 9 (f := .glo "goes_over") rfl)⟩
  have d_crowd_of : Df K mg "crowd_of" s_crowd_of := ⟨c.def_ 10 (d := de10) rfl, He.glo_ok X G (c.fact 10 (f := .glo "crowd_of") rfl)⟩
  have d_bound_of : Df K mg "bound_of" s_bound_of := ⟨c.def_ 11 (d := de11) rfl, He.glo_ok X G (c.fact 11 (f := .glo "bound_of") rfl)⟩
  have d_pool : Df K mg "_law_pool" s_pool := ⟨c.def_ 12 (d := de12) rfl, He.glo_ok X G (c.fact 12 (f := .glo "_law_pool") rfl)⟩
  have d_take : Df K mg "_law_take" s_take := ⟨c.def_ 13 (d := de13) rfl, He.glo_ok X G (c.fact 13 (f := .glo "_law_take") rfl)⟩
  have d_aisle : Df K mg "_law_aisle" s_aisle := ⟨c.def_ 14 (d := de14) rfl, He.glo_ok X G (c.fact 14 (f := .glo "_law_aisle") rfl)⟩
  have d_name : Df K mg "_law_name" s_name := ⟨c.def_ 15 (d := de15) rfl, He.glo_ok X G (c.fact 15 (f := .glo "_law_name") rfl)⟩
  have d_orders : Df K mg "_law_orders" s_orders := ⟨c.def_ 16 (d := de16) rfl, He.glo_ok X G (c.fact 16 (f := .glo "_law_orders") rfl)⟩
  have d_crowds : Df K mg "_law_crowds" s_crowds := ⟨c.def_ 17 (d := de17) rfl, He.glo_ok X G (c.fact 17 (f := .glo "_law_crowds") rfl)⟩
  have d_is_number : Df K mg "_law_is_number" s_is_number := ⟨c.def_ 18 (d := de18) rfl, He.glo_ok X G (c.fact 18 (f := .glo "_law_is_number") rfl)⟩
  have d_right : Df K mg "_law_right" s_right := ⟨c.def_ 19 (d := de19) rfl, He.glo_ok X G (c.fact 19 (f := .glo "_law_right") rfl)⟩
  have d_law : Df K mg "law" s_law := ⟨c.def_ 20 (d := de20) rfl, He.glo_ok X G (c.fact 20 (f := .glo "law") rfl)⟩
  have o_pool := ok_pool (P := P) (w := w) (base := base) d_pool m_len
  have o_take := ok_take (P := P) (w := w) (base := base) d_take 
  have o_aisle := ok_aisle (P := P) (w := w) (base := base) d_aisle m_range o_take
  have o_name := ok_name (P := P) (w := w) (base := base) d_name 
  have o_orders := ok_orders (P := P) (w := w) (base := base) d_orders m_len m_max m_min m_range o_take o_name o_pool
  have o_crowds := ok_crowds (P := P) (w := w) (base := base) d_crowds m_range
  have o_is_number := ok_is_number (P := P) (w := w) (base := base) d_is_number m_bool m_int m_isinstance
  have o_is_whole := ok_is_whole (P := P) (w := w) (base := base) d_is_whole m_bool m_int m_isinstance
  have o_is_between := ok_is_between (P := P) (w := w) (base := base) d_is_between o_is_whole
  have o_look_at_aisle := ok_look_at_aisle (P := P) (w := w) (base := base) d_look_at_aisle m_all m_isinstance m_len m_list m_tuple c_LONGEST_GAP c_MOST_GAPS c_MOST_LOAD o_is_between
  have o_is_name := ok_is_name (P := P) (w := w) (base := base) d_is_name m_all m_isinstance m_len m_str c_LETTERS c_LONGEST
  have o_is_order := ok_is_order (P := P) (w := w) (base := base) d_is_order m_isinstance m_len m_tuple c_LATEST o_is_between o_is_name
  have o_look_at_orders := ok_look_at_orders (P := P) (w := w) (base := base) d_look_at_orders m_isinstance m_len m_list c_MOST_ORDERS o_is_order o_look_at_aisle
  have o_is_upward := ok_is_upward (P := P) (w := w) (base := base) d_is_upward 
  have o_gap_ahead := ok_gap_ahead (P := P) (w := w) (base := base) d_gap_ahead o_is_upward
  have o_goes_over := ok_goes_over (P := P) (w := w) (base := base) d_goes_over m_max m_min o_is_upward
  have o_crowd_of := ok_crowd_of (P := P) (w := w) (base := base) d_crowd_of m_len o_goes_over o_is_upward o_gap_ahead o_look_at_orders
  have o_round_of := ok_round_of (P := P) (w := w) (base := base) d_round_of m_sum
  have o_bound_of := ok_bound_of (P := P) (w := w) (base := base) d_bound_of o_round_of o_crowd_of
  have o_right := ok_right (P := P) (w := w) (base := base) d_right m_sum o_is_number o_bound_of o_crowd_of
  have o_law := ok_law (P := P) (w := w) (base := base) d_law m_len m_list m_range m_sum o_right o_crowds o_orders o_take o_aisle o_pool
  exact o_law
end Bw
open PySem PySem.W PySem.Calls PyProof.Rows
theorem PySem.Challenge.cw_baycart_k59_crowds_and_bounds_holds : PySem.Challenge.rw_baycart_k59_crowds_and_bounds.Holds := by
  w_on; o_law
  refine HandSHeadRun.head_any (r := Bw.RowL) (q := view Bw.RowL.prog [36]) (H := Bw.hkL) (ob := Bw.obL) (M := 20000) (loose := Bw.looseL) (d := HandSHeadRun.topDef Bw.RowL.prog 36) (kwd := []) Bw.obL_eq
    (by kernel_rfl) (fun s => by kernel_rfl) Bw.runL (by kernel_rfl) (by kernel_rfl) (by kernel_rfl) (by rfl) (by first | assumption | decide +kernel) (by decide +kernel) ⟨rfl, rfl, rfl, rfl, rfl, by decide +kernel⟩ ?hw ?hc
  case hw => w_witness2
  case hc =>
    refine L2.walk_ofE (l := PySem.Challenge.rw_baycart_k59_crowds_and_bounds) (n := 63) (k := 8) (x := "_law_script") (CX := L2.CX0) rfl (by decide) (by kernel_rfl) ⟨rfl, by decide, by decide⟩ ?F (fun _ _ _ _ z => z)
    intro w mg fa h Y G hmg0
    obtain ⟨K, KX, c⟩ := Y
    have hmg : mg ("law" : PySem.Str) = some (.ref fa) := by
      have e : (HandSHeadRun.topDef Bw.RowL.prog 36).name = ("law" : PySem.Str) := by kernel_rfl
      rw [← e]
      exact hmg0
    have ok0 : ∀ base : Heap, Bw.Ok (PySem.Challenge.rw_baycart_k59_crowds_and_bounds).prog w K mg base 8 "law" ["_law_script"] (Bw.sp_law K) := fun base => Bw.all_ok KX G c
    have ef : fa = He.ga K "law" := by
      have q := hmg.symm.trans (ok0 h).gm
      injection q with q
      injection q
    obtain ⟨fd, FF⟩ := c.def_ 20 (d := Bw.de20) rfl
    have bnd : ∀ (s : Shared) (u : Value), BindsTo s fd ⟨[u], []⟩ [("_law_script", u)] := fun s u => (L2.FunD.bindsA (ps := ["_law_script"]) FF fun _ _ _ _ _ _ us hl => match us, hl with | [_], _ => rfl) s [u] rfl
    refine ⟨K, fd, Bw.sp_law K, KX, bnd, fun H a ns hl _ hS => ⟨H, [], ns, true, .cons (.lst hS (Bw.Dts.of_ints ns)) .nil, Bw.sta0, Bw.law_true ns hl, fun v F2 H2 _ _ hv => hv.toBl⟩, fun base hb1 hb2 => ?_⟩
    obtain ⟨⟨fd2, F2, _, lk⟩, _, _⟩ := ok0 base
    rw [ef, (Bw.lk_of FF).one lk]
    exact F2
