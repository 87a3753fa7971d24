import PyProof.Rows.All
import Wide.All
import OpenK.AllK
import Wide.FinOn
import HandS.ForMost
import HandS.IsInst
import HandS.Zip
import HandS.FStr
import HandS.Flow
import HandS.Style
import HandS.Defaults
import HandS.HeadHook2
import HandS.Strs
import HandS.SetFor
import KE.KStateDown
import HandS.Head0
import HandS.Head1
import HandS.Head2
import HandS.TupAny
import HandS.Sort
import HandS.HeadEnd
import HandS.HeadHook1
import PySem.Challenge.RW_baycart_k05_stores_shown
set_option Elab.async false
set_option linter.all false
set_option maxRecDepth 100000
set_option maxHeartbeats 8000000
set_option synthInstance.maxHeartbeats 400000
set_option synthInstance.maxSize 2000

namespace Bw
open PySem L2

/-! the state: F what stands for good, cs the objects that may change -/
abbrev Cs := List (Addr × HO)
def Gr (F F' : Hp) : Prop := ∀ a o, F a = some o → F' a = some o
theorem Gr.rfl {F : Hp} : Gr F F := fun _ _ h => h
theorem Gr.tr {F F1 F2 : Hp} (a : Gr F F1) (b : Gr F1 F2) : Gr F F2 := fun x o h => b x o (a x o h)
theorem Gr.new {F : Hp} {p : Addr} {o : HO} (h : F p = none) : Gr F (upd F p o) := fun a u e => by
  rw [upd_ne (ne_of_none e h)]; exact e
structure Sta (F : Hp) (cs : Cs) (H : Hp) : Prop where
  fr : Gr F H
  sep : ∀ p ∈ cs, F p.1 = none
  has : ∀ p ∈ cs, H p.1 = some p.2
  nd : (cs.map (·.1)).Nodup
theorem Gr.back {F F' : Hp} {p : Addr} (e : Gr F F') (h : F' p = none) : F p = none := by
  cases h1 : F p with
  | none => rfl
  | some o => rw [e p o h1] at h; cases h
/-- a new thing that stays -/
theorem Sta.lay {F : Hp} {cs : Cs} {H : Hp} {p : Addr} {o : HO} (s : Sta F cs H) (h : H p = none) : Sta (upd F p o) cs (upd H p o) where
  fr := fun a u e => by
    by_cases q : a = p
    · subst q; rw [upd_same] at e ⊢; exact e
    · rw [upd_ne q] at e ⊢; exact s.fr a u e
  sep := fun c hc => by
    have q : c.1 ≠ p := fun z => by have := s.has c hc; rw [z, h] at this; cases this
    rw [upd_ne q]; exact s.sep c hc
  has := fun c hc => by
    have q : c.1 ≠ p := fun z => by have := s.has c hc; rw [z, h] at this; cases this
    rw [upd_ne q]; exact s.has c hc
  nd := s.nd
/-- a new thing that may change -/
theorem Sta.cell {F : Hp} {cs : Cs} {H : Hp} {p : Addr} {o : HO} (s : Sta F cs H) (h : H p = none) : Sta F ((p, o) :: cs) (upd H p o) where
  fr := fun a u e => by
    have q : a ≠ p := ne_of_none (s.fr a u e) h
    rw [upd_ne q]; exact s.fr a u e
  sep := fun c hc => by
    rcases List.mem_cons.mp hc with rfl | hc
    · exact s.fr.back h
    · exact s.sep c hc
  has := fun c hc => by
    rcases List.mem_cons.mp hc with rfl | hc
    · exact upd_same
    · have q : c.1 ≠ p := fun z => by have := s.has c hc; rw [z, h] at this; cases this
      rw [upd_ne q]; exact s.has c hc
  nd := by
    rw [List.map_cons, List.nodup_cons]
    refine ⟨fun hm => ?_, s.nd⟩
    obtain ⟨c, hc, e⟩ := List.mem_map.mp hm
    have := s.has c hc
    rw [e, h] at this; cases this
/-- the first changing thing is changed -/
theorem Sta.put {F : Hp} {cs : Cs} {H : Hp} {p : Addr} {o o' : HO} (s : Sta F ((p, o) :: cs) H) : Sta F ((p, o') :: cs) (upd H p o') where
  fr := fun a u e => by
    have q : a ≠ p := fun z => by have := s.sep (p, o) List.mem_cons_self; subst z; rw [e] at this; cases this
    rw [upd_ne q]; exact s.fr a u e
  sep := fun c hc => by
    rcases List.mem_cons.mp hc with rfl | hc
    · exact s.sep (p, o) List.mem_cons_self
    · exact s.sep c (List.mem_cons_of_mem _ hc)
  has := fun c hc => by
    rcases List.mem_cons.mp hc with rfl | hc
    · exact upd_same
    · have nd := s.nd
      rw [List.map_cons, List.nodup_cons] at nd
      have q : c.1 ≠ p := fun z => nd.1 (List.mem_map.mpr ⟨c, hc, z⟩)
      rw [upd_ne q]; exact s.has c (List.mem_cons_of_mem _ hc)
  nd := s.nd
/-- the order of the changing things is free -/
theorem Sta.perm {F : Hp} {cs cs' : Cs} {H : Hp} (s : Sta F cs H) (p : cs.Perm cs') : Sta F cs' H where
  fr := s.fr
  sep := fun c hc => s.sep c (p.mem_iff.mpr hc)
  has := fun c hc => s.has c (p.mem_iff.mpr hc)
  nd := (p.map (·.1)).nodup_iff.mp s.nd
theorem Sta.at {F : Hp} {cs : Cs} {H : Hp} {p : Addr} {o : HO} (s : Sta F cs H) (m : (p, o) ∈ cs) : H p = some o := s.has _ m
/-- the first changing thing changes no more -/
theorem Sta.froze {F : Hp} {cs : Cs} {H : Hp} {p : Addr} {o : HO} (s : Sta F ((p, o) :: cs) H) : Sta (upd F p o) cs H where
  fr := fun a u e => by
    by_cases q : a = p
    · subst q; rw [upd_same] at e; rw [← e]; exact s.has (a, o) List.mem_cons_self
    · rw [upd_ne q] at e; exact s.fr a u e
  sep := fun c hc => by
    have nd := s.nd
    rw [List.map_cons, List.nodup_cons] at nd
    have q : c.1 ≠ p := fun z => nd.1 (List.mem_map.mpr ⟨c, hc, z⟩)
    rw [upd_ne q]; exact s.sep c (List.mem_cons_of_mem _ hc)
  has := fun c hc => s.has c (List.mem_cons_of_mem _ hc)
  nd := by
    have nd := s.nd
    rw [List.map_cons, List.nodup_cons] at nd
    exact nd.2
theorem Sta.free {F : Hp} {cs : Cs} {H : Hp} {p : Addr} {o : HO} (s : Sta F ((p, o) :: cs) H) : F p = none := s.sep (p, o) List.mem_cons_self
theorem Sta.gfr {F : Hp} {cs : Cs} {H : Hp} {p : Addr} {o : HO} (s : Sta F ((p, o) :: cs) H) : Gr F (upd F p o) := Gr.new s.free


theorem mem_mid {α : Type} {l1 l2 : List α} {a : α} : a ∈ l1 ++ a :: l2 := by simp
/-- a changing thing is changed -/
theorem Sta.putAt {F : Hp} {l1 l2 : Cs} {H : Hp} {p : Addr} {o o' : HO} (s : Sta F (l1 ++ (p, o) :: l2) H) : Sta F (l1 ++ (p, o') :: l2) (upd H p o') :=
  ((s.perm List.perm_middle).put (o' := o')).perm List.perm_middle.symm
theorem Sta.frozeAt {F : Hp} {l1 l2 : Cs} {H : Hp} {p : Addr} {o : HO} (s : Sta F (l1 ++ (p, o) :: l2) H) : Sta (upd F p o) (l1 ++ l2) H := (s.perm List.perm_middle).froze
theorem Sta.freeAt {F : Hp} {l1 l2 : Cs} {H : Hp} {p : Addr} {o : HO} (s : Sta F (l1 ++ (p, o) :: l2) H) : F p = none := s.sep (p, o) mem_mid
theorem Sta.getAt {F : Hp} {l1 l2 : Cs} {H : Hp} {p : Addr} {o : HO} (s : Sta F (l1 ++ (p, o) :: l2) H) : H p = some o := s.has (p, o) mem_mid
theorem Gr.upd2 {F F' : Hp} {p : Addr} {o : HO} (g : Gr F F') : Gr (upd F p o) (upd F' p o) := fun a u e => by
  by_cases q : a = p
  · subst q; rw [upd_same] at e ⊢; exact e
  · rw [upd_ne q] at e ⊢; exact g a u e
def cut (F : Hp) (p : Addr) : Hp := fun a => if a = p then none else F a
theorem cut_same {F : Hp} {p : Addr} : cut F p p = none := by unfold cut; rw [if_pos rfl]
theorem cut_ne {F : Hp} {p a : Addr} (h : a ≠ p) : cut F p a = F a := by unfold cut; rw [if_neg h]
/-- what was lent comes back -/
theorem Sta.lent {F F2 : Hp} {l1 l2 : Cs} {H2 : Hp} {p : Addr} {o : HO} (g : Gr (upd F p o) F2) (s : Sta F2 (l1 ++ l2) H2) : Sta (cut F2 p) (l1 ++ (p, o) :: l2) H2 := by
  have hp : F2 p = some o := g p o upd_same
  have hn : ∀ c ∈ l1 ++ l2, c.1 ≠ p := fun c hc z => by
    have := s.sep c hc
    rw [z, hp] at this; cases this
  refine Sta.perm (cs := (p, o) :: (l1 ++ l2)) ⟨fun a u e => ?_, fun c hc => ?_, fun c hc => ?_, ?_⟩ List.perm_middle.symm
  · have q : a ≠ p := fun z => by rw [z, cut_same] at e; cases e
    rw [cut_ne q] at e; exact s.fr a u e
  · rcases List.mem_cons.mp hc with rfl | hc
    · exact cut_same
    · rw [cut_ne (hn c hc)]; exact s.sep c hc
  · rcases List.mem_cons.mp hc with rfl | hc
    · exact s.fr p o hp
    · exact s.has c hc
  · rw [List.map_cons, List.nodup_cons]
    refine ⟨fun hm => ?_, s.nd⟩
    obtain ⟨c, hc, e⟩ := List.mem_map.mp hm
    exact hn c hc e
theorem gr_cut {F F2 : Hp} {p : Addr} {o : HO} (h : F p = none) (g : Gr (upd F p o) F2) : Gr F (cut F2 p) := fun a u e => by
  have q : a ≠ p := ne_of_none e h
  rw [cut_ne q]
  exact g a u (by rw [upd_ne q]; exact e)

/-! data -/
mutual
inductive Dt (K : PySem.W.Frag) (F : Hp) : V → PyData → Prop
  | non : Dt K F .non .none
  | bl (b : Bool) : Dt K F (.bl b) (.bool b)
  | int (i : Int) : Dt K F (.int i) (.int i)
  | str (x : Str) : Dt K F (.str x) (.str x)
  | lst {a : Addr} {xs : List V} {ds : List PyData} : SqL K F a xs → Dts K F xs ds → Dt K F (.ref a) (.list ds)
  | tup {a : Addr} {xs : List V} {ds : List PyData} : SqT K F a xs → Dts K F xs ds → Dt K F (.ref a) (.tuple ds)
  | dct {a : Addr} {kvs : List (Key × V)} : F a = some (.dK kvs) → Dt K F (.ref a) (.dict [])
inductive Dts (K : PySem.W.Frag) (F : Hp) : List V → List PyData → Prop
  | nil : Dts K F [] []
  | cons {v : V} {vs : List V} {d : PyData} {ds : List PyData} : Dt K F v d → Dts K F vs ds → Dts K F (v :: vs) (d :: ds)
end
section
variable {K : PySem.W.Frag} {F F' H : Hp}
theorem gr_R {a : Addr} {u : HO} (e : Gr F F') (h : Rd F a u) : Rd F' a u := by
  rcases h with h | ⟨o, h⟩
  · exact .inl (e a _ h)
  · exact .inr ⟨o, e a _ h⟩
theorem gr_T {a : Addr} {xs : List V} (e : Gr F F') (h : SqT K F a xs) : SqT K F' a xs := by
  rcases h with h | h
  · exact .inl (gr_R e h)
  · exact .inr h
theorem gr_L {a : Addr} {xs : List V} (e : Gr F F') (h : SqL K F a xs) : SqL K F' a xs := by
  rcases h with h | h
  · exact .inl (gr_R e h)
  · exact .inr h
theorem rd_L {a : Addr} {xs : List V} (h : Rd F a (.lst xs)) : SqL K F a xs := .inl h
mutual
theorem Dt.gr (e : Gr F F') : ∀ {v : V} {d : PyData}, Dt K F v d → Dt K F' v d
  | _, _, .non => .non
  | _, _, .bl b => .bl b
  | _, _, .int i => .int i
  | _, _, .str x => .str x
  | _, _, .lst h a => .lst (gr_L e h) (Dts.gr e a)
  | _, _, .tup h a => .tup (gr_T e h) (Dts.gr e a)
  | _, _, .dct h => .dct (e _ _ h)
theorem Dts.gr (e : Gr F F') : ∀ {vs : List V} {ds : List PyData}, Dts K F vs ds → Dts K F' vs ds
  | _, _, .nil => .nil
  | _, _, .cons h t => .cons (Dt.gr e h) (Dts.gr e t)
end
theorem Dt.toInt {v : V} {i : Int} (h : Dt K F v (.int i)) : v = .int i := by cases h; rfl
theorem Dt.toStr {v : V} {x : Str} (h : Dt K F v (.str x)) : v = .str x := by cases h; rfl
theorem Dt.toBl {v : V} {b : Bool} (h : Dt K F v (.bool b)) : v = .bl b := by cases h; rfl
theorem Dt.toNon {v : V} (h : Dt K F v .none) : v = .non := by cases h; rfl
theorem Dt.toLst {v : V} {ds : List PyData} (h : Dt K F v (.list ds)) : ∃ a vs, v = .ref a ∧ SqL K F a vs ∧ Dts K F vs ds := by
  cases h with | lst h a => exact ⟨_, _, rfl, h, a⟩
theorem Dt.toTup {v : V} {ds : List PyData} (h : Dt K F v (.tuple ds)) : ∃ a vs, v = .ref a ∧ SqT K F a vs ∧ Dts K F vs ds := by
  cases h with | tup h a => exact ⟨_, _, rfl, h, a⟩
theorem Dts.len : ∀ {vs : List V} {ds : List PyData}, Dts K F vs ds → vs.length = ds.length
  | _, _, .nil => rfl
  | _, _, .cons _ t => by simp [Dts.len t]
theorem Dts.get : ∀ {vs : List V} {ds : List PyData} {i : Nat} {v : V}, Dts K F vs ds → vs[i]? = some v → ∃ d, ds[i]? = some d ∧ Dt K F v d
  | _, _, _, _, .nil, e => by simp at e
  | _, _, 0, _, .cons h _, e => by simp at e; subst e; exact ⟨_, rfl, h⟩
  | _, _, i + 1, v, .cons _ t, e => by
    obtain ⟨d, h1, h2⟩ := Dts.get (i := i) (v := v) t (by simpa using e)
    exact ⟨d, by simpa using h1, h2⟩
theorem Dts.get2 : ∀ {vs : List V} {ds : List PyData} {i : Nat} {d : PyData}, Dts K F vs ds → ds[i]? = some d → ∃ v, vs[i]? = some v ∧ Dt K F v d
  | _, _, _, _, .nil, e => by simp at e
  | _, _, 0, _, .cons h _, e => by simp at e; subst e; exact ⟨_, rfl, h⟩
  | _, _, i + 1, d, .cons _ t, e => by
    obtain ⟨v, h1, h2⟩ := Dts.get2 (i := i) (d := d) t (by simpa using e)
    exact ⟨v, by simpa using h1, h2⟩
theorem Dts.app : ∀ {vs ws : List V} {ds es : List PyData}, Dts K F vs ds → Dts K F ws es → Dts K F (vs ++ ws) (ds ++ es)
  | _, _, _, _, .nil, s => s
  | _, _, _, _, .cons h t, s => .cons h (Dts.app t s)
theorem Dts.drop : ∀ {vs : List V} {ds : List PyData} (n : Nat), Dts K F vs ds → Dts K F (vs.drop n) (ds.drop n)
  | _, _, 0, h => h
  | _, _, _ + 1, .nil => .nil
  | _, _, n + 1, .cons _ t => Dts.drop n t
theorem Dts.take : ∀ {vs : List V} {ds : List PyData} (n : Nat), Dts K F vs ds → Dts K F (vs.take n) (ds.take n)
  | _, _, 0, _ => .nil
  | _, _, _ + 1, .nil => .nil
  | _, _, n + 1, .cons h t => .cons h (Dts.take n t)
theorem Dts.setAt : ∀ {vs : List V} {ds : List PyData} {v : V} {d : PyData} (n : Nat), Dts K F vs ds → Dt K F v d → Dts K F (vs.set n v) (ds.set n d)
  | _, _, _, _, _, .nil, _ => .nil
  | _, _, _, _, 0, .cons _ t, k => .cons k t
  | _, _, _, _, n + 1, .cons h t, k => .cons h (Dts.setAt n t k)
theorem Dts.rep {vs : List V} {ds : List PyData} (h : Dts K F vs ds) : ∀ n : Nat, Dts K F (List.replicate n vs).flatten (List.replicate n ds).flatten
  | 0 => .nil
  | n + 1 => by rw [List.replicate_succ, List.replicate_succ, List.flatten_cons, List.flatten_cons]; exact h.app (Dts.rep h n)
theorem Dts.hd {vs : List V} {d : PyData} {ds : List PyData} (h : Dts K F vs (d :: ds)) : ∃ v ws, vs = v :: ws ∧ Dt K F v d ∧ Dts K F ws ds := by
  cases h with | cons h t => exact ⟨_, _, rfl, h, t⟩
theorem Dts.no {vs : List V} (h : Dts K F vs []) : vs = [] := by cases h; rfl
theorem Dts.one {vs : List V} {d : PyData} (h : Dts K F vs [d]) : ∃ v, vs = [v] ∧ Dt K F v d := by
  cases h with | cons h t => cases t; exact ⟨_, rfl, h⟩
theorem Dts.two {vs : List V} {d e : PyData} (h : Dts K F vs [d, e]) : ∃ v w, vs = [v, w] ∧ Dt K F v d ∧ Dt K F w e := by
  cases h with | cons h t => obtain ⟨w, rfl, k⟩ := t.one; exact ⟨_, _, rfl, h, k⟩
theorem Dts.three {vs : List V} {d e f : PyData} (h : Dts K F vs [d, e, f]) : ∃ v w z, vs = [v, w, z] ∧ Dt K F v d ∧ Dt K F w e ∧ Dt K F z f := by
  cases h with | cons h t => obtain ⟨w, z, rfl, k, l⟩ := t.two; exact ⟨_, _, _, rfl, h, k, l⟩
theorem Dts.four {vs : List V} {d e f g : PyData} (h : Dts K F vs [d, e, f, g]) : ∃ v w z y, vs = [v, w, z, y] ∧ Dt K F v d ∧ Dt K F w e ∧ Dt K F z f ∧ Dt K F y g := by
  cases h with | cons h t => obtain ⟨w, z, y, rfl, k, l, m⟩ := t.three; exact ⟨_, _, _, _, rfl, h, k, l, m⟩
theorem Dts.ints : ∀ {xs : List Int} {vs : List V}, Dts K F vs (xs.map .int) → vs = xs.map V.int
  | [], _, h => by cases h; rfl
  | x :: xs, _, h => by
    cases h with | cons h t => rw [h.toInt, Dts.ints t]; rfl
theorem Dts.bls : ∀ {xs : List Bool} {vs : List V}, Dts K F vs (xs.map .bool) → vs = xs.map V.bl
  | [], _, h => by cases h; rfl
  | x :: xs, _, h => by
    cases h with | cons h t => rw [h.toBl, Dts.bls t]; rfl
theorem Dts.strs : ∀ {xs : List Str} {vs : List V}, Dts K F vs (xs.map .str) → vs = xs.map V.str
  | [], _, h => by cases h; rfl
  | x :: xs, _, h => by
    cases h with | cons h t => rw [h.toStr, Dts.strs t]; rfl
theorem Dts.of_ints : ∀ xs : List Int, Dts K F (xs.map V.int) (xs.map .int)
  | [] => .nil
  | x :: xs => .cons (.int x) (Dts.of_ints xs)
theorem Dts.of_strs : ∀ xs : List Str, Dts K F (xs.map V.str) (xs.map .str)
  | [] => .nil
  | x :: xs => .cons (.str x) (Dts.of_strs xs)
theorem Dts.of_bls : ∀ xs : List Bool, Dts K F (xs.map V.bl) (xs.map .bool)
  | [] => .nil
  | x :: xs => .cons (.bl x) (Dts.of_bls xs)
mutual
theorem Dt.dp : ∀ {v : V} {d : PyData}, Dt K F v d → d.canLay0 = true → Dp K F v d
  | _, _, .non, _ => .non
  | _, _, .bl b, _ => .bl b
  | _, _, .int i, _ => .int i
  | _, _, .str x, _ => .str x
  | _, _, .lst h a, z => .lst h (Dts.dp a (by simpa [PyData.canLay0] using z))
  | _, _, .tup h a, z => .tup h (Dts.dp a (by simpa [PyData.canLay0] using z))
  | _, _, .dct h, z => by simp [PyData.canLay0] at z
theorem Dts.dp : ∀ {vs : List V} {ds : List PyData}, Dts K F vs ds → PyData.canLayAll0 ds = true → DpAll K F vs ds
  | _, _, .nil, _ => .nil
  | _, _, .cons h t, z => by
    rw [PyData.canLayAll0, Bool.and_eq_true] at z
    exact .cons (Dt.dp h z.1) (Dts.dp t z.2)
end
end
end Bw

namespace Bw
open PySem L2
/-! codes -/
abbrev eI : Int → PyData := PyData.int
abbrev eB : Bool → PyData := PyData.bool
abbrev eS : Str → PyData := PyData.str
abbrev eN : Unit → PyData := fun _ => PyData.none
abbrev eD : PyData → PyData := fun d => d
abbrev eL {α : Type} (e : α → PyData) (xs : List α) : PyData := .list (xs.map e)
abbrev eT1 {α : Type} (e : α → PyData) (x : α) : PyData := .tuple [e x]
abbrev eT2 {α β : Type} (e : α → PyData) (f : β → PyData) (x : α × β) : PyData := .tuple [e x.1, f x.2]
abbrev eT3 {α β γ : Type} (e : α → PyData) (f : β → PyData) (g : γ → PyData) (x : α × β × γ) : PyData := .tuple [e x.1, f x.2.1, g x.2.2]
abbrev eT4 {α β γ δ : Type} (e : α → PyData) (f : β → PyData) (g : γ → PyData) (h : δ → PyData) (x : α × β × γ × δ) : PyData := .tuple [e x.1, f x.2.1, g x.2.2.1, h x.2.2.2]
def eO {α : Type} (e : α → PyData) : Option α → PyData
  | none => .none
  | some x => e x
def oV {α : Type} (f : α → V) : Option α → V
  | none => .non
  | some x => f x
/-! what may fail -/
def mulM (a b : Int) : Option Int := if (-(2 ^ 64) < a ∧ a < 2 ^ 64) ∨ (-(2 ^ 64) < b ∧ b < 2 ^ 64) then some (a * b) else none
def modM (a b : Int) : Option Int := if 0 < b then some (a % b) else none
def fdivM (a b : Int) : Option Int := if 0 < b ∧ b < 1073741824 then some (a / b) else none
def powM (a b : Int) : Option Int := if 0 ≤ b ∧ b ≤ 1000000 ∧ a.natAbs < 2 ^ 64 then some (a ^ b.toNat) else none
def appM {α : Type} (xs : List α) (x : α) : Option (List α) := if xs.length < 100000 then some (xs ++ [x]) else none
def catM {α : Type} (xs ys : List α) : Option (List α) := if xs.length + ys.length ≤ 100000 then some (xs ++ ys) else none
def repM {α : Type} (xs : List α) (k : Int) : Option (List α) := if -(2 ^ 63) ≤ k ∧ k < 2 ^ 63 ∧ xs.length * k.toNat ≤ 100000 then some (List.replicate k.toNat xs).flatten else none
def scatM (x y : Str) : Option Str := if x.length + y.length ≤ 100000 then some (x ++ y) else none
def lenS (x : Str) : Option Int := if x.length ≤ 100000 then some (x.length : Int) else none
def ixS (x : Str) (i : Int) : Option Str := if x.length ≤ 100000 then (atI x.cps.toList i).map (fun c => ⟨#[c]⟩) else none
def cutL {α : Type} (xs : List α) (lo hi : Option Int) : List α := (xs.drop (HT.sIx xs.length 0 lo)).take (HT.sIx xs.length xs.length hi - HT.sIx xs.length 0 lo)
def rngL (a b : Int) : List Int := (List.range (b - a).toNat).map fun (i : Nat) => a + ((i : Nat) : Int)
def rngM (a b : Int) : Option (List Int) := if -(2 ^ 62) ≤ a ∧ a < 2 ^ 62 ∧ -(2 ^ 62) ≤ b ∧ b < 2 ^ 62 then some (rngL a b) else none
def setM {α : Type} (xs : List α) (i : Int) (x : α) : Option (List α) := (ixN xs.length i).map fun j => xs.set j x
def strM (n : Int) : Option Str := if n.natAbs.log2 < 1920 then some (toString n) else none
def b2I (b : Bool) : Int := if b then 1 else 0
def absI (i : Int) : Int := if i < 0 then -i else i
def maxI (i j : Int) : Int := if j > i then j else i
def minI (i j : Int) : Int := if j < i then j else i
def signs (x : Str) : List Str := x.cps.toList.map fun c => ⟨#[c]⟩
def enumM {α : Type} (xs : List α) : List (Int × α) := xs.mapIdx fun i x => ((i : Int), x)
def inS (x y : Str) : Bool := !(Builtin.Str.occurrences y x 0 y.length 1).isEmpty
def letM {α β : Type} (x : α) (f : α → β) : β := f x
theorem sz {n : Nat} (h : n ≤ 100000) : n ≤ sizeLine := Nat.le_trans h (by decide)
theorem szl {n : Nat} (h : n < 100000) : n < sizeLine := Nat.lt_of_lt_of_le h (by decide)
theorem mulM_some {a b c : Int} (h : mulM a b = some c) : CMul a b ∧ a * b = c := by
  unfold mulM at h; split at h
  · rename_i q; exact ⟨q, Option.some.inj h⟩
  · cases h
theorem modM_some {a b c : Int} (h : modM a b = some c) : 0 < b ∧ a % b = c := by
  unfold modM at h; split at h
  · rename_i q; exact ⟨q, Option.some.inj h⟩
  · cases h
theorem fdivM_some {a b c : Int} (h : fdivM a b = some c) : CDiv a b ∧ a / b = c := by
  unfold fdivM at h; split at h
  · rename_i q; exact ⟨q, Option.some.inj h⟩
  · cases h
theorem powM_some {a b c : Int} (h : powM a b = some c) : CPow a b ∧ a ^ b.toNat = c := by
  unfold powM at h; split at h
  · rename_i q; exact ⟨q, Option.some.inj h⟩
  · cases h
theorem appM_some {α : Type} {xs ys : List α} {x : α} (h : appM xs x = some ys) : xs.length < 100000 ∧ xs ++ [x] = ys := by
  unfold appM at h; split at h
  · rename_i q; exact ⟨q, Option.some.inj h⟩
  · cases h
theorem catM_some {α : Type} {xs ys zs : List α} (h : catM xs ys = some zs) : xs.length + ys.length ≤ 100000 ∧ xs ++ ys = zs := by
  unfold catM at h; split at h
  · rename_i q; exact ⟨q, Option.some.inj h⟩
  · cases h
theorem repM_some {α : Type} {xs zs : List α} {k : Int} (h : repM xs k = some zs) : (-(2 ^ 63) ≤ k ∧ k < 2 ^ 63 ∧ xs.length * k.toNat ≤ 100000) ∧ (List.replicate k.toNat xs).flatten = zs := by
  unfold repM at h; split at h
  · rename_i q; exact ⟨q, Option.some.inj h⟩
  · cases h
theorem scatM_some {x y z : Str} (h : scatM x y = some z) : x.length + y.length ≤ 100000 ∧ x ++ y = z := by
  unfold scatM at h; split at h
  · rename_i q; exact ⟨q, Option.some.inj h⟩
  · cases h
theorem lenS_some {x : Str} {n : Int} (h : lenS x = some n) : x.length ≤ 100000 ∧ (x.length : Int) = n := by
  unfold lenS at h; split at h
  · rename_i q; exact ⟨q, Option.some.inj h⟩
  · cases h
theorem strM_some {x : Int} {n : Str} (h : strM x = some n) : x.natAbs.log2 < 1920 ∧ toString x = n := by
  unfold strM at h; split at h
  · rename_i q; exact ⟨q, Option.some.inj h⟩
  · cases h
theorem ixS_some {x z : Str} {i : Int} (h : ixS x i = some z) : x.length ≤ 100000 ∧ ∃ c, atI x.cps.toList i = some c ∧ z = ⟨#[c]⟩ := by
  unfold ixS at h; split at h
  · rename_i q
    refine ⟨q, ?_⟩
    cases e : atI x.cps.toList i with
    | none => rw [e] at h; cases h
    | some c => rw [e] at h; exact ⟨c, rfl, (Option.some.inj h).symm⟩
  · cases h
theorem rngM_some {a b : Int} {xs : List Int} (h : rngM a b = some xs) : (-(2 ^ 62) ≤ a ∧ a < 2 ^ 62 ∧ -(2 ^ 62) ≤ b ∧ b < 2 ^ 62) ∧ rngL a b = xs := by
  unfold rngM at h; split at h
  · rename_i q; exact ⟨q, Option.some.inj h⟩
  · cases h
theorem setM_some {α : Type} {xs ys : List α} {i : Int} {x : α} (h : setM xs i x = some ys) : ∃ j, ixN xs.length i = some j ∧ ys = xs.set j x := by
  unfold setM at h
  cases e : ixN xs.length i with
  | none => rw [e] at h; cases h
  | some j => rw [e] at h; exact ⟨j, rfl, (Option.some.inj h).symm⟩
theorem atI_map {α β : Type} (f : α → β) (xs : List α) (i : Int) : atI (xs.map f) i = (atI xs i).map f := by
  unfold atI
  rw [List.length_map]
  cases ixN xs.length i with
  | none => rfl
  | some j => simp
theorem cutL_map {α β : Type} (f : α → β) (xs : List α) (lo hi : Option Int) : cutL (xs.map f) lo hi = (cutL xs lo hi).map f := by
  unfold cutL
  simp [List.map_take, List.map_drop]
theorem bnd {α β : Type} {a : Option α} {f : α → Option β} {r : β} (h : a.bind f = some r) : ∃ x, a = some x ∧ f x = some r := by
  cases a with
  | none => cases h
  | some x => exact ⟨x, rfl, h⟩
theorem lt {α β : Type} {a : α} {f : α → Option β} {r : β} (h : letM a f = some r) : ∃ x, a = x ∧ f x = some r := ⟨a, rfl, h⟩
theorem sm {α : Type} {x y : α} (h : some x = some y) : x = y := Option.some.inj h

/-! triples -/
def Ev (te : TE) (σ : St) (F : Hp) (cs : Cs) (Φ : V → Hp → Prop) (cs' : Cs) : Prop :=
  ∀ F1 H1, Gr F F1 → Sta F1 cs H1 → ∀ Q : VK, (∀ v F2 H2, Gr F1 F2 → Sta F2 cs' H2 → Φ v F2 → Q v H2) → te σ H1 Q
def EvT (tt : TT) (σ : St) (F : Hp) (cs : Cs) (b : Bool) (cs' : Cs) : Prop :=
  ∀ F1 H1, Gr F F1 → Sta F1 cs H1 → ∀ Q : Bool → Hp → Prop, (∀ F2 H2, Gr F1 F2 → Sta F2 cs' H2 → Q b H2) → tt σ H1 Q
def EvA (ta : TA) (σ : St) (F : Hp) (cs : Cs) (Φ : List V → Hp → Prop) (cs' : Cs) : Prop :=
  ∀ F1 H1, Gr F F1 → Sta F1 cs H1 → ∀ Q : List V → Hp → Prop, (∀ vs F2 H2, Gr F1 F2 → Sta F2 cs' H2 → Φ vs F2 → Q vs H2) → ta σ H1 Q
def EvO (to : TO) (σ : St) (F : Hp) (cs : Cs) (o : Option Int) (cs' : Cs) : Prop :=
  ∀ F1 H1, Gr F F1 → Sta F1 cs H1 → ∀ Q : Option Int → Hp → Prop, (∀ F2 H2, Gr F1 F2 → Sta F2 cs' H2 → Q o H2) → to σ H1 Q
abbrev EvD (K : PySem.W.Frag) (te : TE) (σ : St) (F : Hp) (cs : Cs) (d : PyData) (cs' : Cs) : Prop := Ev te σ F cs (fun v F' => Dt K F' v d) cs'
abbrev EvDs (K : PySem.W.Frag) (ta : TA) (σ : St) (F : Hp) (cs : Cs) (ds : List PyData) (cs' : Cs) : Prop := EvA ta σ F cs (fun vs F' => Dts K F' vs ds) cs'
def Src (K : PySem.W.Frag) (J : It) (F : Hp) (ds : List PyData) : Prop := ∀ F1 c1 H1, Gr F F1 → Sta F1 c1 H1 →
  (∀ i, i < ds.length → J.go i H1) ∧ J.stop ds.length H1 ∧ ∀ i v H2 d, ds[i]? = some d → J.yld i H1 v H2 → ∃ F2, Gr F1 F2 ∧ Sta F2 c1 H2 ∧ Dt K F2 v d
def EvI (K : PySem.W.Frag) (wi : TI) (σ : St) (F : Hp) (cs : Cs) (ds : List PyData) (cs' : Cs) : Prop :=
  ∀ F1 H1, Gr F F1 → Sta F1 cs H1 → ∀ R : It → Hp → Prop, (∀ J F2 H2, Gr F1 F2 → Sta F2 cs' H2 → Src K J F2 ds → R J H2) → wi σ H1 R
section
variable {K : PySem.W.Frag} {σ : St} {F F' : Hp} {cs cs1 cs2 cs3 : Cs} {ta tb tc te : TE} {d e : PyData} {as : TA}
theorem Ev.gr {Φ : V → Hp → Prop} (g : Gr F F') (h : Ev te σ F cs Φ cs1) : Ev te σ F' cs Φ cs1 := fun F1 H1 g1 s Q q => h F1 H1 (g.tr g1) s Q q
theorem d_is (h : EvD K te σ F cs d cs1) (q : d = e) : EvD K te σ F cs e cs1 := q ▸ h
theorem d_var {i : Nat} {v : V} (h : σ[i]? = some (some v)) (hd : Dt K F v d) : EvD K (tVar i) σ F cs d cs := fun F1 H1 g s Q q => ⟨v, h, q v F1 H1 .rfl s (Dt.gr g hd)⟩
theorem d_int {i : Int} : EvD K (tC (.int i)) σ F cs (.int i) cs := fun F1 H1 g s Q q => q _ F1 H1 .rfl s (.int i)
theorem d_bl {b : Bool} : EvD K (tC (.bl b)) σ F cs (.bool b) cs := fun F1 H1 g s Q q => q _ F1 H1 .rfl s (.bl b)
theorem d_str {x : Str} : EvD K (tC (.str x)) σ F cs (.str x) cs := fun F1 H1 g s Q q => q _ F1 H1 .rfl s (.str x)
theorem d_non : EvD K (tC .non) σ F cs .none cs := fun F1 H1 g s Q q => q _ F1 H1 .rfl s .non
/-- two operands -/
theorem d_op {r : R2} {z : PyData} (ha : EvD K ta σ F cs d cs1) (hb : EvD K tb σ F cs1 e cs2) (hr : ∀ x y F2 H2, Dt K F2 x d → Dt K F2 y e → Sta F2 cs2 H2 → Gr F F2 → ∀ Q : VK, (∀ v F3 H3, Gr F2 F3 → Sta F3 cs3 H3 → Dt K F3 v z → Q v H3) → r x y H2 Q) : EvD K (tOp r ta tb) σ F cs z cs3 := fun F1 H1 g1 s Q q =>
  ha F1 H1 g1 s _ fun v F2 H2 g2 s2 h2 => hb F2 H2 (g1.tr g2) s2 _ fun w F3 H3 g3 s3 h3 => hr v w F3 H3 (Dt.gr g3 h2) h3 s3 ((g1.tr g2).tr g3) Q fun v F4 H4 g4 s4 h4 => q v F4 H4 ((g2.tr g3).tr g4) s4 h4
theorem d_I0 {g : Int → Int → V} {a b : Int} {z : PyData} (ha : EvD K ta σ F cs (.int a) cs1) (hb : EvD K tb σ F cs1 (.int b) cs2) (hz : ∀ F, Dt K F (g a b) z) : EvD K (tOp (rI0 g) ta tb) σ F cs z cs2 :=
  d_op ha hb fun x y F2 H2 hx hy s _ Q q => by
    cases hx.toInt; cases hy.toInt
    exact ⟨a, b, rfl, rfl, q _ F2 H2 .rfl s (hz _)⟩
theorem d_I {C : Int → Int → Prop} {g : Int → Int → V} {a b : Int} {z : PyData} (ha : EvD K ta σ F cs (.int a) cs1) (hb : EvD K tb σ F cs1 (.int b) cs2) (hc : C a b) (hz : ∀ F, Dt K F (g a b) z) : EvD K (tOp (rI C g) ta tb) σ F cs z cs2 :=
  d_op ha hb fun x y F2 H2 hx hy s _ Q q => by
    cases hx.toInt; cases hy.toInt
    exact ⟨a, b, rfl, rfl, hc, q _ F2 H2 .rfl s (hz _)⟩
variable {a b c : Int}
theorem d_add (ha : EvD K ta σ F cs (.int a) cs1) (hb : EvD K tb σ F cs1 (.int b) cs2) : EvD K (tOp (rI0 fun i j => .int (i + j)) ta tb) σ F cs (.int (a + b)) cs2 := d_I0 ha hb fun _ => .int _
theorem d_sub (ha : EvD K ta σ F cs (.int a) cs1) (hb : EvD K tb σ F cs1 (.int b) cs2) : EvD K (tOp (rI0 fun i j => .int (i - j)) ta tb) σ F cs (.int (a - b)) cs2 := d_I0 ha hb fun _ => .int _
theorem d_lt (ha : EvD K ta σ F cs (.int a) cs1) (hb : EvD K tb σ F cs1 (.int b) cs2) : EvD K (tOp (rI0 fun i j => .bl (decide (i < j))) ta tb) σ F cs (.bool (decide (a < b))) cs2 := d_I0 ha hb fun _ => .bl _
theorem d_le (ha : EvD K ta σ F cs (.int a) cs1) (hb : EvD K tb σ F cs1 (.int b) cs2) : EvD K (tOp (rI0 fun i j => .bl (decide (i ≤ j))) ta tb) σ F cs (.bool (decide (a ≤ b))) cs2 := d_I0 ha hb fun _ => .bl _
theorem d_gt (ha : EvD K ta σ F cs (.int a) cs1) (hb : EvD K tb σ F cs1 (.int b) cs2) : EvD K (tOp (rI0 fun i j => .bl (decide (j < i))) ta tb) σ F cs (.bool (decide (b < a))) cs2 := d_I0 ha hb fun _ => .bl _
theorem d_ge (ha : EvD K ta σ F cs (.int a) cs1) (hb : EvD K tb σ F cs1 (.int b) cs2) : EvD K (tOp (rI0 fun i j => .bl (decide (j ≤ i))) ta tb) σ F cs (.bool (decide (b ≤ a))) cs2 := d_I0 ha hb fun _ => .bl _
theorem d_mul (ha : EvD K ta σ F cs (.int a) cs1) (hb : EvD K tb σ F cs1 (.int b) cs2) (hc : mulM a b = some c) : EvD K (tOp (rI CMul fun i j => .int (i * j)) ta tb) σ F cs (.int c) cs2 := (mulM_some hc).2 ▸ d_I ha hb (mulM_some hc).1 fun _ => .int _
theorem d_mod (ha : EvD K ta σ F cs (.int a) cs1) (hb : EvD K tb σ F cs1 (.int b) cs2) (hc : modM a b = some c) : EvD K (tOp (rI (fun _ j => 0 < j) fun i j => .int (i % j)) ta tb) σ F cs (.int c) cs2 := (modM_some hc).2 ▸ d_I (C := fun _ j => 0 < j) ha hb (modM_some hc).1 fun _ => .int _
theorem d_fdiv (ha : EvD K ta σ F cs (.int a) cs1) (hb : EvD K tb σ F cs1 (.int b) cs2) (hc : fdivM a b = some c) : EvD K (tOp (rI CDiv fun i j => .int (i / j)) ta tb) σ F cs (.int c) cs2 := (fdivM_some hc).2 ▸ d_I ha hb (fdivM_some hc).1 fun _ => .int _
theorem d_pow (ha : EvD K ta σ F cs (.int a) cs1) (hb : EvD K tb σ F cs1 (.int b) cs2) (hc : powM a b = some c) : EvD K (tOp (rI CPow fun i j => .int (i ^ j.toNat)) ta tb) σ F cs (.int c) cs2 := (powM_some hc).2 ▸ d_I ha hb (powM_some hc).1 fun _ => .int _
theorem d_neg (ha : EvD K ta σ F cs (.int a) cs1) : EvD K (tUn (rU fun i => .int (-i)) ta) σ F cs (.int (-a)) cs1 := fun F1 H1 g1 s Q q =>
  ha F1 H1 g1 s _ fun v F2 H2 g2 s2 h2 => ⟨a, h2.toInt, q _ F2 H2 g2 s2 (.int _)⟩
/-- arguments -/
theorem a_nil : EvDs K tNil σ F cs [] cs := fun F1 H1 g s Q q => q [] F1 H1 .rfl s .nil
theorem a_cons {tr : TA} {ds : List PyData} (h : EvD K ta σ F cs d cs1) (hr : EvDs K tr σ F cs1 ds cs2) : EvDs K (tCons ta tr) σ F cs (d :: ds) cs2 := fun F1 H1 g1 s Q q =>
  h F1 H1 g1 s _ fun v F2 H2 g2 s2 h2 => hr F2 H2 (g1.tr g2) s2 _ fun vs F3 H3 g3 s3 h3 => q (v :: vs) F3 H3 (g2.tr g3) s3 (.cons (Dt.gr g3 h2) h3)
/-- a built-in's call -/
theorem d_cb {r : List V → Hp → VK → Prop} {ds : List PyData} {z : PyData} (ha : EvDs K as σ F cs ds cs1) (hr : ∀ vs F2 H2, Dts K F2 vs ds → Sta F2 cs1 H2 → ∀ Q : VK, (∀ v F3 H3, Gr F2 F3 → Sta F3 cs1 H3 → Dt K F3 v z → Q v H3) → r vs H2 Q) : EvD K (tCB r as) σ F cs z cs1 := fun F1 H1 g1 s Q q =>
  ha F1 H1 g1 s _ fun vs F2 H2 g2 s2 h2 => hr vs F2 H2 h2 s2 Q fun v F3 H3 g3 s3 h3 => q v F3 H3 (g2.tr g3) s3 h3
theorem d_abs (ha : EvDs K as σ F cs [.int a] cs1) : EvD K (tCB (fun xs H Q => ∃ i, xs = [.int i] ∧ Q (.int (if i < 0 then -i else i)) H) as) σ F cs (.int (absI a)) cs1 := d_cb ha fun vs F2 H2 h s Q q => by
  obtain ⟨v, rfl, k1⟩ := h.one; cases k1.toInt
  exact ⟨a, rfl, q _ F2 H2 .rfl s (.int _)⟩
theorem d_max2 (ha : EvDs K as σ F cs [.int a, .int b] cs1) : EvD K (tCB (fun xs H Q => ∃ i j, xs = [.int i, .int j] ∧ Q (.int (if j > i then j else i)) H) as) σ F cs (.int (maxI a b)) cs1 := d_cb ha fun vs F2 H2 h s Q q => by
  obtain ⟨v, w, rfl, k1, k2⟩ := h.two; cases k1.toInt; cases k2.toInt
  exact ⟨a, b, rfl, q _ F2 H2 .rfl s (.int _)⟩
theorem d_min2 (ha : EvDs K as σ F cs [.int a, .int b] cs1) : EvD K (tCB (fun xs H Q => ∃ i j, xs = [.int i, .int j] ∧ Q (.int (if j < i then j else i)) H) as) σ F cs (.int (minI a b)) cs1 := d_cb ha fun vs F2 H2 h s Q q => by
  obtain ⟨v, w, rfl, k1, k2⟩ := h.two; cases k1.toInt; cases k2.toInt
  exact ⟨a, b, rfl, q _ F2 H2 .rfl s (.int _)⟩
theorem d_lenL {ds : List PyData} (ha : EvDs K as σ F cs [.list ds] cs1) : EvD K (tCB (fun xs H Q => ∃ p ys, xs = [.ref p] ∧ (SqL K H p ys ∨ SqT K H p ys) ∧ Q (.int ys.length) H) as) σ F cs (.int ds.length) cs1 := d_cb ha fun vs F2 H2 h s Q q => by
  obtain ⟨v, rfl, k1⟩ := h.one
  obtain ⟨p, ys, rfl, hl, hd⟩ := k1.toLst
  exact ⟨p, ys, rfl, .inl (gr_L s.fr hl), q _ F2 H2 .rfl s (by rw [hd.len]; exact .int _)⟩
theorem d_len {α : Type} {e : α → PyData} {xs : List α} (ha : EvDs K as σ F cs [eL e xs] cs1) : EvD K (tCB (fun xs H Q => ∃ p ys, xs = [.ref p] ∧ (SqL K H p ys ∨ SqT K H p ys) ∧ Q (.int ys.length) H) as) σ F cs (.int xs.length) cs1 := by
  have := d_lenL ha
  rw [List.length_map] at this
  exact this
theorem d_lenT {ds : List PyData} (ha : EvDs K as σ F cs [.tuple ds] cs1) : EvD K (tCB (fun xs H Q => ∃ p ys, xs = [.ref p] ∧ (SqL K H p ys ∨ SqT K H p ys) ∧ Q (.int ys.length) H) as) σ F cs (.int ds.length) cs1 := d_cb ha fun vs F2 H2 h s Q q => by
  obtain ⟨v, rfl, k1⟩ := h.one
  obtain ⟨p, ys, rfl, hl, hd⟩ := k1.toTup
  exact ⟨p, ys, rfl, .inr (gr_T s.fr hl), q _ F2 H2 .rfl s (by rw [hd.len]; exact .int _)⟩
theorem d_lenS {x : Str} {n : Int} (ha : EvDs K as σ F cs [.str x] cs1) (hn : lenS x = some n) : EvD K (tCB (fun xs H Q => ∃ z, xs = [.str z] ∧ z.length ≤ sizeLine ∧ Q (.int z.length) H) as) σ F cs (.int n) cs1 := d_cb ha fun vs F2 H2 h s Q q => by
  obtain ⟨v, rfl, k1⟩ := h.one; cases k1.toStr
  obtain ⟨h1, rfl⟩ := lenS_some hn
  exact ⟨x, rfl, sz h1, q _ F2 H2 .rfl s (.int _)⟩
theorem d_intB {b : Bool} (ha : EvDs K as σ F cs [.bool b] cs1) : EvD K (tCB (fun xs H Q => (∃ i, xs = [.int i] ∧ Q (.int i) H) ∨ ∃ k, xs = [.bl k] ∧ Q (.int (if k then 1 else 0)) H) as) σ F cs (.int (b2I b)) cs1 := d_cb ha fun vs F2 H2 h s Q q => by
  obtain ⟨v, rfl, k1⟩ := h.one; cases k1.toBl
  exact .inr ⟨b, rfl, q _ F2 H2 .rfl s (.int _)⟩
theorem d_strI {x : Str} (ha : EvDs K as σ F cs [.int a] cs1) (hn : strM a = some x) : EvD K (tCB (fun xs H Q => ∃ i, xs = [.int i] ∧ i.natAbs.log2 < 1920 ∧ Q (.str (toString i)) H) as) σ F cs (.str x) cs1 := d_cb ha fun vs F2 H2 h s Q q => by
  obtain ⟨v, rfl, k1⟩ := h.one; cases k1.toInt
  obtain ⟨h1, rfl⟩ := strM_some hn
  exact ⟨a, rfl, h1, q _ F2 H2 .rfl s (.str _)⟩
theorem d_sum {xs : List Int} (ha : EvDs K as σ F cs [eL eI xs] cs1) : EvD K (tCB (rSum K) as) σ F cs (.int xs.sum) cs1 := d_cb ha fun vs F2 H2 h s Q q => by
  obtain ⟨v, rfl, k1⟩ := h.one
  obtain ⟨p, ys, rfl, hl, hd⟩ := k1.toLst
  cases hd.ints
  exact ⟨p, xs, rfl, gr_L s.fr hl, q _ F2 H2 .rfl s (.int _)⟩
theorem d_all {xs : List Bool} (ha : EvDs K as σ F cs [eL eB xs] cs1) : EvD K (tCB (rAll K) as) σ F cs (.bool (xs.all id)) cs1 := d_cb ha fun vs F2 H2 h s Q q => by
  obtain ⟨v, rfl, k1⟩ := h.one
  obtain ⟨p, ys, rfl, hl, hd⟩ := k1.toLst
  cases hd.bls
  exact ⟨p, xs, rfl, gr_L s.fr hl, q _ F2 H2 .rfl s (.bl _)⟩
theorem d_any {xs : List Bool} (ha : EvDs K as σ F cs [eL eB xs] cs1) : EvD K (tCB (rAny K) as) σ F cs (.bool (xs.any id)) cs1 := d_cb ha fun vs F2 H2 h s Q q => by
  obtain ⟨v, rfl, k1⟩ := h.one
  obtain ⟨p, ys, rfl, hl, hd⟩ := k1.toLst
  cases hd.bls
  exact ⟨p, xs, rfl, gr_L s.fr hl, q _ F2 H2 .rfl s (.bl _)⟩
theorem d_listL {ds : List PyData} (ha : EvDs K as σ F cs [.list ds] cs1) : EvD K (tCB (fun xs H Q => ∃ p ys, xs = [.ref p] ∧ (SqL K H p ys ∨ SqT K H p ys) ∧ ∀ l, H l = none → Q (.ref l) (upd H l (.lst ys))) as) σ F cs (.list ds) cs1 := d_cb ha fun vs F2 H2 h s Q q => by
  obtain ⟨v, rfl, k1⟩ := h.one
  obtain ⟨p, ys, rfl, hl, hd⟩ := k1.toLst
  exact ⟨p, ys, rfl, .inl (gr_L s.fr hl), fun l nl => q _ _ _ (Gr.new (s.fr.back nl)) (s.lay nl) (.lst (.inl (.inl upd_same)) (hd.gr (Gr.new (s.fr.back nl))))⟩
/-- a new list, a new tuple -/
theorem d_lst {ds : List PyData} (h : EvDs K as σ F cs ds cs1) (hl : ds.length ≤ 100000) : EvD K (tLst as) σ F cs (.list ds) cs1 := fun F1 H1 g1 s Q q =>
  h F1 H1 g1 s _ fun vs F2 H2 g2 s2 h2 => ⟨h2.len.symm ▸ sz hl, fun p hp => q _ _ _ (g2.tr (Gr.new (s2.fr.back hp))) (s2.lay hp) (.lst (.inl (.inl upd_same)) (h2.gr (Gr.new (s2.fr.back hp))))⟩
theorem d_tup {ds : List PyData} (h : EvDs K as σ F cs ds cs1) (hl : ds.length ≤ 100000) : EvD K (tTup as) σ F cs (.tuple ds) cs1 := fun F1 H1 g1 s Q q =>
  h F1 H1 g1 s _ fun vs F2 H2 g2 s2 h2 => ⟨h2.len.symm ▸ sz hl, fun p hp => q _ _ _ (g2.tr (Gr.new (s2.fr.back hp))) (s2.lay hp) (.tup (.inl (.inl upd_same)) (h2.gr (Gr.new (s2.fr.back hp))))⟩
/-- items -/
theorem d_ixLs {ds : List PyData} {z : PyData} (ha : EvD K ta σ F cs (.list ds) cs1) (hb : EvD K tb σ F cs1 (.int b) cs2) (hz : atI ds b = some z) : EvD K (tOp (rIxL K) ta tb) σ F cs z cs2 :=
  d_op ha hb fun x y F2 H2 hx hy s _ Q q => by
    obtain ⟨p, vs, rfl, hl, hd⟩ := hx.toLst; cases hy.toInt
    unfold atI at hz
    rw [← hd.len] at hz
    cases e : ixN vs.length b with
    | none => rw [e] at hz; cases hz
    | some j =>
      rw [e] at hz
      obtain ⟨v, h1, h2⟩ := hd.get2 (show ds[j]? = some z from hz)
      exact ⟨p, vs, b, v, rfl, rfl, gr_L s.fr hl, by unfold atI; rw [e]; exact h1, q v F2 H2 .rfl s h2⟩
theorem d_ix {α : Type} {e : α → PyData} {xs : List α} {x : α} (ha : EvD K ta σ F cs (eL e xs) cs1) (hb : EvD K tb σ F cs1 (.int b) cs2) (hz : atI xs b = some x) : EvD K (tOp (rIxL K) ta tb) σ F cs (e x) cs2 :=
  d_ixLs ha hb (by rw [atI_map, hz]; rfl)
theorem d_ixT {ds : List PyData} {z : PyData} (ha : EvD K ta σ F cs (.tuple ds) cs1) (hb : EvD K tb σ F cs1 (.int b) cs2) (hz : atI ds b = some z) : EvD K (tOp (rIxT K) ta tb) σ F cs z cs2 :=
  d_op ha hb fun x y F2 H2 hx hy s _ Q q => by
    obtain ⟨p, vs, rfl, hl, hd⟩ := hx.toTup; cases hy.toInt
    unfold atI at hz
    rw [← hd.len] at hz
    cases e : ixN vs.length b with
    | none => rw [e] at hz; cases hz
    | some j =>
      rw [e] at hz
      obtain ⟨v, h1, h2⟩ := hd.get2 (show ds[j]? = some z from hz)
      exact ⟨p, vs, b, v, rfl, rfl, gr_T s.fr hl, by unfold atI; rw [e]; exact h1, q v F2 H2 .rfl s h2⟩
theorem d_ixS {x z : Str} (ha : EvD K ta σ F cs (.str x) cs1) (hb : EvD K tb σ F cs1 (.int b) cs2) (hz : ixS x b = some z) : EvD K (tOp rIxS ta tb) σ F cs (.str z) cs2 :=
  d_op ha hb fun v y F2 H2 hx hy s _ Q q => by
    cases hx.toStr; cases hy.toInt
    obtain ⟨h1, c, h2, rfl⟩ := ixS_some hz
    exact ⟨x, b, c, rfl, rfl, sz h1, h2, q _ F2 H2 .rfl s (.str _)⟩
/-- slices -/
theorem o_none : EvO tNoPart σ F cs none cs := fun F1 H1 g s Q q => q F1 H1 .rfl s
theorem o_some (h : EvD K te σ F cs (.int a) cs1) : EvO (tPart te) σ F cs (some a) cs1 := fun F1 H1 g1 s Q q => h F1 H1 g1 s _ fun v F2 H2 g2 s2 h2 => ⟨a, h2.toInt, q F2 H2 g2 s2⟩
theorem d_sl {α : Type} {e : α → PyData} {xs : List α} {tl th : TO} {lo hi : Option Int} (h : EvD K te σ F cs (eL e xs) cs1) (h1 : EvO tl σ F cs1 lo cs2) (h2 : EvO th σ F cs2 hi cs3) : EvD K (tSl (rSlL K) te tl th) σ F cs (eL e (cutL xs lo hi)) cs3 := fun F1 H1 g1 s Q q =>
  h F1 H1 g1 s _ fun v F2 H2 g2 s2 hv => h1 F2 H2 (g1.tr g2) s2 _ fun F3 H3 g3 s3 => h2 F3 H3 ((g1.tr g2).tr g3) s3 _ fun F4 H4 g4 s4 => by
    obtain ⟨p, vs, rfl, hl, hd⟩ := hv.toLst
    have hd' := hd.gr (g3.tr g4)
    refine ⟨p, vs, rfl, gr_L s4.fr (gr_L (g3.tr g4) hl), fun l nl => q _ _ _ ((g2.tr (g3.tr g4)).tr (Gr.new (s4.fr.back nl))) (s4.lay nl) (.lst (.inl (.inl upd_same)) ?_)⟩
    rw [← cutL_map]
    unfold cutV cutL
    rw [hd.len]
    exact ((hd'.gr (Gr.new (s4.fr.back nl))).drop _).take _
/-- == of flat things -/
theorem dec_V {α : Type} [DecidableEq α] {f : α → V} (hf : ∀ x y, f x = f y → x = y) (x y : α) : decide (f x = f y) = decide (x = y) := by
  by_cases h : x = y
  · subst h; simp
  · rw [decide_eq_false h, decide_eq_false (fun q => h (hf x y q))]
theorem d_eqI (ha : EvD K ta σ F cs (.int a) cs1) (hb : EvD K tb σ F cs1 (.int b) cs2) : EvD K (tOp rEq ta tb) σ F cs (.bool (decide (a = b))) cs2 :=
  d_op ha hb fun x y F2 H2 hx hy s _ Q q => by
    cases hx.toInt; cases hy.toInt
    exact ⟨rfl, q _ F2 H2 .rfl s (by rw [dec_V (f := V.int) (fun _ _ h => V.int.inj h)]; exact .bl _)⟩
theorem d_neI (ha : EvD K ta σ F cs (.int a) cs1) (hb : EvD K tb σ F cs1 (.int b) cs2) : EvD K (tOp rNe ta tb) σ F cs (.bool (!decide (a = b))) cs2 :=
  d_op ha hb fun x y F2 H2 hx hy s _ Q q => by
    cases hx.toInt; cases hy.toInt
    exact ⟨rfl, q _ F2 H2 .rfl s (by rw [dec_V (f := V.int) (fun _ _ h => V.int.inj h)]; exact .bl _)⟩
theorem d_eqS {x y : Str} (ha : EvD K ta σ F cs (.str x) cs1) (hb : EvD K tb σ F cs1 (.str y) cs2) : EvD K (tOp rEq ta tb) σ F cs (.bool (decide (x = y))) cs2 :=
  d_op ha hb fun _ _ F2 H2 hx hy s _ Q q => by
    cases hx.toStr; cases hy.toStr
    exact ⟨rfl, q _ F2 H2 .rfl s (by rw [dec_V (f := V.str) (fun _ _ h => V.str.inj h)]; exact .bl _)⟩
theorem d_neS {x y : Str} (ha : EvD K ta σ F cs (.str x) cs1) (hb : EvD K tb σ F cs1 (.str y) cs2) : EvD K (tOp rNe ta tb) σ F cs (.bool (!decide (x = y))) cs2 :=
  d_op ha hb fun _ _ F2 H2 hx hy s _ Q q => by
    cases hx.toStr; cases hy.toStr
    exact ⟨rfl, q _ F2 H2 .rfl s (by rw [dec_V (f := V.str) (fun _ _ h => V.str.inj h)]; exact .bl _)⟩
theorem d_eqB {x y : Bool} (ha : EvD K ta σ F cs (.bool x) cs1) (hb : EvD K tb σ F cs1 (.bool y) cs2) : EvD K (tOp rEq ta tb) σ F cs (.bool (decide (x = y))) cs2 :=
  d_op ha hb fun _ _ F2 H2 hx hy s _ Q q => by
    cases hx.toBl; cases hy.toBl
    exact ⟨rfl, q _ F2 H2 .rfl s (by rw [dec_V (f := V.bl) (fun _ _ h => V.bl.inj h)]; exact .bl _)⟩
theorem d_neB {x y : Bool} (ha : EvD K ta σ F cs (.bool x) cs1) (hb : EvD K tb σ F cs1 (.bool y) cs2) : EvD K (tOp rNe ta tb) σ F cs (.bool (!decide (x = y))) cs2 :=
  d_op ha hb fun _ _ F2 H2 hx hy s _ Q q => by
    cases hx.toBl; cases hy.toBl
    exact ⟨rfl, q _ F2 H2 .rfl s (by rw [dec_V (f := V.bl) (fun _ _ h => V.bl.inj h)]; exact .bl _)⟩
/-- == of data -/
theorem d_eqD (ha : EvD K ta σ F cs d cs1) (hb : EvD K tb σ F cs1 e cs2) (h1 : SeqAt.shaped d = true) (h2 : SeqAt.shaped e = true) : EvD K (tOp (rEqD K) ta tb) σ F cs (.bool (PyData.eqv d e)) cs2 :=
  d_op ha hb fun x y F2 H2 hx hy s _ Q q => ⟨d, e, (hx.gr s.fr).dp (SeqAt.canLay_of_shaped h1), (hy.gr s.fr).dp (SeqAt.canLay_of_shaped h2), h1, h2, q _ F2 H2 .rfl s (.bl _)⟩
theorem d_neD (ha : EvD K ta σ F cs d cs1) (hb : EvD K tb σ F cs1 e cs2) (h1 : SeqAt.shaped d = true) (h2 : SeqAt.shaped e = true) : EvD K (tOp (rNeD K) ta tb) σ F cs (.bool (!PyData.eqv d e)) cs2 :=
  d_op ha hb fun x y F2 H2 hx hy s _ Q q => ⟨d, e, (hx.gr s.fr).dp (SeqAt.canLay_of_shaped h1), (hy.gr s.fr).dp (SeqAt.canLay_of_shaped h2), h1, h2, q _ F2 H2 .rfl s (.bl _)⟩
/-- texts -/
theorem d_scat {x y z : Str} (ha : EvD K ta σ F cs (.str x) cs1) (hb : EvD K tb σ F cs1 (.str y) cs2) (hz : scatM x y = some z) : EvD K (tOp (fun x y H Q => ∃ i j, x = .str i ∧ y = .str j ∧ i.length + j.length ≤ sizeLine ∧ Q (.str (i ++ j)) H) ta tb) σ F cs (.str z) cs2 :=
  d_op ha hb fun _ _ F2 H2 hx hy s _ Q q => by
    cases hx.toStr; cases hy.toStr
    obtain ⟨h1, rfl⟩ := scatM_some hz
    exact ⟨x, y, rfl, rfl, sz h1, q _ F2 H2 .rfl s (.str _)⟩
theorem d_inS {x y : Str} (ha : EvD K ta σ F cs (.str x) cs1) (hb : EvD K tb σ F cs1 (.str y) cs2) : EvD K (tOp (fun x y H Q => ∃ i j, x = .str i ∧ y = .str j ∧ Q (.bl (!(Builtin.Str.occurrences j i 0 j.length 1).isEmpty)) H) ta tb) σ F cs (.bool (inS x y)) cs2 :=
  d_op ha hb fun _ _ F2 H2 hx hy s _ Q q => by
    cases hx.toStr; cases hy.toStr
    exact ⟨x, y, rfl, rfl, q _ F2 H2 .rfl s (.bl _)⟩
theorem d_notinS {x y : Str} (ha : EvD K ta σ F cs (.str x) cs1) (hb : EvD K tb σ F cs1 (.str y) cs2) : EvD K (tOp (fun x y H Q => ∃ i j, x = .str i ∧ y = .str j ∧ Q (.bl (!(!(Builtin.Str.occurrences j i 0 j.length 1).isEmpty))) H) ta tb) σ F cs (.bool (!inS x y)) cs2 :=
  d_op ha hb fun _ _ F2 H2 hx hy s _ Q q => by
    cases hx.toStr; cases hy.toStr
    exact ⟨x, y, rfl, rfl, q _ F2 H2 .rfl s (.bl _)⟩
/-- tests -/
theorem t_test {b : Bool} (h : EvD K te σ F cs (.bool b) cs1) : EvT (tTest te) σ F cs b cs1 := fun F1 H1 g1 s Q q =>
  h F1 H1 g1 s _ fun v F2 H2 g2 s2 h2 => ⟨b, h2.toBl, q F2 H2 g2 s2⟩
theorem t_B {b : Bool} (h : EvD K te σ F cs (.bool b) cs1) : EvT (tB te) σ F cs b cs1 := fun F1 H1 g1 s Q q =>
  h F1 H1 g1 s _ fun v F2 H2 g2 s2 h2 => ⟨b, h2.toBl, q F2 H2 g2 s2⟩
theorem t_not {t : TT} {b : Bool} (h : EvT t σ F cs b cs1) : EvT (tNot t) σ F cs (!b) cs1 := fun F1 H1 g1 s Q q => h F1 H1 g1 s _ fun F2 H2 g2 s2 => q F2 H2 g2 s2
theorem t_and {t u : TT} {a b r : Bool} (h1 : EvT t σ F cs a cs1) (h2 : a = true → EvT u σ F cs1 b cs1) (h3 : a = true → r = b) (h4 : a = false → r = false) : EvT (tAnd t u) σ F cs r cs1 := fun F1 H1 g1 s Q q => h1 F1 H1 g1 s _ fun F2 H2 g2 s2 => by
  cases a with
  | true => rw [h3 rfl] at q; exact h2 rfl F2 H2 (g1.tr g2) s2 Q fun F3 H3 g3 s3 => q F3 H3 (g2.tr g3) s3
  | false => rw [h4 rfl] at q; exact q F2 H2 g2 s2
theorem t_or {t u : TT} {a b r : Bool} (h1 : EvT t σ F cs a cs1) (h2 : a = false → EvT u σ F cs1 b cs1) (h3 : a = false → r = b) (h4 : a = true → r = true) : EvT (tOr t u) σ F cs r cs1 := fun F1 H1 g1 s Q q => h1 F1 H1 g1 s _ fun F2 H2 g2 s2 => by
  cases a with
  | false => rw [h3 rfl] at q; exact h2 rfl F2 H2 (g1.tr g2) s2 Q fun F3 H3 g3 s3 => q F3 H3 (g2.tr g3) s3
  | true => rw [h4 rfl] at q; exact q F2 H2 g2 s2
theorem d_andV {a b r : Bool} (h1 : EvD K ta σ F cs (.bool a) cs1) (h2 : a = true → EvD K tb σ F cs1 (.bool b) cs1) (h3 : a = true → r = b) (h4 : a = false → r = false) : EvD K (tAndV ta tb) σ F cs (.bool r) cs1 := fun F1 H1 g1 s Q q => h1 F1 H1 g1 s _ fun v F2 H2 g2 s2 hv => ⟨a, hv.toBl, by
  cases a with
  | true => rw [h3 rfl] at q; exact h2 rfl F2 H2 (g1.tr g2) s2 Q fun v F3 H3 g3 s3 k => q v F3 H3 (g2.tr g3) s3 k
  | false => rw [h4 rfl] at q; exact q _ F2 H2 g2 s2 (.bl _)⟩
theorem d_orV {a b r : Bool} (h1 : EvD K ta σ F cs (.bool a) cs1) (h2 : a = false → EvD K tb σ F cs1 (.bool b) cs1) (h3 : a = false → r = b) (h4 : a = true → r = true) : EvD K (tOrV ta tb) σ F cs (.bool r) cs1 := fun F1 H1 g1 s Q q => h1 F1 H1 g1 s _ fun v F2 H2 g2 s2 hv => ⟨a, hv.toBl, by
  cases a with
  | false => rw [h3 rfl] at q; exact h2 rfl F2 H2 (g1.tr g2) s2 Q fun v F3 H3 g3 s3 k => q v F3 H3 (g2.tr g3) s3 k
  | true => rw [h4 rfl] at q; exact q _ F2 H2 g2 s2 (.bl _)⟩
theorem d_notV {a : Bool} (h : EvD K ta σ F cs (.bool a) cs1) : EvD K (tNotV ta) σ F cs (.bool (!a)) cs1 := fun F1 H1 g1 s Q q => h F1 H1 g1 s _ fun v F2 H2 g2 s2 hv => ⟨a, hv.toBl, q _ F2 H2 g2 s2 (.bl _)⟩
theorem d_ifE {t : TT} {a : Bool} (h : EvT t σ F cs a cs1) (h1 : a = true → EvD K ta σ F cs1 d cs2) (h2 : a = false → EvD K tb σ F cs1 d cs2) : EvD K (tIf t ta tb) σ F cs d cs2 := fun F1 H1 g1 s Q q => h F1 H1 g1 s _ fun F2 H2 g2 s2 => by
  cases a with
  | true => exact h1 rfl F2 H2 (g1.tr g2) s2 Q fun v F3 H3 g3 s3 k => q v F3 H3 (g2.tr g3) s3 k
  | false => exact h2 rfl F2 H2 (g1.tr g2) s2 Q fun v F3 H3 g3 s3 k => q v F3 H3 (g2.tr g3) s3 k
end
end Bw

namespace Bw
open PySem L2
/-- a new list, which may change -/
def EvC (K : PySem.W.Frag) (te : TE) (σ : St) (F : Hp) (cs : Cs) (ds : List PyData) (cs' : Cs) : Prop :=
  ∀ F1 H1, Gr F F1 → Sta F1 cs H1 → ∀ Q : VK, (∀ p vs F2 H2, Gr F1 F2 → Sta F2 ((p, .lst vs) :: cs') H2 → Dts K F2 vs ds → Q (.ref p) H2) → te σ H1 Q
section
variable {K : PySem.W.Frag} {σ : St} {F F' : Hp} {cs cs1 cs2 cs3 : Cs} {ta tb tc te : TE} {d e : PyData} {as : TA} {a b c : Int}
theorem EvC.dd {ds : List PyData} (h : EvC K te σ F cs ds cs1) : EvD K te σ F cs (.list ds) cs1 := fun F1 H1 g1 s Q q => h F1 H1 g1 s Q fun p vs F2 H2 g2 s2 h2 => q _ _ H2 (g2.tr s2.gfr) s2.froze (.lst (.inl (.inl upd_same)) (h2.gr s2.gfr))
theorem c_is {ds es : List PyData} (h : EvC K te σ F cs ds cs1) (q : ds = es) : EvC K te σ F cs es cs1 := q ▸ h
theorem c_lst {ds : List PyData} (h : EvDs K as σ F cs ds cs1) (hl : ds.length ≤ 100000) : EvC K (tLst as) σ F cs ds cs1 := fun F1 H1 g1 s Q q =>
  h F1 H1 g1 s _ fun vs F2 H2 g2 s2 h2 => ⟨h2.len.symm ▸ sz hl, fun p hp => q p vs F2 _ g2 (s2.cell hp) h2⟩
theorem c_list {ds : List PyData} (ha : EvDs K as σ F cs [.list ds] cs1) : EvC K (tCB (fun xs H Q => ∃ p ys, xs = [.ref p] ∧ (SqL K H p ys ∨ SqT K H p ys) ∧ ∀ l, H l = none → Q (.ref l) (upd H l (.lst ys))) as) σ F cs ds cs1 := fun F1 H1 g1 s Q q => ha F1 H1 g1 s _ fun vs F2 H2 g2 s2 h2 => by
  obtain ⟨v, rfl, k⟩ := h2.one
  obtain ⟨p, ys, rfl, hl, hd⟩ := k.toLst
  exact ⟨p, ys, rfl, .inl (gr_L s2.fr hl), fun l nl => q _ _ _ _ g2 (s2.cell nl) hd⟩
theorem c_sl {α : Type} {e : α → PyData} {xs : List α} {tl th : TO} {lo hi : Option Int} (h : EvD K te σ F cs (eL e xs) cs1) (h1 : EvO tl σ F cs1 lo cs2) (h2 : EvO th σ F cs2 hi cs3) : EvC K (tSl (rSlL K) te tl th) σ F cs ((cutL xs lo hi).map e) cs3 := fun F1 H1 g1 s Q q =>
  h F1 H1 g1 s _ fun v F2 H2 g2 s2 hv => h1 F2 H2 (g1.tr g2) s2 _ fun F3 H3 g3 s3 => h2 F3 H3 ((g1.tr g2).tr g3) s3 _ fun F4 H4 g4 s4 => by
    obtain ⟨p, vs, rfl, hl, hd⟩ := hv.toLst
    have hd' := hd.gr (g3.tr g4)
    refine ⟨p, vs, rfl, gr_L s4.fr (gr_L (g3.tr g4) hl), fun l nl => q _ _ _ _ (g2.tr (g3.tr g4)) (s4.cell nl) ?_⟩
    rw [← cutL_map]
    unfold cutV cutL
    rw [hd.len]
    exact (hd'.drop _).take _
/-- list + list, list * int -/
def rCatS (K : PySem.W.Frag) : R2 := fun x y H Q => ∃ l b xs zs, x = .ref l ∧ y = .ref b ∧ SqL K H l xs ∧ SqL K H b zs ∧ xs.length + zs.length ≤ sizeLine ∧ ∀ p, H p = none → Q (.ref p) (upd H p (.lst (xs ++ zs)))
theorem op_catS {X : Cx} : OpR X (binaryOp .Add) (rCatS X.K) := by
  intro pins s σ H x y v u Q I rx ry h
  obtain ⟨l, b, xs, zs, rfl, rfl, hH, hB, hz, q⟩ := h
  cases rx
  cases ry
  obtain ⟨its, r, pl, _⟩ := I.list hH
  obtain ⟨its2, r2, pl2, _⟩ := I.list hB
  have e1 := r.length
  have e2 := r2.length
  obtain ⟨⟨cls, dd, data, sl⟩, ho, hc, n, hd⟩ := pl.isList
  obtain ⟨⟨cls2, dd2, data2, sl2⟩, ho2, hc2, n2, hd2⟩ := pl2.isList
  simp only at hc hd hc2 hd2
  subst hc hd hc2 hd2
  refine PySem.concat_meets ⟨_, ho, rfl⟩ ⟨_, ho2, rfl⟩ PySem.noFill_list_add PySem.seq_list_add PySem.F.slot_list_add PySem.F.entry_list_add (PySem.F.args_list_add_2 _ _)
    (PyProof.Rows.list_addW l b its.toArray its2.toArray n n2 dd dd2 sl sl2 (by simp only [List.size_toArray]; omega)) ⟨ho, ho2, ?_⟩
  rw [show its.toArray ++ its2.toArray = (its ++ its2).toArray by simp]
  exact ⟨.ref _, _, I.lnew (t' := s.toks) (r.append r2) (by rw [List.length_append]; omega), rfl, q _ I.fresh⟩
theorem c_cat {α : Type} {en : α → PyData} {xs ys zs : List α} (ha : EvD K ta σ F cs (eL en xs) cs1) (hb : EvD K tb σ F cs1 (eL en ys) cs2) (hz : catM xs ys = some zs) : EvC K (tOp (rCatS K) ta tb) σ F cs (zs.map en) cs2 := fun F1 H1 g1 s Q q =>
  ha F1 H1 g1 s _ fun v F2 H2 g2 s2 h2 => hb F2 H2 (g1.tr g2) s2 _ fun w F3 H3 g3 s3 h3 => by
    obtain ⟨p, vs, rfl, hl, hd⟩ := (h2.gr g3).toLst
    obtain ⟨p', ws, rfl, hl', hd'⟩ := h3.toLst
    obtain ⟨h4, rfl⟩ := catM_some hz
    refine ⟨p, p', vs, ws, rfl, rfl, gr_L s3.fr hl, gr_L s3.fr hl', ?_, fun l nl => q _ _ _ _ (g2.tr g3) (s3.cell nl) ?_⟩
    · rw [hd.len, hd'.len, List.length_map, List.length_map]; exact sz h4
    · rw [List.map_append]; exact hd.app hd'
theorem c_rep {α : Type} {en : α → PyData} {xs zs : List α} (ha : EvC K ta σ F cs (xs.map en) cs1) (hb : ∀ cs, EvD K tb σ F cs (.int b) cs) (hz : repM xs b = some zs) : EvC K (tOp rRep ta tb) σ F cs (zs.map en) cs1 := fun F1 H1 g1 s Q q =>
  ha F1 H1 g1 s _ fun p vs F2 H2 g2 s2 h2 => hb _ F2 H2 (g1.tr g2) s2 _ fun w F3 H3 g3 s3 h3 => by
    cases h3.toInt
    obtain ⟨⟨h4, h5, h6⟩, rfl⟩ := repM_some hz
    have s4 := s3.froze
    refine ⟨p, b, vs, rfl, rfl, s3.at List.mem_cons_self, h4, h5, ?_, fun l nl => q _ _ _ _ ((g2.tr g3).tr s3.gfr) (s4.cell nl) ?_⟩
    · rw [h2.len, List.length_map]; exact sz h6
    · have := ((h2.gr g3).gr s3.gfr).rep b.toNat
      rw [List.map_flatten, List.map_replicate]
      exact this
/-- x in a list of ints, of texts -/
theorem inV_int (x : Int) (xs : List Int) : inV (.int x) (xs.map V.int) = xs.any (fun y => y == x) := by
  unfold inV
  rw [List.any_map]
  congr 1
theorem inV_str (x : Str) (xs : List Str) : inV (.str x) (xs.map V.str) = xs.any (fun y => y == x) := by
  unfold inV
  rw [List.any_map]
  congr 1
def inL {α : Type} [BEq α] (x : α) (xs : List α) : Bool := xs.any fun y => y == x
theorem flatI (xs : List Int) : (xs.map V.int).all flatV = true := by rw [List.all_map]; exact List.all_eq_true.mpr fun _ _ => rfl
theorem flatS (xs : List Str) : (xs.map V.str).all flatV = true := by rw [List.all_map]; exact List.all_eq_true.mpr fun _ _ => rfl
theorem d_inI {xs : List Int} (ha : EvD K ta σ F cs (.int a) cs1) (hb : EvD K tb σ F cs1 (eL eI xs) cs2) : EvD K (tOp (rIn K false) ta tb) σ F cs (.bool (inL a xs)) cs2 :=
  d_op ha hb fun x y F2 H2 hx hy s _ Q q => by
    cases hx.toInt
    obtain ⟨p, vs, rfl, hl, hd⟩ := hy.toLst
    cases hd.ints
    refine ⟨p, _, rfl, .inl (gr_L s.fr hl), rfl, flatI xs, q _ F2 H2 .rfl s ?_⟩
    rw [inV_int]; exact .bl _
theorem d_ninI {xs : List Int} (ha : EvD K ta σ F cs (.int a) cs1) (hb : EvD K tb σ F cs1 (eL eI xs) cs2) : EvD K (tOp (rIn K true) ta tb) σ F cs (.bool (!inL a xs)) cs2 :=
  d_op ha hb fun x y F2 H2 hx hy s _ Q q => by
    cases hx.toInt
    obtain ⟨p, vs, rfl, hl, hd⟩ := hy.toLst
    cases hd.ints
    refine ⟨p, _, rfl, .inl (gr_L s.fr hl), rfl, flatI xs, q _ F2 H2 .rfl s ?_⟩
    rw [inV_int]; exact .bl _
theorem d_inSs {x : Str} {xs : List Str} (ha : EvD K ta σ F cs (.str x) cs1) (hb : EvD K tb σ F cs1 (eL eS xs) cs2) : EvD K (tOp (rIn K false) ta tb) σ F cs (.bool (inL x xs)) cs2 :=
  d_op ha hb fun _ y F2 H2 hx hy s _ Q q => by
    cases hx.toStr
    obtain ⟨p, vs, rfl, hl, hd⟩ := hy.toLst
    cases hd.strs
    refine ⟨p, _, rfl, .inl (gr_L s.fr hl), rfl, flatS xs, q _ F2 H2 .rfl s ?_⟩
    rw [inV_str]; exact .bl _
theorem d_ninSs {x : Str} {xs : List Str} (ha : EvD K ta σ F cs (.str x) cs1) (hb : EvD K tb σ F cs1 (eL eS xs) cs2) : EvD K (tOp (rIn K true) ta tb) σ F cs (.bool (!inL x xs)) cs2 :=
  d_op ha hb fun _ y F2 H2 hx hy s _ Q q => by
    cases hx.toStr
    obtain ⟨p, vs, rfl, hl, hd⟩ := hy.toLst
    cases hd.strs
    refine ⟨p, _, rfl, .inl (gr_L s.fr hl), rfl, flatS xs, q _ F2 H2 .rfl s ?_⟩
    rw [inV_str]; exact .bl _
/-- sep.join(xs) -/
def joinM (x : Str) (xs : List Str) : Option Str := if ((xs.map (·.length)).sum + x.length * xs.length) ≤ 100000 then some (Txt.join x xs) else none

/-! walks -/
theorem src_list {p : Addr} {vs : List V} {ds : List PyData} (h : SqL K F p vs) (hd : Dts K F vs ds) : Src K (Itl K p) F ds := fun F1 c1 H1 g s => by
  have q : SqL K H1 p vs := gr_L s.fr (gr_L g h)
  refine ⟨fun i hi => ?_, ⟨vs, q, by rw [hd.len]; exact Nat.le_refl _⟩, fun i v H2 d e y => ?_⟩
  · have hi' : i < vs.length := by rw [hd.len]; exact hi
    exact ⟨vs, vs[i], q, List.getElem?_eq_getElem hi'⟩
  · obtain ⟨rfl, y⟩ := y
    obtain ⟨d', e', h'⟩ := hd.get (y vs q)
    rw [e] at e'; cases e'
    exact ⟨F1, .rfl, s, h'.gr g⟩
theorem src_enum {p : Addr} {vs : List V} {ds : List PyData} (h : SqL K F p vs) (hd : Dts K F vs ds) : Src K (Ite K p) F (ds.mapIdx fun i d => .tuple [.int i, d]) := fun F1 c1 H1 g s => by
  have q : SqL K H1 p vs := gr_L s.fr (gr_L g h)
  refine ⟨fun i hi => ?_, ⟨vs, q, by rw [hd.len]; simp⟩, fun i v H2 d e y => ?_⟩
  · have hi' : i < vs.length := by rw [hd.len]; simpa using hi
    exact ⟨vs, vs[i], q, List.getElem?_eq_getElem hi'⟩
  · obtain ⟨T, x, rfl, nT, rfl, y⟩ := y
    obtain ⟨d', e', h'⟩ := hd.get (y vs q)
    rw [List.getElem?_mapIdx, e'] at e
    cases e
    exact ⟨_, Gr.new (s.fr.back nT), s.lay nT, .tup (.inl (.inl upd_same)) (.cons (.int _) (.cons (h'.gr (g.tr (Gr.new (s.fr.back nT)))) .nil))⟩
theorem src_zip {p p' : Addr} {vs ws : List V} {ds es : List PyData} (h : SqL K F p vs) (hd : Dts K F vs ds) (h' : SqL K F p' ws) (hd' : Dts K F ws es) : Src K (Itz K p p') F (List.zipWith (fun d e => .tuple [d, e]) ds es) := fun F1 c1 H1 g s => by
  have q : SqL K H1 p vs := gr_L s.fr (gr_L g h)
  have q' : SqL K H1 p' ws := gr_L s.fr (gr_L g h')
  refine ⟨fun i hi => ?_, ⟨vs, ws, q, q', by rw [hd.len, hd'.len, List.length_zipWith]; omega⟩, fun i v H2 d e y => ?_⟩
  · rw [List.length_zipWith] at hi
    have h1 : i < vs.length := by rw [hd.len]; omega
    have h2 : i < ws.length := by rw [hd'.len]; omega
    exact ⟨vs, ws, vs[i], ws[i], q, q', List.getElem?_eq_getElem h1, List.getElem?_eq_getElem h2⟩
  · obtain ⟨T, x, z, rfl, nT, rfl, y, y'⟩ := y
    obtain ⟨d1, e1, h1⟩ := hd.get (y vs q)
    obtain ⟨d2, e2, h2⟩ := hd'.get (y' ws q')
    rw [List.getElem?_zipWith, e1, e2] at e
    cases e
    have gg := g.tr (Gr.new (o := .tup [x, z]) (s.fr.back nT))
    exact ⟨_, Gr.new (s.fr.back nT), s.lay nT, .tup (.inl (.inl upd_same)) (.cons (h1.gr gg) (.cons (h2.gr gg) .nil))⟩
theorem i_list {α : Type} {en : α → PyData} {xs : List α} (h : EvD K te σ F cs (eL en xs) cs1) : EvI K (iList K te) σ F cs (xs.map en) cs1 := fun F1 H1 g1 s R q =>
  h F1 H1 g1 s _ fun v F2 H2 g2 s2 h2 => by
    obtain ⟨p, vs, rfl, hs, hd⟩ := h2.toLst
    exact ⟨p, rfl, ⟨vs, gr_L s2.fr hs⟩, q _ F2 H2 g2 s2 (src_list hs hd)⟩
theorem enum_map {α : Type} (en : α → PyData) (xs : List α) : (xs.map en).mapIdx (fun i d => PyData.tuple [.int i, d]) = (enumM xs).map (eT2 eI en) := by
  unfold enumM
  apply List.ext_getElem? 
  intro i
  simp only [List.getElem?_mapIdx, List.getElem?_map]
  cases xs[i]? <;> rfl
theorem i_enum {α : Type} {en : α → PyData} {xs : List α} (h : EvDs K as σ F cs [eL en xs] cs1) : EvI K (iEnum K as) σ F cs ((enumM xs).map (eT2 eI en)) cs1 := fun F1 H1 g1 s R q =>
  h F1 H1 g1 s _ fun v F2 H2 g2 s2 h2 => by
    obtain ⟨v, rfl, k⟩ := h2.one
    obtain ⟨p, vs, rfl, hs, hd⟩ := k.toLst
    refine ⟨p, vs, rfl, gr_L s2.fr hs, q _ F2 H2 g2 s2 ?_⟩
    rw [← enum_map]
    exact src_enum hs hd
theorem zip_map {α β : Type} (en : α → PyData) (em : β → PyData) : ∀ (xs : List α) (ys : List β), List.zipWith (fun d e => PyData.tuple [d, e]) (xs.map en) (ys.map em) = (xs.zip ys).map (eT2 en em)
  | [], _ => rfl
  | _ :: _, [] => rfl
  | x :: xs, y :: ys => by
    simp only [List.map_cons, List.zipWith_cons_cons, List.zip_cons_cons]
    rw [zip_map en em xs ys]
theorem i_zip {α β : Type} {en : α → PyData} {em : β → PyData} {xs : List α} {ys : List β} (h : EvDs K as σ F cs [eL en xs, eL em ys] cs1) : EvI K (iZip K as) σ F cs ((xs.zip ys).map (eT2 en em)) cs1 := fun F1 H1 g1 s R q =>
  h F1 H1 g1 s _ fun v F2 H2 g2 s2 h2 => by
    obtain ⟨v, w, rfl, k1, k2⟩ := h2.two
    obtain ⟨p, vs, rfl, hs, hd⟩ := k1.toLst
    obtain ⟨p', ws, rfl, hs', hd'⟩ := k2.toLst
    refine ⟨p, p', vs, ws, rfl, gr_L s2.fr hs, gr_L s2.fr hs', q _ F2 H2 g2 s2 ?_⟩
    rw [← zip_map]
    exact src_zip hs hd hs' hd'
theorem src_rng {lo : Int} {n : Nat} : Src K (Itr lo n) F ((List.range n).map fun (i : Nat) => PyData.int (lo + (i : Int))) := fun F1 c1 H1 g s => by
  refine ⟨fun i hi => (by simpa using hi : i < n), by show n ≤ _; simp, fun i v H2 d e y => ?_⟩
  obtain ⟨rfl, rfl⟩ := y
  rw [List.getElem?_map] at e
  cases q : (List.range n)[i]? with
  | none => rw [q] at e; cases e
  | some j =>
    rw [q] at e
    have : i = j := by
      obtain ⟨h1, h2⟩ := List.getElem?_eq_some_iff.mp q
      simpa using h2
    subst this
    cases e
    exact ⟨F1, .rfl, s, .int _⟩
theorem i_rng1 {xs : List Int} (h : EvDs K as σ F cs [.int b] cs1) (hx : rngM 0 b = some xs) : EvI K (iRng1 as) σ F cs (xs.map eI) cs1 := fun F1 H1 g1 s R q =>
  h F1 H1 g1 s _ fun v F2 H2 g2 s2 h2 => by
    obtain ⟨v, rfl, k⟩ := h2.one; cases k.toInt
    obtain ⟨⟨_, _, h3, h4⟩, rfl⟩ := rngM_some hx
    refine ⟨b, rfl, h3, h4, q _ F2 H2 g2 s2 ?_⟩
    have := src_rng (K := K) (F := F2) (lo := 0) (n := b.toNat)
    unfold rngL
    rw [List.map_map, Int.sub_zero]
    exact this
theorem i_rng2 {xs : List Int} (h : EvDs K as σ F cs [.int a, .int b] cs1) (hx : rngM a b = some xs) : EvI K (iRng2 as) σ F cs (xs.map eI) cs1 := fun F1 H1 g1 s R q =>
  h F1 H1 g1 s _ fun v F2 H2 g2 s2 h2 => by
    obtain ⟨v, w, rfl, k1, k2⟩ := h2.two; cases k1.toInt; cases k2.toInt
    obtain ⟨h3, rfl⟩ := rngM_some hx
    refine ⟨a, b, rfl, h3, q _ F2 H2 g2 s2 ?_⟩
    have := src_rng (K := K) (F := F2) (lo := a) (n := (b - a).toNat)
    unfold rngL
    rw [List.map_map]
    exact this
theorem i_str {x : Str} (h : EvD K te σ F cs (.str x) cs1) : EvI K (iStr te) σ F cs ((signs x).map eS) cs1 := fun F1 H1 g1 s R q =>
  h F1 H1 g1 s _ fun v F2 H2 g2 s2 h2 => by
    refine ⟨x, h2.toStr, q _ F2 H2 g2 s2 fun F3 c3 H3 g3 s3 => ⟨fun i hi => by simpa [signs, Its] using hi, by simp [signs, Its], fun i v H4 d e y => ?_⟩⟩
    obtain ⟨rfl, c, hc, rfl⟩ := y
    unfold signs at e
    rw [List.map_map, List.getElem?_map, Array.getElem?_toList, hc] at e
    cases e
    exact ⟨F3, .rfl, s3, .str _⟩
end
end Bw

namespace Bw
open PySem L2
/-! what a loop's turn leaves -/
inductive Fl (S R : Type) where
  | nx (s : S) | br (s : S) | rt (r : R)
def forF {α S R : Type} (body : S → α → Option (Fl S R)) : List α → S → Option (Fl S R)
  | [], s => some (.nx s)
  | x :: xs, s => (body s x).bind fun f => match f with
    | .nx s' => forF body xs s'
    | .br s' => some (.br s')
    | .rt r => some (.rt r)
def whileF {S R : Type} (c : S → Option Bool) (body : S → Option (Fl S R)) : Nat → S → Option (Fl S R)
  | 0, _ => none
  | n + 1, s => (c s).bind fun b => if b = true then (body s).bind fun f => match f with
      | .nx s' => whileF c body n s'
      | .br s' => some (.br s')
      | .rt r => some (.rt r)
    else some (.nx s)
def lcM {α β : Type} (f : α → Option (Option β)) : List α → Option (List β)
  | [] => some []
  | x :: xs => (f x).bind fun o => (lcM f xs).bind fun ys => some (match o with
    | some y => y :: ys
    | none => ys)
theorem lcM_len {α β : Type} {f : α → Option (Option β)} : ∀ {xs : List α} {ys : List β}, lcM f xs = some ys → ys.length ≤ xs.length
  | [], ys, h => by cases h; exact Nat.le_refl _
  | x :: xs, ys, h => by
    obtain ⟨o, h1, h⟩ := bnd h
    obtain ⟨zs, h2, h⟩ := bnd h
    have := lcM_len h2
    cases o with
    | none => cases h; exact Nat.le_succ_of_le this
    | some y => cases h; exact Nat.succ_le_succ this
theorem lcM_map {α β : Type} (f : α → β) : ∀ xs : List α, lcM (fun x => some (some (f x))) xs = some (xs.map f)
  | [] => rfl
  | x :: xs => by show (lcM _ xs).bind _ = _; rw [lcM_map f xs]; rfl
theorem lcM_filter {α β : Type} (p : α → Bool) (f : α → β) : ∀ xs : List α, lcM (fun x => some (if p x = true then some (f x) else none)) xs = some ((xs.filter p).map f)
  | [] => rfl
  | x :: xs => by
    show (lcM _ xs).bind _ = _
    rw [lcM_filter p f xs, List.filter_cons]
    by_cases h : p x = true
    · simp [h]
    · simp [h]
section
variable {K : PySem.W.Frag} {σ : St} {F F' : Hp} {cs cs1 cs2 cs3 : Cs} {ta tb tc te : TE} {d e : PyData} {as : TA} {a b c : Int} {nx bk ct : St → Hp → Prop} {rt : VK} {H : Hp} {t u : TS}
/-! statements -/
theorem go {D : Ends} {σ' : St} (e : σ = σ') (h : t D σ' H) : t D σ H := e ▸ h
theorem s_set {i : Nat} {σ' : V → St} (s : Sta F cs H) (h : EvD K te σ F cs d cs1) (hσ : ∀ v, σ.set i (some v) = σ' v) (q : ∀ v F2 H2, Gr F F2 → Sta F2 cs1 H2 → Dt K F2 v d → nx (σ' v) H2) : tAsg te (gName i) ⟨nx, rt, bk, ct⟩ σ H := h F H .rfl s _ fun v F2 H2 g2 s2 h2 => by
  show nx (σ.set i (some v)) H2
  rw [hσ v]; exact q v F2 H2 g2 s2 h2
/-- a flat value -/
theorem s_setV {i : Nat} {σ' : St} {w : V} (hw : ∀ F v, Dt K F v d → v = w) (s : Sta F cs H) (h : EvD K te σ F cs d cs1) (hσ : σ.set i (some w) = σ') (q : ∀ F2 H2, Gr F F2 → Sta F2 cs1 H2 → nx σ' H2) : tAsg te (gName i) ⟨nx, rt, bk, ct⟩ σ H := h F H .rfl s _ fun v F2 H2 g2 s2 h2 => by
  cases hw F2 v h2
  show nx (σ.set i (some w)) H2
  rw [hσ]; exact q F2 H2 g2 s2
theorem s_setC {ds : List PyData} {i : Nat} {σ' : Addr → St} (s : Sta F cs H) (h : EvC K te σ F cs ds cs1) (hσ : ∀ p, σ.set i (some (.ref p)) = σ' p) (q : ∀ p vs F2 H2, Gr F F2 → Sta F2 ((p, .lst vs) :: cs1) H2 → Dts K F2 vs ds → nx (σ' p) H2) : tAsg te (gName i) ⟨nx, rt, bk, ct⟩ σ H := h F H .rfl s _ fun p vs F2 H2 g2 s2 h2 => by
  show nx (σ.set i (some (.ref p))) H2
  rw [hσ p]; exact q p vs F2 H2 g2 s2 h2
theorem s_ret (s : Sta F cs H) (h : EvD K te σ F cs d cs1) (q : ∀ v F2 H2, Gr F F2 → Sta F2 cs1 H2 → Dt K F2 v d → rt v H2) : tRet te ⟨nx, rt, bk, ct⟩ σ H := h F H .rfl s _ q
theorem s_drop (s : Sta F cs H) (h : EvD K te σ F cs d cs1) (q : ∀ F2 H2, Gr F F2 → Sta F2 cs1 H2 → nx σ H2) : tDrop te ⟨nx, rt, bk, ct⟩ σ H := h F H .rfl s _ fun v F2 H2 g2 s2 _ => q F2 H2 g2 s2
theorem s_if {c : TT} {b : Bool} (s : Sta F cs H) (h : EvT c σ F cs b cs1) (qt : b = true → ∀ F2 H2, Gr F F2 → Sta F2 cs1 H2 → t ⟨nx, rt, bk, ct⟩ σ H2) (qf : b = false → ∀ F2 H2, Gr F F2 → Sta F2 cs1 H2 → u ⟨nx, rt, bk, ct⟩ σ H2) : tIfS c t u ⟨nx, rt, bk, ct⟩ σ H :=
  h F H .rfl s _ fun F2 H2 g2 s2 => by
    cases b with
    | true => exact qt rfl F2 H2 g2 s2
    | false => exact qf rfl F2 H2 g2 s2
/-- cells: append, item, pop -/
theorem s_app {l1 l2 : Cs} {i : Nat} {p : Addr} {vs : List V} (s : Sta F (l1 ++ (p, .lst vs) :: l2) H) (hi : σ[i]? = some (some (.ref p))) (h : EvD K te σ F (l1 ++ (p, .lst vs) :: l2) d (l1 ++ (p, .lst vs) :: l2)) (hl : vs.length < 100000)
    (q : ∀ v F2 H2, Gr F F2 → Sta F2 (l1 ++ (p, .lst (vs ++ [v])) :: l2) H2 → Dt K F2 v d → nx σ H2) : tDrop (tBM K "list" rAppend (tVar i) (tCons te tNil)) ⟨nx, rt, bk, ct⟩ σ H :=
  ⟨.ref p, hi, .inl ⟨rfl, _, .inl (.inl s.getAt)⟩, h F H .rfl s _ fun v F2 H2 g2 s2 h2 => ⟨p, vs, v, rfl, rfl, s2.getAt, szl hl, q v F2 _ g2 s2.putAt h2⟩⟩
theorem s_item {l1 l2 : Cs} {i : Nat} {p : Addr} {vs : List V} {ti : TE} {k : Int} {j : Nat} (s : Sta F (l1 ++ (p, .lst vs) :: l2) H) (hi : σ[i]? = some (some (.ref p))) (h : EvD K te σ F (l1 ++ (p, .lst vs) :: l2) d (l1 ++ (p, .lst vs) :: l2))
    (h2 : EvD K ti σ F (l1 ++ (p, .lst vs) :: l2) (.int k) (l1 ++ (p, .lst vs) :: l2)) (hj : ixN vs.length k = some j) (q : ∀ v F2 H2, Gr F F2 → Sta F2 (l1 ++ (p, .lst (vs.set j v)) :: l2) H2 → Dt K F2 v d → nx σ H2) : tAsg te (gSub (tVar i) ti rSetL) ⟨nx, rt, bk, ct⟩ σ H :=
  h F H .rfl s _ fun v F2 H2 g2 s2 hv => ⟨.ref p, hi, h2 F2 H2 g2 s2 _ fun w F3 H3 g3 s3 hw => ⟨p, vs, k, j, rfl, hw.toInt, s3.getAt, hj, q v F3 _ (g2.tr g3) s3.putAt (hv.gr g3)⟩⟩
/-- a cell lent for a flat answer -/
theorem d_lend {l1 l2 : Cs} {p : Addr} {o : HO} {w : V} (hw : ∀ F v, Dt K F v d → v = w) (hd : ∀ F, Dt K F w d) (h : ∀ F1, Gr F F1 → F1 p = none → EvD K te σ (upd F1 p o) (l1 ++ l2) d (l1 ++ l2)) : EvD K te σ F (l1 ++ (p, o) :: l2) d (l1 ++ (p, o) :: l2) := fun F1 H1 g1 s Q q => by
  refine h F1 g1 s.freeAt (upd F1 p o) H1 .rfl s.frozeAt Q fun v F2 H2 g2 s2 h2 => ?_
  cases hw F2 v h2
  exact q w (cut F2 p) H2 (gr_cut s.freeAt g2) (Sta.lent g2 s2) (hd _)
theorem t_lend {l1 l2 : Cs} {p : Addr} {o : HO} {t : TT} {b : Bool} (h : ∀ F1, Gr F F1 → F1 p = none → EvT t σ (upd F1 p o) (l1 ++ l2) b (l1 ++ l2)) : EvT t σ F (l1 ++ (p, o) :: l2) b (l1 ++ (p, o) :: l2) := fun F1 H1 g1 s Q q => by
  refine h F1 g1 s.freeAt (upd F1 p o) H1 .rfl s.frozeAt Q fun F2 H2 g2 s2 => ?_
  exact q (cut F2 p) H2 (gr_cut s.freeAt g2) (Sta.lent g2 s2)
theorem lent_l {p : Addr} {vs : List V} {ds : List PyData} (hn : F p = none) (h : Dts K F vs ds) : Dt K (upd F p (.lst vs)) (.ref p) (.list ds) := .lst (.inl (.inl upd_same)) (h.gr (Gr.new hn))
/-- unpacking -/
theorem u2 {v : V} {d1 d2 : PyData} (h : Dt K F v (.tuple [d1, d2])) : ∃ p v1 v2, v = .ref p ∧ SqT K F p [v1, v2] ∧ Dt K F v1 d1 ∧ Dt K F v2 d2 := by
  obtain ⟨p, vs, rfl, h1, h2⟩ := h.toTup
  obtain ⟨v1, v2, rfl, k1, k2⟩ := h2.two
  exact ⟨p, v1, v2, rfl, h1, k1, k2⟩
theorem u3 {v : V} {d1 d2 d3 : PyData} (h : Dt K F v (.tuple [d1, d2, d3])) : ∃ p v1 v2 v3, v = .ref p ∧ SqT K F p [v1, v2, v3] ∧ Dt K F v1 d1 ∧ Dt K F v2 d2 ∧ Dt K F v3 d3 := by
  obtain ⟨p, vs, rfl, h1, h2⟩ := h.toTup
  obtain ⟨v1, v2, v3, rfl, k1, k2, k3⟩ := h2.three
  exact ⟨p, v1, v2, v3, rfl, h1, k1, k2, k3⟩
theorem u4 {v : V} {d1 d2 d3 d4 : PyData} (h : Dt K F v (.tuple [d1, d2, d3, d4])) : ∃ p v1 v2 v3 v4, v = .ref p ∧ SqT K F p [v1, v2, v3, v4] ∧ Dt K F v1 d1 ∧ Dt K F v2 d2 ∧ Dt K F v3 d3 ∧ Dt K F v4 d4 := by
  obtain ⟨p, vs, rfl, h1, h2⟩ := h.toTup
  obtain ⟨v1, v2, v3, v4, rfl, k1, k2, k3, k4⟩ := h2.four
  exact ⟨p, v1, v2, v3, v4, rfl, h1, k1, k2, k3, k4⟩
/-! loops -/
theorem s_for {α S : Type} {wi : TI} {g : TG} {tb : TS} {xs : List α} {en : α → PyData} (st : S → Hp → St → Cs → Prop) {body : S → α → Option S} {s0 r : S}
    (s : Sta F cs H) (hi : EvI K wi σ F cs (xs.map en) cs1) (h0 : ∀ F', Gr F F' → st s0 F' σ cs1) (hm : xs.foldlM body s0 = some r)
    (turn : ∀ x a b F1 F3 σ1 c1 H3 v (N : St → Hp → Prop), Gr F F1 → st a F1 σ1 c1 → Gr F1 F3 → Sta F3 c1 H3 → Dt K F3 v (en x) → body a x = some b → (∀ F4 σ4 c4 H4, Gr F3 F4 → Sta F4 c4 H4 → st b F4 σ4 c4 → N σ4 H4) →
      g v σ1 H3 fun σ2 H2 => tb ⟨N, rt, nx, N⟩ σ2 H2)
    (done : ∀ F1 σ1 c1 H1, Gr F F1 → Sta F1 c1 H1 → st r F1 σ1 c1 → nx σ1 H1) : tFor wi g tb ⟨nx, rt, bk, ct⟩ σ H :=
  hi F H .rfl s _ fun J F2 H2 g2 s2 hs => by
    refine ⟨fun i m σ1 H1 => m = xs.length - i ∧ i ≤ xs.length ∧ ∃ a F1 c1, Gr F2 F1 ∧ Sta F1 c1 H1 ∧ st a F1 σ1 c1 ∧ (xs.drop i).foldlM body a = some r, ⟨xs.length, by simp, Nat.zero_le _, s0, F2, cs1, .rfl, s2, h0 F2 g2, by simpa using hm⟩, ?_⟩
    rintro i m σ1 H1 ⟨rfl, hi, a, F1, c1, g1, s1, ha, hr⟩
    obtain ⟨hgo, hstop, hy⟩ := hs F1 c1 H1 g1 s1
    by_cases hlt : i < xs.length
    · rw [List.drop_eq_getElem_cons hlt, List.foldlM_cons] at hr
      cases hb : body a xs[i] with
      | none => rw [hb] at hr; cases hr
      | some b =>
        rw [hb] at hr
        refine .inr ⟨hgo i (by simpa using hlt), fun σ2 H2 => ∃ F3 c3, Gr F2 F3 ∧ Sta F3 c3 H2 ∧ st b F3 σ2 c3, fun σ' H' ⟨F3, c3, g3, s3, h3⟩ => ⟨xs.length - (i + 1), by omega, rfl, hlt, b, F3, c3, g3, s3, h3, hr⟩, fun x H' y => ?_⟩
        obtain ⟨F3, g3, s3, d3⟩ := hy i x H' (en xs[i]) (by rw [List.getElem?_map, List.getElem?_eq_getElem hlt]; rfl) y
        exact turn xs[i] a b F1 F3 σ1 c1 H' x _ (g2.tr g1) ha g3 s3 d3 hb fun F4 σ4 c4 H4 g4 s4 h4 => ⟨F4, c4, (g1.tr g3).tr g4, s4, h4⟩
    · have e : i = xs.length := by omega
      subst e
      rw [List.drop_length] at hr
      cases hr
      exact .inl ⟨by simpa using hstop, done F1 σ1 c1 H1 (g2.tr g1) s1 ha⟩
/-- .. that may be left -/
theorem s_forF {α S R : Type} {wi : TI} {g : TG} {tb : TS} {xs : List α} {en : α → PyData} (st : S → Hp → St → Cs → Prop) {body : S → α → Option (Fl S R)} {s0 : S} {r : Fl S R}
    (s : Sta F cs H) (hi : EvI K wi σ F cs (xs.map en) cs1) (h0 : ∀ F', Gr F F' → st s0 F' σ cs1) (hm : forF body xs s0 = some r)
    (done : ∀ z F1 σ1 c1 H1, r = .nx z ∨ r = .br z → Gr F F1 → Sta F1 c1 H1 → st z F1 σ1 c1 → nx σ1 H1)
    (turn : ∀ x a b F1 F3 σ1 c1 H3 v (N B : St → Hp → Prop), Gr F F1 → st a F1 σ1 c1 → Gr F1 F3 → Sta F3 c1 H3 → Dt K F3 v (en x) → body a x = some b → (∀ z F4 σ4 c4 H4, b = .nx z → Gr F3 F4 → Sta F4 c4 H4 → st z F4 σ4 c4 → N σ4 H4) →
      (∀ z F4 σ4 c4 H4, b = .br z → Gr F3 F4 → Sta F4 c4 H4 → st z F4 σ4 c4 → B σ4 H4) → (∀ z, b = .rt z → r = .rt z) →
      g v σ1 H3 fun σ2 H2 => tb ⟨N, rt, B, N⟩ σ2 H2) : tFor wi g tb ⟨nx, rt, bk, ct⟩ σ H :=
  hi F H .rfl s _ fun J F2 H2 g2 s2 hs => by
    refine ⟨fun i m σ1 H1 => m = xs.length - i ∧ i ≤ xs.length ∧ ∃ a F1 c1, Gr F2 F1 ∧ Sta F1 c1 H1 ∧ st a F1 σ1 c1 ∧ forF body (xs.drop i) a = some r, ⟨xs.length, by simp, Nat.zero_le _, s0, F2, cs1, .rfl, s2, h0 F2 g2, by simpa using hm⟩, ?_⟩
    rintro i m σ1 H1 ⟨rfl, hi, a, F1, c1, g1, s1, ha, hr⟩
    obtain ⟨hgo, hstop, hy⟩ := hs F1 c1 H1 g1 s1
    by_cases hlt : i < xs.length
    · rw [List.drop_eq_getElem_cons hlt] at hr
      obtain ⟨b, hb, hr⟩ := bnd (show (body a xs[i]).bind _ = some r from hr)
      refine .inr ⟨hgo i (by simpa using hlt), fun σ2 H2 => ∃ z F3 c3, b = .nx z ∧ Gr F2 F3 ∧ Sta F3 c3 H2 ∧ st z F3 σ2 c3, fun σ' H' ⟨z, F3, c3, e3, g3, s3, h3⟩ => ⟨xs.length - (i + 1), by omega, rfl, hlt, z, F3, c3, g3, s3, h3, by subst e3; exact hr⟩, fun x H' y => ?_⟩
      obtain ⟨F3, g3, s3, d3⟩ := hy i x H' (en xs[i]) (by rw [List.getElem?_map, List.getElem?_eq_getElem hlt]; rfl) y
      refine turn xs[i] a b F1 F3 σ1 c1 H' x _ _ (g2.tr g1) ha g3 s3 d3 hb (fun z F4 σ4 c4 H4 e4 g4 s4 h4 => ⟨z, F4, c4, e4, (g1.tr g3).tr g4, s4, h4⟩) (fun z F4 σ4 c4 H4 e4 g4 s4 h4 => ?_) (fun z e => ?_)
      · subst e4
        exact done z F4 σ4 c4 H4 (.inr (Option.some.inj hr).symm) (((g2.tr g1).tr g3).tr g4) s4 h4
      · subst e
        exact (Option.some.inj hr).symm
    · have e : i = xs.length := by omega
      subst e
      rw [List.drop_length] at hr
      cases hr
      exact .inl ⟨by simpa using hstop, done a F1 σ1 c1 H1 (.inl rfl) (g2.tr g1) s1 ha⟩
/-- a while -/
theorem s_while {S R : Type} {tc : TT} {tb : TS} (st : S → Hp → St → Cs → Prop) {c : S → Option Bool} {body : S → Option (Fl S R)} {s0 : S} {r : Fl S R} {n : Nat}
    (s : Sta F cs H) (h0 : st s0 F σ cs) (hm : whileF c body n s0 = some r)
    (done : ∀ z F1 σ1 c1 H1, r = .nx z ∨ r = .br z → Gr F F1 → Sta F1 c1 H1 → st z F1 σ1 c1 → nx σ1 H1)
    (test : ∀ z k F1 σ1 c1, Gr F F1 → st z F1 σ1 c1 → c z = some k → EvT tc σ1 F1 c1 k c1) (mono : ∀ z F1 F2 σ1 c1, st z F1 σ1 c1 → Gr F1 F2 → st z F2 σ1 c1)
    (turn : ∀ a b F1 σ1 c1 H1 (N B : St → Hp → Prop), Gr F F1 → st a F1 σ1 c1 → Sta F1 c1 H1 → body a = some b → (∀ z F4 σ4 c4 H4, b = .nx z → Gr F1 F4 → Sta F4 c4 H4 → st z F4 σ4 c4 → N σ4 H4) →
      (∀ z F4 σ4 c4 H4, b = .br z → Gr F1 F4 → Sta F4 c4 H4 → st z F4 σ4 c4 → B σ4 H4) → (∀ z, b = .rt z → r = .rt z) →
      tb ⟨N, rt, B, N⟩ σ1 H1) : tWhile tc tb ⟨nx, rt, bk, ct⟩ σ H := by
  refine ⟨fun m σ1 H1 => ∃ a F1 c1, Gr F F1 ∧ Sta F1 c1 H1 ∧ st a F1 σ1 c1 ∧ whileF c body m a = some r, ⟨n, s0, F, cs, .rfl, s, h0, hm⟩, ?_⟩
  rintro m σ1 H1 ⟨a, F1, c1, g1, s1, ha, hr⟩
  cases m with
  | zero => cases hr
  | succ m =>
    obtain ⟨k, hk, hr⟩ := bnd (show (c a).bind _ = some r from hr)
    refine test a k F1 σ1 c1 g1 ha hk F1 H1 .rfl s1 _ fun F2 H2 g2 s2 => ?_
    cases k with
    | false =>
      cases hr
      exact done a F2 σ1 c1 H2 (.inl rfl) (g1.tr g2) s2 (mono a F1 F2 σ1 c1 ha g2)
    | true =>
      obtain ⟨b, hb, hr⟩ := bnd (show (body a).bind _ = some r from hr)
      refine ⟨fun σ2 H2 => ∃ z F3 c3, b = .nx z ∧ Gr F F3 ∧ Sta F3 c3 H2 ∧ st z F3 σ2 c3, fun σ' H' ⟨z, F3, c3, e3, g3, s3, h3⟩ => ⟨m, Nat.lt_succ_self m, z, F3, c3, g3, s3, h3, by subst e3; exact hr⟩, ?_⟩
      refine turn a b F2 σ1 c1 H2 _ _ (g1.tr g2) (mono a F1 F2 σ1 c1 ha g2) s2 hb (fun z F4 σ4 c4 H4 e4 g4 s4 h4 => ⟨z, F4, c4, e4, (g1.tr g2).tr g4, s4, h4⟩) (fun z F4 σ4 c4 H4 e4 g4 s4 h4 => ?_) (fun z e => ?_)
      · subst e4
        exact done z F4 σ4 c4 H4 (.inr (Option.some.inj hr).symm) ((g1.tr g2).tr g4) s4 h4
      · subst e
        exact (Option.some.inj hr).symm
/-! list comprehensions, whose elements change nothing -/
theorem c_lc {α β : Type} {wi : TI} {g : TG} {tt : TT} {vs : List Nat} {xs : List α} {en : α → PyData} {em : β → PyData} {f : α → Option (Option β)} {ys : List β}
    (hi : EvI K wi σ F cs (xs.map en) cs1) (hm : lcM f xs = some ys) (hl : xs.length ≤ 100000)
    (turn : ∀ x o v F1 p us, Gr F F1 → Dt K F1 v (en x) → f x = some o → ∃ σ2 : St, (∀ H (Q : St → Hp → Prop), Sta F1 ((p, .lst us) :: cs1) H → Q σ2 H → g v (wipe σ vs) H Q) ∧ wipe σ2 vs = wipe σ vs ∧
      EvT tt σ2 F1 ((p, .lst us) :: cs1) o.isSome ((p, .lst us) :: cs1) ∧ ∀ y, o = some y → EvD K te σ2 F1 ((p, .lst us) :: cs1) (em y) ((p, .lst us) :: cs1)) :
    EvC K (tLc wi g tt te vs) σ F cs (ys.map em) cs1 := fun F1 H1 g1 s Q q =>
  hi F1 H1 g1 s _ fun J F2 H2 g2 s2 hs => by
    intro p hp
    have s3 : Sta F2 ((p, .lst []) :: cs1) (upd H2 p (.lst [])) := s2.cell hp
    refine ⟨fun i m H4 => m = xs.length - i ∧ i ≤ xs.length ∧ ∃ us done rest F4, us.length ≤ i ∧ Gr F2 F4 ∧ Sta F4 ((p, .lst us) :: cs1) H4 ∧ Dts K F4 us (done.map em) ∧ lcM f (xs.drop i) = some rest ∧ done ++ rest = ys,
      ⟨xs.length, by simp, Nat.zero_le _, [], [], ys, F2, Nat.le_refl _, .rfl, s3, .nil, by simpa using hm, rfl⟩, ?_⟩
    rintro i m H4 ⟨rfl, hi, us, done, rest, F4, hu, g4, s4, hd, hr, he⟩
    obtain ⟨hgo, hstop, hy⟩ := hs F4 _ H4 g4 s4
    by_cases hlt : i < xs.length
    · rw [List.drop_eq_getElem_cons hlt] at hr
      obtain ⟨o, ho, hr⟩ := bnd (show (f xs[i]).bind _ = some rest from hr)
      obtain ⟨zs, hz, hr⟩ := bnd hr
      refine .inr ⟨hgo i (by simpa using hlt), fun H' => i + 1 ≤ xs.length ∧ ∃ us done rest F4, us.length ≤ i + 1 ∧ Gr F2 F4 ∧ Sta F4 ((p, .lst us) :: cs1) H' ∧ Dts K F4 us (done.map em) ∧ lcM f (xs.drop (i + 1)) = some rest ∧ done ++ rest = ys, fun H' h' => ⟨xs.length - (i + 1), by omega, rfl, h'⟩, fun x H' y => ?_⟩
      obtain ⟨F5, g5, s5, d5⟩ := hy i x H' (en xs[i]) (by rw [List.getElem?_map, List.getElem?_eq_getElem hlt]; rfl) y
      obtain ⟨σ2, h1, h2, h3, h4⟩ := turn xs[i] o x F5 p us (g1.tr (g2.tr (g4.tr g5))) d5 ho
      refine h1 H' _ s5 ⟨h2, h3 F5 H' .rfl s5 _ fun F6 H6 g6 s6 => ?_⟩
      cases o with
      | none =>
        cases hr
        exact ⟨hlt, us, done, zs, F6, Nat.le_succ_of_le hu, g4.tr (g5.tr g6), s6, hd.gr (g5.tr g6), hz, he⟩
      | some z =>
        cases hr
        refine (h4 z rfl) F6 H6 g6 s6 _ fun v F7 H7 g7 s7 hv => ⟨us, s7.at List.mem_cons_self, szl (by omega), hlt, us ++ [v], done ++ [z], zs, F7, by rw [List.length_append]; exact Nat.succ_le_succ hu, g4.tr (g5.tr (g6.tr g7)), s7.put, ?_, hz, ?_⟩
        · rw [List.map_append]
          exact (hd.gr (g5.tr (g6.tr g7))).app (.cons hv .nil)
        · rw [List.append_assoc]; exact he
    · have e : i = xs.length := by omega
      subst e
      rw [List.drop_length] at hr
      cases hr
      rw [List.append_nil] at he
      subst he
      exact .inl ⟨by simpa using hstop, q p us F4 H4 (g2.tr g4) s4 hd⟩
theorem t_yes : EvT tYes σ F cs true cs := fun F1 H1 g s Q q => q F1 H1 .rfl s
/-! functions -/
def spP (K : PySem.W.Frag) {α β : Type} (A : α → List PyData) (B : β → PyData) (f : α → Option β) : Sp := fun vs H Q _ => ∃ F cs x y, Dts K F vs (A x) ∧ Sta F cs H ∧ f x = some y ∧ ∀ v F2 H2, Gr F F2 → Sta F2 cs H2 → Dt K F2 v (B y) → Q v H2
theorem d_call {α β : Type} {A : α → List PyData} {B : β → PyData} {f : α → Option β} {x : α} {y : β} {E : XK} (h : EvDs K as σ F cs (A x) cs1) (hf : f x = some y) : EvD K (tCall (spP K A B f) [] E as) σ F cs (B y) cs1 := fun F1 H1 g1 s Q q =>
  h F1 H1 g1 s _ fun vs F2 H2 g2 s2 h2 => ⟨F2, cs1, x, y, by rw [List.append_nil]; exact h2, s2, hf, fun v F3 H3 g3 s3 h3 => q v F3 H3 (g2.tr g3) s3 h3⟩
end
/-! == of typed data -/
def EqE {α : Type} [DecidableEq α] (e : α → PyData) : Prop := ∀ x y, PyData.eqv (e x) (e y) = decide (x = y)
def ShE {α : Type} (n : Nat) (e : α → PyData) : Prop := ∀ x, (e x).canLay0 = true ∧ (e x).depth ≤ n
theorem shp {α : Type} {n : Nat} {e : α → PyData} (h : ShE n e) (hn : n ≤ 64) (x : α) : SeqAt.shaped (e x) = true := by
  unfold SeqAt.shaped
  rw [(h x).1, decide_eq_true (Nat.le_trans (h x).2 hn)]
  rfl
theorem beq_dec {α : Type} [BEq α] [LawfulBEq α] [DecidableEq α] (x y : α) : (x == y) = decide (x = y) := by
  rw [Bool.eq_iff_iff]; simp
theorem eqE_I : EqE eI := fun x y => by simp only [PyData.eqv]; exact beq_dec x y
theorem eqE_B : EqE eB := fun x y => by simp only [PyData.eqv]; exact beq_dec x y
theorem eqE_S : EqE eS := fun x y => by simp only [PyData.eqv]; exact beq_dec x y
theorem eqE_N : EqE eN := fun x y => by simp [PyData.eqv]
theorem eqAll_map {α : Type} [DecidableEq α] {e : α → PyData} (h : EqE e) : ∀ xs ys : List α, PyData.eqvAll (xs.map e) (ys.map e) = decide (xs = ys)
  | [], [] => by simp [PyData.eqvAll]
  | [], _ :: _ => by simp [PyData.eqvAll]
  | _ :: _, [] => by simp [PyData.eqvAll]
  | x :: xs, y :: ys => by
    simp only [List.map_cons, PyData.eqvAll]
    rw [h x y, eqAll_map h xs ys, Bool.eq_iff_iff]
    simp
theorem EqE.l {α : Type} [DecidableEq α] {e : α → PyData} (h : EqE e) : EqE (eL e) := fun xs ys => by
  show PyData.eqv (.list _) (.list _) = _
  simp only [PyData.eqv]
  exact eqAll_map h xs ys
theorem EqE.t2 {α β : Type} [DecidableEq α] [DecidableEq β] {e : α → PyData} {f : β → PyData} (h : EqE e) (k : EqE f) : EqE (eT2 e f) := fun x y => by
  show PyData.eqv (.tuple _) (.tuple _) = _
  simp only [PyData.eqv, PyData.eqvAll]
  rw [h, k, Bool.eq_iff_iff]
  obtain ⟨x1, x2⟩ := x; obtain ⟨y1, y2⟩ := y
  simp
theorem EqE.t3 {α β γ : Type} [DecidableEq α] [DecidableEq β] [DecidableEq γ] {e : α → PyData} {f : β → PyData} {g : γ → PyData} (h : EqE e) (k : EqE f) (l : EqE g) : EqE (eT3 e f g) := fun x y => by
  show PyData.eqv (.tuple _) (.tuple _) = _
  simp only [PyData.eqv, PyData.eqvAll]
  rw [h, k, l, Bool.eq_iff_iff]
  obtain ⟨x1, x2, x3⟩ := x; obtain ⟨y1, y2, y3⟩ := y
  simp
theorem EqE.t4 {α β γ δ : Type} [DecidableEq α] [DecidableEq β] [DecidableEq γ] [DecidableEq δ] {e : α → PyData} {f : β → PyData} {g : γ → PyData} {m : δ → PyData} (h : EqE e) (k : EqE f) (l : EqE g) (n : EqE m) : EqE (eT4 e f g m) := fun x y => by
  show PyData.eqv (.tuple _) (.tuple _) = _
  simp only [PyData.eqv, PyData.eqvAll]
  rw [h, k, l, n, Bool.eq_iff_iff]
  obtain ⟨x1, x2, x3, x4⟩ := x; obtain ⟨y1, y2, y3, y4⟩ := y
  simp
theorem sh_I : ShE 0 eI := fun x => ⟨by simp [PyData.canLay0], by simp [PyData.depth]⟩
theorem sh_B : ShE 0 eB := fun x => ⟨by simp [PyData.canLay0], by simp [PyData.depth]⟩
theorem sh_N : ShE 0 eN := fun x => ⟨by simp [PyData.canLay0], by simp [PyData.depth]⟩
theorem sh_all {α : Type} {n : Nat} {e : α → PyData} (h : ShE n e) : ∀ xs : List α, PyData.canLayAll0 (xs.map e) = true ∧ PyData.depthAll (xs.map e) ≤ n
  | [] => ⟨by simp [PyData.canLayAll0], by simp [PyData.depthAll]⟩
  | x :: xs => by
    obtain ⟨h1, h2⟩ := sh_all h xs
    simp only [List.map_cons, PyData.canLayAll0, PyData.depthAll]
    exact ⟨by rw [(h x).1, h1]; rfl, Nat.max_le.mpr ⟨(h x).2, h2⟩⟩
theorem ShE.l {α : Type} {n : Nat} {e : α → PyData} (h : ShE n e) : ShE (n + 1) (eL e) := fun xs => by
  show (PyData.list _).canLay0 = true ∧ (PyData.list _).depth ≤ _
  simp only [PyData.canLay0, PyData.depth]
  exact ⟨(sh_all h xs).1, Nat.succ_le_succ (sh_all h xs).2⟩
theorem ShE.t2 {α β : Type} {n m : Nat} {e : α → PyData} {f : β → PyData} (h : ShE n e) (k : ShE m f) : ShE (max n m + 1) (eT2 e f) := fun x => by
  show (PyData.tuple _).canLay0 = true ∧ (PyData.tuple _).depth ≤ _
  simp only [PyData.canLay0, PyData.depth, PyData.canLayAll0, PyData.depthAll]
  have := (h x.1).2; have := (k x.2).2
  exact ⟨by rw [(h _).1, (k _).1]; rfl, by omega⟩
theorem ShE.t3 {α β γ : Type} {n m l : Nat} {e : α → PyData} {f : β → PyData} {g : γ → PyData} (h : ShE n e) (k : ShE m f) (j : ShE l g) : ShE (max n (max m l) + 1) (eT3 e f g) := fun x => by
  show (PyData.tuple _).canLay0 = true ∧ (PyData.tuple _).depth ≤ _
  simp only [PyData.canLay0, PyData.depth, PyData.canLayAll0, PyData.depthAll]
  have := (h x.1).2; have := (k x.2.1).2; have := (j x.2.2).2
  exact ⟨by rw [(h _).1, (k _).1, (j _).1]; rfl, by omega⟩
theorem ShE.t4 {α β γ δ : Type} {n m l i : Nat} {e : α → PyData} {f : β → PyData} {g : γ → PyData} {z : δ → PyData} (h : ShE n e) (k : ShE m f) (j : ShE l g) (p : ShE i z) : ShE (max n (max m (max l i)) + 1) (eT4 e f g z) := fun x => by
  show (PyData.tuple _).canLay0 = true ∧ (PyData.tuple _).depth ≤ _
  simp only [PyData.canLay0, PyData.depth, PyData.canLayAll0, PyData.depthAll]
  have := (h x.1).2; have := (k x.2.1).2; have := (j x.2.2.1).2; have := (p x.2.2.2).2
  exact ⟨by rw [(h _).1, (k _).1, (j _).1, (p _).1]; rfl, by omega⟩
section
variable {K : PySem.W.Frag} {σ : St} {F F' : Hp} {cs cs1 cs2 cs3 : Cs} {ta tb tc te : TE}
theorem d_eqT {α : Type} [DecidableEq α] {n : Nat} {e : α → PyData} {x y : α} (he : EqE e) (hs : ShE n e) (hn : n ≤ 64) (ha : EvD K ta σ F cs (e x) cs1) (hb : EvD K tb σ F cs1 (e y) cs2) : EvD K (tOp (rEqD K) ta tb) σ F cs (.bool (decide (x = y))) cs2 :=
  he x y ▸ d_eqD ha hb (shp hs hn x) (shp hs hn y)
theorem d_neT {α : Type} [DecidableEq α] {n : Nat} {e : α → PyData} {x y : α} (he : EqE e) (hs : ShE n e) (hn : n ≤ 64) (ha : EvD K ta σ F cs (e x) cs1) (hb : EvD K tb σ F cs1 (e y) cs2) : EvD K (tOp (rNeD K) ta tb) σ F cs (.bool (!decide (x = y))) cs2 :=
  he x y ▸ d_neD ha hb (shp hs hn x) (shp hs hn y)
def eqTM {α : Type} [DecidableEq α] (e : α → PyData) (x y : α) : Option Bool := if SeqAt.shaped (e x) = true ∧ SeqAt.shaped (e y) = true then some (decide (x = y)) else none
def eqDM (x y : PyData) : Option Bool := if SeqAt.shaped x = true ∧ SeqAt.shaped y = true then some (PyData.eqv x y) else none
theorem d_eqTM {α : Type} [DecidableEq α] {e : α → PyData} {x y : α} {b : Bool} (he : EqE e) (ha : EvD K ta σ F cs (e x) cs1) (hb : EvD K tb σ F cs1 (e y) cs2) (hm : eqTM e x y = some b) : EvD K (tOp (rEqD K) ta tb) σ F cs (.bool b) cs2 := by
  unfold eqTM at hm; split at hm
  · rename_i h; cases hm; exact he x y ▸ d_eqD ha hb h.1 h.2
  · cases hm
theorem d_neTM {α : Type} [DecidableEq α] {e : α → PyData} {x y : α} {b : Bool} (he : EqE e) (ha : EvD K ta σ F cs (e x) cs1) (hb : EvD K tb σ F cs1 (e y) cs2) (hm : eqTM e x y = some b) : EvD K (tOp (rNeD K) ta tb) σ F cs (.bool (!b)) cs2 := by
  unfold eqTM at hm; split at hm
  · rename_i h; cases hm; exact he x y ▸ d_neD ha hb h.1 h.2
  · cases hm
theorem d_eqDM {x y : PyData} {b : Bool} (ha : EvD K ta σ F cs x cs1) (hb : EvD K tb σ F cs1 y cs2) (hm : eqDM x y = some b) : EvD K (tOp (rEqD K) ta tb) σ F cs (.bool b) cs2 := by
  unfold eqDM at hm; split at hm
  · rename_i h; cases hm; exact d_eqD ha hb h.1 h.2
  · cases hm
theorem d_neDM {x y : PyData} {b : Bool} (ha : EvD K ta σ F cs x cs1) (hb : EvD K tb σ F cs1 y cs2) (hm : eqDM x y = some b) : EvD K (tOp (rNeD K) ta tb) σ F cs (.bool (!b)) cs2 := by
  unfold eqDM at hm; split at hm
  · rename_i h; cases hm; exact d_neD ha hb h.1 h.2
  · cases hm
end
end Bw

namespace Bw
open PySem L2
/-! names for readings -/
abbrev rAbs : List V → Hp → VK → Prop := fun xs H Q => ∃ i, xs = [.int i] ∧ Q (.int (if i < 0 then -i else i)) H
abbrev rMax2 : List V → Hp → VK → Prop := fun xs H Q => ∃ i j, xs = [.int i, .int j] ∧ Q (.int (if j > i then j else i)) H
abbrev rMin2 : List V → Hp → VK → Prop := fun xs H Q => ∃ i j, xs = [.int i, .int j] ∧ Q (.int (if j < i then j else i)) H
abbrev rLenL (K : PySem.W.Frag) : List V → Hp → VK → Prop := fun xs H Q => ∃ p ys, xs = [.ref p] ∧ (SqL K H p ys ∨ SqT K H p ys) ∧ Q (.int ys.length) H
abbrev rLenS : List V → Hp → VK → Prop := fun xs H Q => ∃ z, xs = [.str z] ∧ z.length ≤ sizeLine ∧ Q (.int z.length) H
abbrev rInt : List V → Hp → VK → Prop := fun xs H Q => (∃ i, xs = [.int i] ∧ Q (.int i) H) ∨ ∃ k, xs = [.bl k] ∧ Q (.int (if k then 1 else 0)) H
abbrev rStrI : List V → Hp → VK → Prop := fun xs H Q => ∃ i, xs = [.int i] ∧ i.natAbs.log2 < 1920 ∧ Q (.str (toString i)) H
abbrev rListS (K : PySem.W.Frag) : List V → Hp → VK → Prop := fun xs H Q => ∃ p ys, xs = [.ref p] ∧ (SqL K H p ys ∨ SqT K H p ys) ∧ ∀ l, H l = none → Q (.ref l) (upd H l (.lst ys))
abbrev rScat : R2 := fun x y H Q => ∃ i j, x = .str i ∧ y = .str j ∧ i.length + j.length ≤ sizeLine ∧ Q (.str (i ++ j)) H
abbrev rInS : R2 := fun x y H Q => ∃ i j, x = .str i ∧ y = .str j ∧ Q (.bl (!(Builtin.Str.occurrences j i 0 j.length 1).isEmpty)) H
abbrev rNinS : R2 := fun x y H Q => ∃ i j, x = .str i ∧ y = .str j ∧ Q (.bl (!(!(Builtin.Str.occurrences j i 0 j.length 1).isEmpty))) H
abbrev rIsN : R2 := fun x y H Q => y = .non ∧ Q (.bl (decide (x = .non))) H
abbrev rNotN : R2 := fun x y H Q => y = .non ∧ Q (.bl (!decide (x = .non))) H
abbrev rJoin (K : PySem.W.Frag) : V → List V → Hp → VK → Prop := fun x xs H Q => ∃ a p, ∃ ys : List Str, x = .str a ∧ xs = [.ref p] ∧ (SqL K H p (ys.map V.str) ∨ SqT K H p (ys.map V.str)) ∧ (ys.map (·.length)).sum + ys.length * a.length ≤ 16777216 ∧ Q (.str (Txt.join a ys)) H
section
variable {X : Cx}
theorem cr_abs : CallR X (.builtin "abs") rAbs := call_abs
theorem cr_max2 (hc : X.calm = true) : CallR X (.builtin "max") rMax2 := call_max2 hc
theorem cr_min2 (hc : X.calm = true) : CallR X (.builtin "min") rMin2 := call_min2 hc
theorem cr_lenL : CallR X (.builtin "len") (rLenL X.K) := call_len_seq
theorem cr_lenS : CallR X (.builtin "len") rLenS := call_len_str
theorem cr_int : CallR X (.type "int") rInt := call_int1
theorem cr_str : CallR X (.type "str") rStrI := call_str_int
theorem cr_list : CallR X (.type "list") (rListS X.K) := call_list_of
theorem op_scatR : OpR X (binaryOp .Add) rScat := op_add_str
theorem op_inR : OpR X (compareOp .In) rInS := op_in_str
theorem op_ninR : OpR X (compareOp .NotIn) rNinS := op_notin_str
theorem op_isNR : OpR X (compareOp .Is) rIsN := op_isN
theorem op_notNR : OpR X (compareOp .IsNot) rNotN := op_notN
end
theorem bf {b : Bool} (h : b = false) : ¬ b = true := by rw [h]; decide
theorem bt {b : Bool} (h : ¬ b = true) : b = false := by cases b <;> simp_all
theorem isS {α : Type} {c : Bool} {a : α} : (if c = true then some a else none : Option α).isSome = c := by cases c <;> rfl
theorem isSm {α : Type} {c : Bool} {a y : α} (h : (if c = true then some a else none : Option α) = some y) : a = y := by
  cases c with
  | true => exact Option.some.inj h
  | false => cases h
theorem pr2 {α β : Type} {a a' : α} {b b' : β} (h : (a, b) = (a', b')) : a = a' ∧ b = b' := by cases h; exact ⟨rfl, rfl⟩
theorem pr3 {α β γ : Type} {a a' : α} {b b' : β} {c c' : γ} (h : (a, b, c) = (a', b', c')) : a = a' ∧ b = b' ∧ c = c' := by cases h; exact ⟨rfl, rfl, rfl⟩
theorem pr4 {α β γ δ : Type} {a a' : α} {b b' : β} {c c' : γ} {d d' : δ} (h : (a, b, c, d) = (a', b', c', d')) : a = a' ∧ b = b' ∧ c = c' ∧ d = d' := by cases h; exact ⟨rfl, rfl, rfl, rfl⟩
theorem pr5 {α β γ δ ε : Type} {a a' : α} {b b' : β} {c c' : γ} {d d' : δ} {e e' : ε} (h : (a, b, c, d, e) = (a', b', c', d', e')) : a = a' ∧ b = b' ∧ c = c' ∧ d = d' ∧ e = e' := by cases h; exact ⟨rfl, rfl, rfl, rfl, rfl⟩
theorem dt_oI {K : PySem.W.Frag} {F : Hp} (o : Option Int) : Dt K F (oV V.int o) (eO eI o) := by cases o with
  | none => exact .non
  | some x => exact .int x
theorem dt_oS {K : PySem.W.Frag} {F : Hp} (o : Option Str) : Dt K F (oV V.str o) (eO eS o) := by cases o with
  | none => exact .non
  | some x => exact .str x
theorem dt_toI {K : PySem.W.Frag} {F : Hp} {v : V} {o : Option Int} (h : Dt K F v (eO eI o)) : v = oV V.int o := by cases o with
  | none => exact h.toNon
  | some x => exact h.toInt
theorem dt_toS {K : PySem.W.Frag} {F : Hp} {v : V} {o : Option Str} (h : Dt K F v (eO eS o)) : v = oV V.str o := by cases o with
  | none => exact h.toNon
  | some x => exact h.toStr
def mapC {α β : Type} (f : α → β) (xs : List α) : Option (List β) := if xs.length ≤ 100000 then some (xs.map f) else none
def filC {α β : Type} (p : α → Bool) (f : α → β) (xs : List α) : Option (List β) := if xs.length ≤ 100000 then some ((xs.filter p).map f) else none
def lcC {α β : Type} (f : α → Option (Option β)) (xs : List α) : Option (List β) := if xs.length ≤ 100000 then lcM f xs else none
section
variable {K : PySem.W.Frag} {σ : St} {F F' : Hp} {cs cs1 cs2 cs3 : Cs} {ta tb tc te : TE} {d e : PyData} {as : TA} {a b c : Int} {nx bk ct : St → Hp → Prop} {rt : VK} {H : Hp} {t u : TS}
theorem d_mulC (ha : EvD K ta σ F cs (.int a) cs1) (hb : EvD K tb σ F cs1 (.int b) cs2) (hc : CMul a b) : EvD K (tOp (rI CMul fun i j => .int (i * j)) ta tb) σ F cs (.int (a * b)) cs2 := d_I ha hb hc fun _ => .int _
theorem d_modC (ha : EvD K ta σ F cs (.int a) cs1) (hb : EvD K tb σ F cs1 (.int b) cs2) (hc : 0 < b) : EvD K (tOp (rI (fun _ j => 0 < j) fun i j => .int (i % j)) ta tb) σ F cs (.int (a % b)) cs2 := d_I (C := fun _ j => 0 < j) ha hb hc fun _ => .int _
theorem d_fdivC (ha : EvD K ta σ F cs (.int a) cs1) (hb : EvD K tb σ F cs1 (.int b) cs2) (hc : CDiv a b) : EvD K (tOp (rI CDiv fun i j => .int (i / j)) ta tb) σ F cs (.int (a / b)) cs2 := d_I ha hb hc fun _ => .int _
theorem d_powC (ha : EvD K ta σ F cs (.int a) cs1) (hb : EvD K tb σ F cs1 (.int b) cs2) (hc : CPow a b) : EvD K (tOp (rI CPow fun i j => .int (i ^ j.toNat)) ta tb) σ F cs (.int (a ^ b.toNat)) cs2 := d_I ha hb hc fun _ => .int _
theorem d_chain {g g' : Int → Int → Bool} (ha : EvD K ta σ F cs (.int a) cs1) (hb : EvD K tb σ F cs1 (.int b) cs2) (hc : EvD K tc σ F cs2 (.int c) cs2) : EvD K (tChain (rI0 fun i j => .bl (g i j)) (rI0 fun i j => .bl (g' i j)) ta tb tc) σ F cs (.bool (g a b && g' b c)) cs2 := fun F1 H1 g1 s Q q =>
  ha F1 H1 g1 s _ fun v F2 H2 g2 s2 h2 => hb F2 H2 (g1.tr g2) s2 _ fun w F3 H3 g3 s3 h3 => by
    cases h2.toInt; cases h3.toInt
    refine ⟨a, b, rfl, rfl, g a b, rfl, ?_⟩
    cases e : g a b with
    | true => exact hc F3 H3 ((g1.tr g2).tr g3) s3 _ fun z F4 H4 g4 s4 h4 => ⟨b, c, rfl, h4.toInt, q _ F4 H4 ((g2.tr g3).tr g4) s4 (by rw [e, Bool.true_and]; exact .bl _)⟩
    | false => exact q _ F3 H3 (g2.tr g3) s3 (by rw [e, Bool.false_and]; exact .bl _)
theorem t_andP {t u : TT} {a b : Bool} (h1 : EvT t σ F cs a cs1) (h2 : a = true → EvT u σ F cs1 b cs1) : EvT (tAnd t u) σ F cs (a && b) cs1 := t_and h1 h2 (fun h => by rw [h, Bool.true_and]) (fun h => by rw [h, Bool.false_and])
theorem t_orP {t u : TT} {a b : Bool} (h1 : EvT t σ F cs a cs1) (h2 : a = false → EvT u σ F cs1 b cs1) : EvT (tOr t u) σ F cs (a || b) cs1 := t_or h1 h2 (fun h => by rw [h, Bool.false_or]) (fun h => by rw [h, Bool.true_or])
theorem t_andM {t u : TT} {a r : Bool} (h1 : EvT t σ F cs a cs1) (h2 : a = true → EvT u σ F cs1 r cs1) (h4 : a = false → r = false) : EvT (tAnd t u) σ F cs r cs1 := t_and h1 h2 (fun _ => rfl) h4
theorem t_orM {t u : TT} {a r : Bool} (h1 : EvT t σ F cs a cs1) (h2 : a = false → EvT u σ F cs1 r cs1) (h4 : a = true → r = true) : EvT (tOr t u) σ F cs r cs1 := t_or h1 h2 (fun _ => rfl) h4
theorem d_andP {a b : Bool} (h1 : EvD K ta σ F cs (.bool a) cs1) (h2 : a = true → EvD K tb σ F cs1 (.bool b) cs1) : EvD K (tAndV ta tb) σ F cs (.bool (a && b)) cs1 := d_andV h1 h2 (fun h => by rw [h, Bool.true_and]) (fun h => by rw [h, Bool.false_and])
theorem d_orP {a b : Bool} (h1 : EvD K ta σ F cs (.bool a) cs1) (h2 : a = false → EvD K tb σ F cs1 (.bool b) cs1) : EvD K (tOrV ta tb) σ F cs (.bool (a || b)) cs1 := d_orV h1 h2 (fun h => by rw [h, Bool.false_or]) (fun h => by rw [h, Bool.true_or])
theorem d_andM {a r : Bool} (h1 : EvD K ta σ F cs (.bool a) cs1) (h2 : a = true → EvD K tb σ F cs1 (.bool r) cs1) (h4 : a = false → r = false) : EvD K (tAndV ta tb) σ F cs (.bool r) cs1 := d_andV h1 h2 (fun _ => rfl) h4
theorem d_orM {a r : Bool} (h1 : EvD K ta σ F cs (.bool a) cs1) (h2 : a = false → EvD K tb σ F cs1 (.bool r) cs1) (h4 : a = true → r = true) : EvD K (tOrV ta tb) σ F cs (.bool r) cs1 := d_orV h1 h2 (fun _ => rfl) h4
theorem d_join {x z : Str} {xs : List Str} (ha : EvD K ta σ F cs (.str x) cs1) (hb : EvD K tb σ F cs1 (eL eS xs) cs2) (hz : joinM x xs = some z) : EvD K (tM1 (rJoin K) ta tb) σ F cs (.str z) cs2 := fun F1 H1 g1 s Q q =>
  ha F1 H1 g1 s _ fun v F2 H2 g2 s2 h2 => ⟨⟨x, h2.toStr⟩, hb F2 H2 (g1.tr g2) s2 _ fun w F3 H3 g3 s3 h3 => by
    obtain ⟨p, vs, rfl, hl, hd⟩ := h3.toLst
    cases hd.strs
    unfold joinM at hz; split at hz
    · rename_i h; cases hz
      refine ⟨x, p, xs, h2.toStr, rfl, .inl (gr_L s3.fr hl), ?_, q _ F3 H3 (g2.tr g3) s3 (.str _)⟩
      rw [Nat.mul_comm xs.length]
      exact Nat.le_trans h (by decide)
    · cases hz⟩
theorem c_lcC {α β : Type} {wi : TI} {g : TG} {tt : TT} {vs : List Nat} {xs : List α} {en : α → PyData} {em : β → PyData} {f : α → Option (Option β)} {ys : List β}
    (hi : EvI K wi σ F cs (xs.map en) cs1) (hm : lcC f xs = some ys)
    (turn : ∀ x o v F1 p us, Gr F F1 → Dt K F1 v (en x) → f x = some o → ∃ σ2 : St, (∀ H (Q : St → Hp → Prop), Sta F1 ((p, .lst us) :: cs1) H → Q σ2 H → g v (wipe σ vs) H Q) ∧ wipe σ2 vs = wipe σ vs ∧
      EvT tt σ2 F1 ((p, .lst us) :: cs1) o.isSome ((p, .lst us) :: cs1) ∧ ∀ y, o = some y → EvD K te σ2 F1 ((p, .lst us) :: cs1) (em y) ((p, .lst us) :: cs1)) :
    EvC K (tLc wi g tt te vs) σ F cs (ys.map em) cs1 := by
  unfold lcC at hm; split at hm
  · rename_i h; exact c_lc hi hm h turn
  · cases hm
theorem c_mapC {α β : Type} {wi : TI} {g : TG} {tt : TT} {vs : List Nat} {xs : List α} {en : α → PyData} {em : β → PyData} {f : α → β} {ys : List β}
    (hi : EvI K wi σ F cs (xs.map en) cs1) (hm : mapC f xs = some ys)
    (turn : ∀ x o v F1 p us, Gr F F1 → Dt K F1 v (en x) → some (some (f x)) = some o → ∃ σ2 : St, (∀ H (Q : St → Hp → Prop), Sta F1 ((p, .lst us) :: cs1) H → Q σ2 H → g v (wipe σ vs) H Q) ∧ wipe σ2 vs = wipe σ vs ∧
      EvT tt σ2 F1 ((p, .lst us) :: cs1) o.isSome ((p, .lst us) :: cs1) ∧ ∀ y, o = some y → EvD K te σ2 F1 ((p, .lst us) :: cs1) (em y) ((p, .lst us) :: cs1)) :
    EvC K (tLc wi g tt te vs) σ F cs (ys.map em) cs1 := by
  unfold mapC at hm; split at hm
  · rename_i h; cases hm; exact c_lc (f := fun x => some (some (f x))) hi (lcM_map f xs) h turn
  · cases hm
theorem c_filC {α β : Type} {wi : TI} {g : TG} {tt : TT} {vs : List Nat} {xs : List α} {en : α → PyData} {em : β → PyData} {p : α → Bool} {f : α → β} {ys : List β}
    (hi : EvI K wi σ F cs (xs.map en) cs1) (hm : filC p f xs = some ys)
    (turn : ∀ x o v F1 p' us, Gr F F1 → Dt K F1 v (en x) → some (if p x = true then some (f x) else none) = some o → ∃ σ2 : St, (∀ H (Q : St → Hp → Prop), Sta F1 ((p', .lst us) :: cs1) H → Q σ2 H → g v (wipe σ vs) H Q) ∧ wipe σ2 vs = wipe σ vs ∧
      EvT tt σ2 F1 ((p', .lst us) :: cs1) o.isSome ((p', .lst us) :: cs1) ∧ ∀ y, o = some y → EvD K te σ2 F1 ((p', .lst us) :: cs1) (em y) ((p', .lst us) :: cs1)) :
    EvC K (tLc wi g tt te vs) σ F cs (ys.map em) cs1 := by
  unfold filC at hm; split at hm
  · rename_i h; cases hm; exact c_lc (f := fun x => some (if p x = true then some (f x) else none)) hi (lcM_filter p f xs) h turn
  · cases hm
theorem nxt (h : nx σ H) : tNext ⟨nx, rt, bk, ct⟩ σ H := h
theorem tg {g : TG} {v : V} {σ' : St} {Q : St → Hp → Prop} (h1 : ∀ Q : St → Hp → Prop, Q σ' H → g v σ H Q) (h2 : Q σ' H) : g v σ H Q := h1 Q h2
theorem s_asg {g : TG} (s : Sta F cs H) (h : EvD K te σ F cs d cs1) (q : ∀ v F2 H2, Gr F F2 → Sta F2 cs1 H2 → Dt K F2 v d → g v σ H2 nx) : tAsg te g ⟨nx, rt, bk, ct⟩ σ H := h F H .rfl s _ q
theorem s_ifJ {c : TT} {b : Bool} (J : St → Hp → Prop) (s : Sta F cs H) (h : EvT c σ F cs b cs1) (rest : ∀ σ' H', J σ' H' → nx σ' H') (qt : (∀ σ' H', J σ' H' → nx σ' H') → b = true → ∀ F2 H2, Gr F F2 → Sta F2 cs1 H2 → t ⟨nx, rt, bk, ct⟩ σ H2)
    (qf : (∀ σ' H', J σ' H' → nx σ' H') → b = false → ∀ F2 H2, Gr F F2 → Sta F2 cs1 H2 → u ⟨nx, rt, bk, ct⟩ σ H2) : tIfS c t u ⟨nx, rt, bk, ct⟩ σ H := s_if s h (qt rest) (qf rest)
theorem s_appF {α : Type} {vf : α → V} {en : α → PyData} {l1 l2 : Cs} {i : Nat} {p : Addr} {xs ys : List α} {x : α} (hw : ∀ F v x, Dt K F v (en x) → v = vf x) (s : Sta F (l1 ++ (p, .lst (xs.map vf)) :: l2) H) (hi : σ[i]? = some (some (.ref p))) (h : EvD K te σ F (l1 ++ (p, .lst (xs.map vf)) :: l2) (en x) (l1 ++ (p, .lst (xs.map vf)) :: l2)) (hm : appM xs x = some ys)
    (q : ∀ F2 H2, Gr F F2 → Sta F2 (l1 ++ (p, .lst (ys.map vf)) :: l2) H2 → nx σ H2) : tDrop (tBM K "list" rAppend (tVar i) (tCons te tNil)) ⟨nx, rt, bk, ct⟩ σ H := by
  obtain ⟨hl, rfl⟩ := appM_some hm
  refine s_app s hi h (by rw [List.length_map]; exact hl) fun v F2 H2 g2 s2 h2 => q F2 H2 g2 ?_
  cases hw F2 v x h2
  rw [List.map_append]; exact s2
theorem s_appG {α : Type} {en : α → PyData} {l1 l2 : Cs} {i : Nat} {p : Addr} {vs : List V} {xs ys : List α} {x : α} (s : Sta F (l1 ++ (p, .lst vs) :: l2) H) (hf : Dts K F vs (xs.map en)) (hi : σ[i]? = some (some (.ref p))) (h : EvD K te σ F (l1 ++ (p, .lst vs) :: l2) (en x) (l1 ++ (p, .lst vs) :: l2)) (hm : appM xs x = some ys)
    (q : ∀ us F2 H2, Gr F F2 → Sta F2 (l1 ++ (p, .lst us) :: l2) H2 → Dts K F2 us (ys.map en) → nx σ H2) : tDrop (tBM K "list" rAppend (tVar i) (tCons te tNil)) ⟨nx, rt, bk, ct⟩ σ H := by
  obtain ⟨hl, rfl⟩ := appM_some hm
  refine s_app s hi h (by rw [hf.len, List.length_map]; exact hl) fun v F2 H2 g2 s2 h2 => q _ F2 H2 g2 s2 ?_
  rw [List.map_append]; exact (hf.gr g2).app (.cons h2 .nil)
theorem s_itemF {α : Type} {vf : α → V} {en : α → PyData} {l1 l2 : Cs} {i : Nat} {p : Addr} {xs ys : List α} {x : α} {ti : TE} {k : Int} (hw : ∀ F v x, Dt K F v (en x) → v = vf x) (s : Sta F (l1 ++ (p, .lst (xs.map vf)) :: l2) H) (hi : σ[i]? = some (some (.ref p))) (h : EvD K te σ F (l1 ++ (p, .lst (xs.map vf)) :: l2) (en x) (l1 ++ (p, .lst (xs.map vf)) :: l2))
    (h2 : EvD K ti σ F (l1 ++ (p, .lst (xs.map vf)) :: l2) (.int k) (l1 ++ (p, .lst (xs.map vf)) :: l2)) (hm : setM xs k x = some ys) (q : ∀ F2 H2, Gr F F2 → Sta F2 (l1 ++ (p, .lst (ys.map vf)) :: l2) H2 → nx σ H2) : tAsg te (gSub (tVar i) ti rSetL) ⟨nx, rt, bk, ct⟩ σ H := by
  obtain ⟨j, hj, rfl⟩ := setM_some hm
  refine s_item (j := j) s hi h h2 (by rw [List.length_map]; exact hj) fun v F2 H2 g2 s2 hv => q F2 H2 g2 ?_
  cases hw F2 v x hv
  rw [List.map_set]; exact s2
theorem s_itemG {α : Type} {en : α → PyData} {l1 l2 : Cs} {i : Nat} {p : Addr} {vs : List V} {xs ys : List α} {x : α} {ti : TE} {k : Int} (s : Sta F (l1 ++ (p, .lst vs) :: l2) H) (hf : Dts K F vs (xs.map en)) (hi : σ[i]? = some (some (.ref p))) (h : EvD K te σ F (l1 ++ (p, .lst vs) :: l2) (en x) (l1 ++ (p, .lst vs) :: l2))
    (h2 : EvD K ti σ F (l1 ++ (p, .lst vs) :: l2) (.int k) (l1 ++ (p, .lst vs) :: l2)) (hm : setM xs k x = some ys) (q : ∀ us F2 H2, Gr F F2 → Sta F2 (l1 ++ (p, .lst us) :: l2) H2 → Dts K F2 us (ys.map en) → nx σ H2) : tAsg te (gSub (tVar i) ti rSetL) ⟨nx, rt, bk, ct⟩ σ H := by
  obtain ⟨j, hj, rfl⟩ := setM_some hm
  refine s_item (j := j) s hi h h2 (by rw [hf.len, List.length_map]; exact hj) fun v F2 H2 g2 s2 hv => q _ F2 H2 g2 s2 ?_
  rw [List.map_set]; exact (hf.gr g2).setAt j hv
end
/-! isinstance -/
def kindD : PyData → String
  | .none => "NoneType"
  | .bool _ => "bool"
  | .int _ => "int"
  | .str _ => "str"
  | .list _ => "list"
  | .tuple _ => "tuple"
  | .dict _ => "dict"
def isiD (c : String) (d : PyData) : Bool := kindD d == c || (kindD d == "bool" && c == "int")
def isiK : List String := ["int", "str", "bool", "list", "tuple", "dict"]
theorem kit_isi {K : PySem.W.Frag} {c : String} (hc : c ∈ isiK) (d : PyData) : PySem.W.kitOne K (.type (kindD d)) (.type c) = some (isiD c d) := by
  have h : ∀ k ∈ ["NoneType", "bool", "int", "str", "list", "tuple", "dict"], ∀ c ∈ isiK, kitB k c = some (k == c || (k == "bool" && c == "int")) := by decide +kernel
  exact kit_ty (h (kindD d) (by cases d <;> simp [kindD]) c hc)
theorem ty_of {K : PySem.W.Frag} {F H : Hp} {v : V} {d : PyData} (g : Gr F H) (h : Dt K F v d) : TyX K H v (.type (kindD d)) := by
  cases h with
  | non => exact .base .non
  | bl b => exact .base (.bl b)
  | int i => exact .base (.int i)
  | str x => exact .base (.str x)
  | lst hl _ =>
    rcases hl with (h | ⟨o, h⟩) | ⟨o, its, n, h1, h2, h3⟩
    · exact .base (.lst (g _ _ h))
    · exact .base (.frz (g _ _ h))
    · exact .kList h1 h2
  | tup ht _ =>
    rcases ht with (h | ⟨o, h⟩) | ⟨o, its, n, h1, h2, h3⟩
    · exact .base (.tup (g _ _ h))
    · exact .fTuple (g _ _ h)
    · exact .kTuple h1 h2
  | dct h => exact .base (.dK (g _ _ h))
theorem d_isiD {K : PySem.W.Frag} {σ : St} {F : Hp} {cs cs1 : Cs} {ta : TE} {d : PyData} {c : String} (hc : c ∈ isiK) (ha : EvD K ta σ F cs d cs1) : EvD K (tCB (rIsi K) (tCons ta (tCons (tC (.ty c)) tNil))) σ F cs (.bool (isiD c d)) cs1 := fun F1 H1 g1 s Q q =>
  ha F1 H1 g1 s _ fun v F2 H2 g2 s2 h2 => ⟨v, .ty c, .type (kindD d), .type c, isiD c d, rfl, .ty c, ty_of s2.fr h2, kit_isi hc d, q _ F2 H2 g2 s2 (.bl _)⟩
/-! a def that keeps its promise -/
def Lk (K : PySem.W.Frag) (f : Addr) (fd : FuncData) : Prop := ∃ oc od sl, K.lookup f = some ⟨oc, od, .func fd, sl⟩
theorem lk_of {K : PySem.W.Frag} {x qual : Str} {params : Arguments} {body : List Stmt} {scope : Scope} {dvs : List V} {kws : List (Str × V)} {f : Addr} {fd : FuncData} (F : FunD K x qual params body scope dvs kws f fd) : Lk K f fd := by
  obtain ⟨oc, od, dV, kV, doc, pm, an, cdv, ct, osl, _, lk, _⟩ := F.ex
  exact ⟨oc, od, osl, lk⟩
theorem Lk.one {K : PySem.W.Frag} {f : Addr} {fd fd2 : FuncData} (a : Lk K f fd) (b : Lk K f fd2) : fd = fd2 := by
  obtain ⟨_, _, _, e1⟩ := a
  obtain ⟨_, _, _, e2⟩ := b
  rw [e1] at e2
  cases e2
  rfl
structure Ok (P : Program) (w : World) (K : PySem.W.Frag) (mg : Str → Option Value) (base : Heap) (k : Nat) (x : Str) (ps : List Str) (sp : Sp) : Prop where
  ex : ∃ fd, FnOk P w K mg base CX0 k (He.ga K x) fd ps sp ∧ Binds K fd ps [] ∧ Lk K (He.ga K x) fd
  kp : PySem.W.keepIn K (.ref (He.ga K x)) = true
  gm : mg x = some (.ref (He.ga K x))
structure Df (K : PySem.W.Frag) (mg : Str → Option Value) (x : Str) (st : Stmt) : Prop where
  ex : ∃ fd, FunD K x x (defArgs st) (defBody st) (defScope st) [] [] (He.ga K x) fd
  gm : mg x = some (.ref (He.ga K x))
end Bw

/-! set(list) for any kind of key: as many members as unlike keys -/
namespace Bw
open PySem PyProof.Rows
def dups {κ : Type} [BEq κ] : List κ → List κ → List κ
  | acc, [] => acc
  | acc, x :: xs => dups (if acc.any (· == x) then acc else acc ++ [x]) xs
section
variable {κ : Type} [DecidableEq κ] [BEq κ] [LawfulBEq κ]
def met (ks : List κ) (i : Nat) : List κ := dups [] (ks.take i)
theorem dups_app (l : List κ) (x : κ) : ∀ acc, dups acc (l ++ [x]) = (if (dups acc l).any (· == x) then dups acc l else dups acc l ++ [x]) := by
  induction l with
  | nil => intro acc; rfl
  | cons y l ih => intro acc; exact ih _
theorem met_succ (ks : List κ) (i : Nat) (x : κ) (h : ks[i]? = some x) : met ks (i + 1) = (if (met ks i).any (· == x) then met ks i else met ks i ++ [x]) := by
  unfold met
  rw [List.take_add_one, h]
  exact dups_app _ _ _
theorem dups_len (l : List κ) : ∀ acc : List κ, (dups acc l).length ≤ acc.length + l.length := by
  induction l with
  | nil => intro acc; exact Nat.le_refl _
  | cons y l ih =>
    intro acc
    have := ih (if acc.any (· == y) then acc else acc ++ [y])
    have h2 : (if acc.any (· == y) then acc else acc ++ [y]).length ≤ acc.length + 1 := by
      split
      · exact Nat.le_succ _
      · rw [List.length_append]; exact Nat.le_refl _
    show (dups (if acc.any (· == y) then acc else acc ++ [y]) l).length ≤ acc.length + (l.length + 1)
    omega
theorem met_len (ks : List κ) (i : Nat) : (met ks i).length ≤ i := by
  have h := dups_len (ks.take i) ([] : List κ)
  have h2 : (ks.take i).length ≤ i := by rw [List.length_take]; exact Nat.min_le_left _ _
  unfold met
  simp only [List.length_nil, Nat.zero_add] at h
  omega
end
section
variable {prog : Program} {w : World} {A : Around} {R : Result → Shared → Prop} {I : Addr} {fp wr : List Addr} {G : Array GenState → Array GenState → Prop} {n : Nat} {P : Nat → Value → Prop} {St : Nat → Shared → Prop}
variable {κ : Type} [DecidableEq κ] [BEq κ] [LawfulBEq κ] (knd : KeyKind prog w κ)
theorem loopK (W : WalksS prog w A.in1 I fp wr G n P St) (S : Addr) (hSf : S ∉ fp) (ks : List κ) (hval : ∀ i v, P i v → ∃ k, ks[i]? = some k ∧ knd.is k v = true ∧ v.scannable = true) (hb : n + 1 < scanBound) :
    ∀ (k i : Nat) (s : Shared), n - i = k → i ≤ n → St i s → s.heap.SetOf knd S (fun z => (met ks i).any (· == z)) (met ks i).length →
      (∀ s', Moved (S :: wr) G s s' → s'.heap.SetOf knd S (fun z => (met ks n).any (· == z)) (met ks n).length → R (.ok (.ret .none)) s') →
      codeAny (model prog w) A (.builtin "set.update.loop" ⟨[.ref S, .ref I], []⟩) R s := by
  have nw : S ∉ wr := fun h => hSf (W.sub _ h)
  have sb : ∀ b ∈ wr, b ∈ S :: wr := fun b hb => List.mem_cons_of_mem _ hb
  intro k
  induction k with
  | zero =>
    intro i s hk hi hst hS hR
    obtain rfl : i = n := by omega
    refine codeAny_builtin F.entry_set_update_loop ?_
    rw [Around.under_plainId F.plain_set_update_loop _]
    show wpAny _ A.in1 (pyNext (.ref I) >>= _) _ _ s
    refine wpAny_bind (W.done s _ _ hst fun s' hm => ?_)
    show wpAny _ A.in1 (ret Value.none) _ _ s'
    refine wpAny_pure (hR s' (hm.mono sb) ?_)
    obtain ⟨o, es, ep, t, ho, rest⟩ := hS
    exact ⟨o, es, ep, t, hm.heap S _ nw ho, rest⟩
  | succ k ih =>
    intro i s hk hi hst hS hR
    have hlt : i < n := by omega
    refine codeAny_builtin F.entry_set_update_loop ?_
    rw [Around.under_plainId F.plain_set_update_loop _]
    show wpAny _ A.in1 (pyNext (.ref I) >>= _) _ _ s
    refine wpAny_bind (W.item i s _ _ hlt hst fun v s' hP hst' hm => ?_)
    obtain ⟨x, hx, his, hsc⟩ := hval i v hP
    have hS' : s'.heap.SetOf knd S (fun z => (met ks i).any (· == z)) (met ks i).length := by
      obtain ⟨o, es, ep, tb, ho, rest⟩ := hS
      exact ⟨o, es, ep, tb, hm.heap S _ nw ho, rest⟩
    show wpAny _ A.in1 (holding [v] (setAdd S v) >>= _) _ _ s'
    refine wpAny_bind (wpAny_holding ?_)
    unfold setAdd
    refine wpAny_holding ?_
    refine wpAny_bind (knd.pyHash (k := x) his ?_)
    refine wpAny_setAddHashed_of (knd := knd) (s := { s' with toks := s'.toks + 1 }) his hsc hS' (by have := met_len ks i; omega) fun h' hsb hS2 => ?_
    have hSi : h'.SetOf knd S (fun z => (met ks (i + 1)).any (· == z)) (met ks (i + 1)).length := by
      refine SetOf_congr hS2 (fun z => ?_) ?_
      · rw [met_succ ks i x hx]
        by_cases q : (met ks i).any (· == x) = true
        · rw [if_pos q]
          by_cases e : z = x
          · subst e; rw [q]; rfl
          · rw [decide_eq_false e, Bool.or_false]
        · rw [if_neg q, List.any_append]
          by_cases e : z = x
          · subst e; simp
          · have hb2 : (x == z) = false := beq_eq_false_iff_ne.mpr fun h' => e h'.symm
            simp [hb2, e]
      · rw [met_succ ks i x hx]
        by_cases q : (met ks i).any (· == x) = true
        · rw [if_pos q, if_pos q]
        · rw [if_neg q, if_neg q, List.length_append]; rfl
    refine wpAny_pure ⟨plainId_quiet F.plain_set_update_loop _, ih (i + 1) _ (by omega) hlt (W.frame _ s' _ _ hst' (Nat.le_succ _) fun b hb o e => ?_) hSi fun s'' hm'' hS'' => ?_⟩
    · rw [hsb.2 b (fun h : b = S => hSf (by rw [← h]; exact hb))]; exact e
    · refine hR s'' (Moved.trans W.gtrans ((hm.mono sb).then_heap (Nat.le_succ _) fun b o hb e => ?_) hm'') hS''
      rw [hsb.2 b (fun h : b = S => hb (by rw [h]; exact List.mem_cons_self))]; exact e
end
end Bw
namespace Bw
open PySem
section
variable {prog : Program} {w : World} {A : Around} {E : Value → Shared → Prop} {s : Shared}
variable {κ : Type} [DecidableEq κ] [BEq κ] [LawfulBEq κ] (knd : KeyKind prog w κ)
abbrev sO (led : Bool) : Obj := { cls := .type "set", dict := none, data := .set #[] 0 (.fresh 0 0 led) }
theorem call_setK {l : Addr} {items : Array Value} {ks : List κ} {Q : Value → Shared → Prop} (hh : A.handled = none) (hl : s.heap.IsList l items)
    (hi : ∀ (i : Nat) (v : Value), items[i]? = some v → ∃ k, ks[i]? = some k ∧ knd.is k v = true ∧ v.scannable = true) (hb : items.size + 1 < scanBound)
    (h : ∀ (h' : Heap) (tk : Nat), h'.SetOf knd s.heap.objs.size (fun z => (met ks items.size).any (· == z)) (met ks items.size).length → (∀ b o, b < s.heap.objs.size → s.heap.get? b = some o → h'.get? b = some o) → Q (.ref s.heap.objs.size) { s with heap := h', toks := tk }) :
    wpAny (model prog w) A (call (.type "set") [.ref l]) Q E s := by
  obtain ⟨c, tl, hmro⟩ := F.called_set.mro
  have hmade := F.called_set.made
  have hsub := F.called_set.sub
  refine wpAny_call (codeAny_of_tree ?_)
  show wpAny _ _ (callAny (.type "set") _) _ _ _
  refine wpAny_pure ⟨Code.quiet_builtin _ (by decide +kernel), codeAny_builtin F.entry_type_call ?_⟩
  rw [Around.under_plain (weight_type_call_type "set" [.ref l] []) rfl]
  have h1 := F.called_set.notType
  have h2 := F.called_set.canCreate
  have hct := F.typeCall_set_1 (.ref l)
  repeat (any_goals (first | assumption | wp_step))
  refine codeAny_mono (code_set_new_1 (.ref l) (E := E) (Q₁ := fun obj s₁ => ∃ led : Bool, obj = .ref s.heap.objs.size ∧ s₁ = { s with heap := s.heap.push (sO led) }) fun led => ⟨led, rfl, rfl⟩) fun r s₁ hr => ?_
  cases r with
  | error e => exact hr
  | ok fl =>
    cases fl with
    | ret obj =>
      obtain ⟨led, rfl, rfl⟩ := hr
      have hS : (s.heap.push (sO led)).get? s.heap.objs.size = some (sO led) := Heap.get?_push_size _ rfl
      have hT : Shared.TypeIs { s with heap := s.heap.push (sO led) } (.ref s.heap.objs.size) "set" := ⟨_, hS, rfl⟩
      have hli := F.called_set.init.lookup
      have hbi := F.called_set.init.bind (.ref s.heap.objs.size)
      repeat (any_goals (first | assumption | wp_step))
      refine codeAny_mono (codeAny_call_builtin (R := wants (fun r s₂ => r = .none ∧ ∃ h' tk, s₂ = { s with heap := h', toks := tk } ∧ h'.SetOf knd s.heap.objs.size (fun z => (met ks items.size).any (· == z)) (met ks items.size).length ∧
          (∀ b o, b < s.heap.objs.size → s.heap.get? b = some o → h'.get? b = some o)) E) F.called_set.init.plain F.entry_set_init (check_set_init_1 hT ?_)) fun r₂ s₂ hr₂ => ?_
      · obtain ⟨ol, hol, hcl, nl, hdl⟩ := hl
        obtain ⟨ocls, odict, odata, oslots⟩ := ol
        simp only at hcl hdl
        subst hcl; subst hdl
        have hol' : (s.heap.push (sO led)).get? l = some { cls := .type "list", dict := odict, data := .seq items nl, slots := oslots } := Heap.get?_push_of_some _ hol
        have hsls := F.sub_list_set
        have hslf := F.sub_list_frozenset
        have hne : (Value.type "list" == Value.type "dict") = false := by decide
        have hl1 : (s.heap.push (sO led)).IsList l items := ⟨_, hol', rfl, nl, rfl⟩
        unfold Builtin.«set.__init__» noKeywords Builtin.Frozenset.updateFrom
        generalize hPI : pyIter = PI
        wp_walk
        subst hPI
        refine wpAny_pyIter_list hl1 ?_
        refine wpAny_bind (wpAny_runValue ?_)
        have hlS : l < s.heap.objs.size := Heap.lt_size hol
        have hneI : l ≠ (s.heap.push (sO led)).objs.size := by
          rw [Heap.size_push]; exact Nat.ne_of_lt (Nat.lt_succ_of_lt hlS)
        have hSf : s.heap.objs.size ∉ [(s.heap.push (sO led)).objs.size, l] := by
          rw [Heap.size_push]; simp only [List.mem_cons, List.not_mem_nil, or_false, not_or]
          exact ⟨Nat.ne_of_lt (Nat.lt_succ_self _), Nat.ne_of_gt hlS⟩
        refine loopK knd ((Walks.list (by simp [hh]) _ l hneI items).toS) s.heap.objs.size hSf ks hi hb (items.size - 0) 0 _ (by omega) (Nat.zero_le _) ⟨⟨_, Heap.get?_push_size _ rfl, rfl, rfl⟩, (hl1.push _)⟩ ?hS0 ?hR
        case hS0 =>
          exact PyProof.Rows.SetOf_congr ((PyProof.Rows.setObjOf_fresh (knd := knd) led).setOf (Heap.get?_push_of_some _ hS) (by unfold scanBound; omega)) (fun _ => rfl) rfl
        case hR =>
          intro s' hm hS'
          obtain ⟨h', g', d', tk', os'⟩ := s'
          have eg : g' = s.gens := hm.gens
          have ed : d' = s.drawn := hm.drawn
          have eo : os' = s.os := hm.os
          subst eg; subst ed; subst eo
          show wpAny _ _ _ _ _ _
          refine wpAny_pure ?_
          show wpAny _ _ (ret Value.none) _ _ _
          refine wpAny_pure ⟨rfl, h', tk', rfl, hS', fun b o hb e => ?_⟩
          refine hm.heap b o ?_ (Heap.get?_push_of_some _ (Heap.get?_push_of_some _ e))
          simp only [List.mem_cons, List.not_mem_nil, or_false, not_or]
          exact ⟨Nat.ne_of_lt hb, by rw [Heap.size_push]; exact Nat.ne_of_lt (Nat.lt_succ_of_lt hb)⟩
      · cases r₂ with
        | error e => exact hr₂
        | ok fl₂ =>
          cases fl₂ with
          | ret r =>
            obtain ⟨rfl, h', tk, rfl, hS', hk'⟩ := hr₂
            repeat (any_goals (first | assumption | wp_step))
            exact h _ _ hS' hk'
          | _ => exact hr₂.elim
    | _ => exact hr.elim
end
end Bw


namespace Bw
open PySem L2
def tLenSetS (K : PySem.W.Frag) (ta : TE) : TE := fun σ H Q => ta σ H fun x H1 => ∃ (l : Addr) (xs : List Str), x = .ref l ∧ SqL K H1 l (xs.map V.str) ∧ xs.length ≤ 4000 ∧ Q (.int (dups [] xs).length) H1
theorem strs_get : ∀ {xs : List Str} {us : List Value} {i : Nat} {v : Value}, Vals (xs.map V.str) us → us[i]? = some v → ∃ k, xs[i]? = some k ∧ ∃ t, v = .str k t
  | [], _, _, _, .nil, e => by simp at e
  | x :: xs, _, 0, v, .cons r t, e => by
    simp at e; subst e
    exact ⟨x, rfl, r⟩
  | x :: xs, _, i + 1, v, .cons r t, e => by
    obtain ⟨k, h1, h2⟩ := strs_get (i := i) (v := v) t (by simpa using e)
    exact ⟨k, by simpa using h1, h2⟩
theorem met_all {κ : Type} [DecidableEq κ] [BEq κ] (ks : List κ) : met ks ks.length = dups [] ks := by unfold met; rw [List.take_length]
theorem pe_lenSetS {X : Cx} {a : Expr} {ta : TE} {p p2 q pos : Pos} (hc : X.calm = true) (hg : Gl X "len") (hm : X.mg "len" = none) (hg2 : Gl X "set") (hm2 : X.mg "set" = none) (ha : PE X a ta)
    (na : starEach [a] X.env = (false, eval a X.env) :: starEach [] X.env := by rfl) : PE X (.Call (.Name "len" p) [.Call (.Name "set" p2) [a] [] q] [] pos) (tLenSetS X.K ta) := by
  refine ⟨fun pins s σ H Q I h => ?_⟩
  refine PyProof.Rows.Call_ (ld_blt I hg hm boot_len ?_)
  refine PyProof.Rows.callWith_builtin1 (PyProof.Rows.args_cons ?_ rfl) rfl rfl
  refine PyProof.Rows.Call_ (ld_blt I hg2 hm2 PyProof.Rows.boot_set ?_)
  refine PyProof.Rows.callWith_type1 (PyProof.Rows.args_cons (thn (ha.run pins s σ H _ I h) fun v s1 ⟨x, H1, I1, r1, q1⟩ => PyProof.Rows.args_nil ?_) na) na rfl
  obtain ⟨l, xs, rfl, hq, h1, q1⟩ := q1
  cases r1
  obtain ⟨its, r, pl, hz⟩ := I1.list hq
  have hl : its.toArray.size = xs.length := by rw [List.size_toArray, ← r.length, List.length_map]
  refine call_setK (PySem.strKind X.prog X.w) (ks := xs) (I1.ok.hd hc) pl.isList (fun i v hv => ?_) (by rw [hl]; unfold scanBound; omega) fun h' tk hS hk => ?_
  · obtain ⟨k, e1, t, e2⟩ := strs_get (i := i) (v := v) r (by simpa using hv)
    subst e2
    exact ⟨k, e1, strKind_is _ _ _ _, rfl⟩
  · refine PyProof.Rows.args_nil ?_
    rw [hl, met_all] at hS
    obtain ⟨o, es, ep, t, ho, hex, hd, _, _, _, hf, hn⟩ := hS
    have I2 : Inv X pins σ H1 { s1 with heap := h', toks := tk } := I1.kept fun b o e => hk b o (Heap.lt_size e) e
    have hlen := dups_len xs ([] : List Str)
    simp only [List.length_nil, Nat.zero_add] at hlen
    exact call_len_set ho hex hd hf (by rw [hn] <;> omega) ⟨.int (dups [] xs).length, H1, I2.tok _, ⟨_, by rw [hn]⟩, q1⟩
def setLenM (xs : List Str) : Option Int := if xs.length ≤ 4000 then some ((dups [] xs).length : Int) else none
abbrev rSrep : R2 := fun x y H Q => ∃ z n, x = .str z ∧ y = .int n ∧ MulOk z n ∧ Q (.str (Txt.mul z n)) H
theorem op_srep {X : Cx} : OpR X (binaryOp .Mult) rSrep := by
  intro pins s σ H x y v u Q I rx ry h
  obtain ⟨i, j, rfl, rfl, hz, q⟩ := h
  obtain ⟨t, rfl⟩ := rx
  obtain ⟨t', rfl⟩ := ry
  exact SB.mul hz fun t' tk => ⟨.str (Txt.mul i j), H, I.tok _, ⟨_, rfl⟩, q⟩
def srepM (x : Str) (n : Int) : Option Str := if -(2 ^ 63) ≤ n ∧ n < 2 ^ 63 ∧ x.length * n.toNat ≤ 100000 then some (Txt.mul x n) else none
theorem mulOk {x : Str} {n : Int} (h : -(2 ^ 63) ≤ n ∧ n < 2 ^ 63 ∧ x.length * n.toNat ≤ 100000) : MulOk x n := by
  obtain ⟨h1, h2, h3⟩ := h
  refine ⟨?_, fun hn hc => ?_, fun hn hc => ?_⟩
  · rw [Bool.or_eq_false_iff]
    exact ⟨decide_eq_false (by omega), decide_eq_false (by omega)⟩
  · intro hgt
    have hx : (x.length : Int) * n ≤ 100000 := by
      have e : ((x.length * n.toNat : Nat) : Int) = (x.length : Int) * n := by
        rw [Int.natCast_mul, Int.toNat_of_nonneg (by omega)]
      omega
    have h5 : (2 ^ 63 - 1 : Int) / n + 1 ≤ x.length := by omega
    have h6 : (2 ^ 63 - 1 : Int) < ((2 ^ 63 - 1 : Int) / n + 1) * n := Int.lt_ediv_add_one_mul_self _ (by omega)
    have h7 : ((2 ^ 63 - 1 : Int) / n + 1) * n ≤ (x.length : Int) * n := Int.mul_le_mul_of_nonneg_right h5 (by omega)
    omega
  · unfold Builtin.Str.tooLong
    simp only [decide_eq_false_iff_not]
    have : (100000 : Nat) ≤ sizeLine := by decide
    omega
section
variable {K : PySem.W.Frag} {σ : St} {F F' : Hp} {cs cs1 cs2 cs3 : Cs} {ta tb tc te : TE} {d e : PyData} {as : TA} {a b c : Int} {nx bk ct : St → Hp → Prop} {rt : VK} {H : Hp} {t u : TS}
theorem d_srep {x z : Str} (ha : EvD K ta σ F cs (.str x) cs1) (hb : EvD K tb σ F cs1 (.int b) cs2) (hz : srepM x b = some z) : EvD K (tOp rSrep ta tb) σ F cs (.str z) cs2 :=
  d_op ha hb fun _ _ F2 H2 hx hy s _ Q q => by
    cases hx.toStr; cases hy.toInt
    unfold srepM at hz; split at hz
    · rename_i h; cases hz; exact ⟨x, b, rfl, rfl, mulOk h, q _ F2 H2 .rfl s (.str _)⟩
    · cases hz
theorem d_setLen {xs : List Str} {n : Int} (ha : EvD K ta σ F cs (eL eS xs) cs1) (hn : setLenM xs = some n) : EvD K (tLenSetS K ta) σ F cs (.int n) cs1 := fun F1 H1 g1 s Q q =>
  ha F1 H1 g1 s _ fun v F2 H2 g2 s2 h2 => by
    obtain ⟨p, vs, rfl, hl, hd⟩ := h2.toLst
    cases hd.strs
    unfold setLenM at hn; split at hn
    · rename_i h; cases hn; exact ⟨p, xs, rfl, gr_L s2.fr hl, h, q _ F2 H2 g2 s2 (.int _)⟩
    · cases hn
/-- list(x), x a cell -/
theorem c_listC {l1 l2 : Cs} {i : Nat} {p : Addr} {us : List V} {ds : List PyData} (hi : σ[i]? = some (some (.ref p))) (hd : Dts K F us ds) : EvC K (tCB (rListS K) (tCons (tVar i) tNil)) σ F (l1 ++ (p, .lst us) :: l2) ds (l1 ++ (p, .lst us) :: l2) := fun F1 H1 g1 s Q q =>
  ⟨.ref p, hi, p, us, rfl, .inl (.inl (.inl s.getAt)), fun l nl => q _ _ _ _ .rfl (s.cell nl) (hd.gr g1)⟩
/-- x = y.pop(k), y a cell -/
def popM {α : Type} (xs : List α) (k : Int) : Option (α × List α) := if -(2 ^ 63) ≤ k ∧ k < 2 ^ 63 then (seqIndex? k xs.length).bind fun j => (xs[j]?).map fun x => (x, xs.eraseIdx j) else none
theorem popM_some {α : Type} {xs ys : List α} {k : Int} {x : α} (h : popM xs k = some (x, ys)) : (-(2 ^ 63) ≤ k ∧ k < 2 ^ 63) ∧ ∃ j, seqIndex? k xs.length = some j ∧ xs[j]? = some x ∧ ys = xs.eraseIdx j := by
  unfold popM at h; split at h
  · rename_i q
    refine ⟨q, ?_⟩
    obtain ⟨j, h1, h⟩ := bnd h
    cases e : xs[j]? with
    | none => rw [e] at h; cases h
    | some z => rw [e] at h; cases h; exact ⟨j, h1, e, rfl⟩
  · cases h
theorem er_map {α β : Type} (f : α → β) : ∀ (xs : List α) (j : Nat), (xs.eraseIdx j).map f = (xs.map f).eraseIdx j
  | [], _ => rfl
  | _ :: _, 0 => rfl
  | x :: xs, j + 1 => by simp only [List.eraseIdx_cons_succ, List.map_cons, er_map f xs j]
theorem s_popF {α : Type} {vf : α → V} {en : α → PyData} {l1 l2 : Cs} {i j : Nat} {p : Addr} {xs ys : List α} {x : α} {ti : TE} {k : Int} {σ' : St} (hd : ∀ F x, Dt K F (vf x) (en x)) (s : Sta F (l1 ++ (p, .lst (xs.map vf)) :: l2) H) (hi : σ[i]? = some (some (.ref p)))
    (h2 : EvD K ti σ F (l1 ++ (p, .lst (xs.map vf)) :: l2) (.int k) (l1 ++ (p, .lst (xs.map vf)) :: l2)) (hm : popM xs k = some (x, ys)) (hσ : σ.set j (some (vf x)) = σ') (q : ∀ F2 H2, Gr F F2 → Sta F2 (l1 ++ (p, .lst (ys.map vf)) :: l2) H2 → nx σ' H2) : tAsg (tBM K "list" rPopAt (tVar i) (tCons ti tNil)) (gName j) ⟨nx, rt, bk, ct⟩ σ H := by
  obtain ⟨⟨a1, a2⟩, m, b1, b2, rfl⟩ := popM_some hm
  refine ⟨.ref p, hi, .inl ⟨rfl, _, .inl (.inl s.getAt)⟩, h2 F H .rfl s _ fun w F3 H3 g3 s3 hw => ⟨p, xs.map vf, k, m, vf x, rfl, by cases hw.toInt; rfl, s3.getAt, a1, a2, by rw [List.length_map]; exact b1, by rw [List.getElem?_map, b2]; rfl, ?_⟩⟩
  show nx (σ.set j (some (vf x))) _
  rw [hσ]
  refine q F3 _ g3 ?_
  have s4 := s3.putAt (o' := .lst ((xs.map vf).eraseIdx m))
  rw [er_map]
  exact s4
/-- y.remove(k), y a cell of ints -/
def remM (xs : List Int) (k : Int) : Option (List Int) := if inL k xs = true then some (xs.erase k) else none
theorem rem_at {xs : List Int} {k : Int} (h : inL k xs = true) : ∃ j, xs[j]? = some k ∧ (∀ m : Nat, m < j → xs[m]? ≠ some k) ∧ xs.eraseIdx j = xs.erase k := by
  induction xs with
  | nil => cases h
  | cons y xs ih =>
    by_cases e : y = k
    · subst e
      exact ⟨0, rfl, fun m hm => absurd hm (Nat.not_lt_zero m), by simp⟩
    · have h' : inL k xs = true := by
        unfold inL at h ⊢
        rw [List.any_cons] at h
        have q : (y == k) = false := by simpa using e
        rw [q, Bool.false_or] at h
        exact h
      obtain ⟨j, h1, h2, h3⟩ := ih h'
      refine ⟨j + 1, by simpa using h1, fun m hm => ?_, ?_⟩
      · cases m with
        | zero => simpa using e
        | succ m => simpa using h2 m (by omega)
      · rw [List.eraseIdx_cons_succ, h3, List.erase_cons_tail]
        simpa using e
theorem s_remF {l1 l2 : Cs} {i : Nat} {p : Addr} {xs ys : List Int} {ti : TE} {k : Int} (s : Sta F (l1 ++ (p, .lst (xs.map V.int)) :: l2) H) (hi : σ[i]? = some (some (.ref p)))
    (h2 : EvD K ti σ F (l1 ++ (p, .lst (xs.map V.int)) :: l2) (.int k) (l1 ++ (p, .lst (xs.map V.int)) :: l2)) (hm : remM xs k = some ys) (q : ∀ F2 H2, Gr F F2 → Sta F2 (l1 ++ (p, .lst (ys.map V.int)) :: l2) H2 → nx σ H2) : tDrop (tBM K "list" rRemI (tVar i) (tCons ti tNil)) ⟨nx, rt, bk, ct⟩ σ H := by
  unfold remM at hm; split at hm
  · rename_i hin
    cases hm
    obtain ⟨j, e1, e2, e3⟩ := rem_at hin
    refine ⟨.ref p, hi, .inl ⟨rfl, _, .inl (.inl s.getAt)⟩, h2 F H .rfl s _ fun w F3 H3 g3 s3 hw => ⟨p, xs, k, j, rfl, by cases hw.toInt; rfl, s3.getAt, e1, e2, q F3 _ g3 ?_⟩⟩
    rw [e3]
    exact s3.putAt
  · cases hm
theorem d_isV {w : V} (hw : ∀ F v, Dt K F v d → v = w) (ha : EvD K ta σ F cs d cs1) : EvD K (tOp rIsN ta (tC .non)) σ F cs (.bool (decide (w = V.non))) cs1 := fun F1 H1 g1 s Q q =>
  ha F1 H1 g1 s _ fun v F2 H2 g2 s2 h2 => ⟨rfl, by cases hw F2 v h2; exact q _ F2 H2 g2 s2 (.bl _)⟩
theorem d_nisV {w : V} (hw : ∀ F v, Dt K F v d → v = w) (ha : EvD K ta σ F cs d cs1) : EvD K (tOp rNotN ta (tC .non)) σ F cs (.bool (!decide (w = V.non))) cs1 := fun F1 H1 g1 s Q q =>
  ha F1 H1 g1 s _ fun v F2 H2 g2 s2 h2 => ⟨rfl, by cases hw F2 v h2; exact q _ F2 H2 g2 s2 (.bl _)⟩
theorem d_isN (ha : EvD K ta σ F cs PyData.none cs1) : EvD K (tOp rIsN ta (tC .non)) σ F cs (.bool true) cs1 := d_isV (fun _ _ h => Dt.toNon h) ha
theorem d_nisN (ha : EvD K ta σ F cs PyData.none cs1) : EvD K (tOp rNotN ta (tC .non)) σ F cs (.bool false) cs1 := d_nisV (fun _ _ h => Dt.toNon h) ha
theorem d_isOI {o : Option Int} (ha : EvD K ta σ F cs (eO eI o) cs1) : EvD K (tOp rIsN ta (tC .non)) σ F cs (.bool o.isNone) cs1 := d_is (d_isV (fun _ _ h => dt_toI h) ha) (by cases o <;> rfl)
theorem d_nisOI {o : Option Int} (ha : EvD K ta σ F cs (eO eI o) cs1) : EvD K (tOp rNotN ta (tC .non)) σ F cs (.bool (!o.isNone)) cs1 := d_is (d_nisV (fun _ _ h => dt_toI h) ha) (by cases o <;> rfl)
end
end Bw
theorem Bw.sta0 {H : L2.Hp} : Bw.Sta H [] H := ⟨fun _ _ e => e, by simp, by simp, by simp⟩

namespace Bw
open PySem L2
/-! expressions that change cells -/
section
variable {K : PySem.W.Frag} {σ : St} {F F' : Hp} {cs cs1 cs2 cs3 : Cs} {ta tb tc te : TE} {d e : PyData} {as : TA} {a b c : Int} {nx bk ct : St → Hp → Prop} {rt : VK} {H : Hp} {t u : TS}
theorem d_lendX {l1 l2 m1 m2 : Cs} {p : Addr} {o : HO} {w : V} (hw : ∀ F v, Dt K F v d → v = w) (hd : ∀ F, Dt K F w d) (h : ∀ F1, Gr F F1 → F1 p = none → EvD K te σ (upd F1 p o) (l1 ++ l2) d (m1 ++ m2)) : EvD K te σ F (l1 ++ (p, o) :: l2) d (m1 ++ (p, o) :: m2) := fun F1 H1 g1 s Q q => by
  refine h F1 g1 s.freeAt (upd F1 p o) H1 .rfl s.frozeAt Q fun v F2 H2 g2 s2 h2 => ?_
  cases hw F2 v h2
  exact q w (cut F2 p) H2 (gr_cut s.freeAt g2) (Sta.lent g2 s2) (hd _)
theorem t_lendX {l1 l2 m1 m2 : Cs} {p : Addr} {o : HO} {t : TT} {b : Bool} (h : ∀ F1, Gr F F1 → F1 p = none → EvT t σ (upd F1 p o) (l1 ++ l2) b (m1 ++ m2)) : EvT t σ F (l1 ++ (p, o) :: l2) b (m1 ++ (p, o) :: m2) := fun F1 H1 g1 s Q q => by
  refine h F1 g1 s.freeAt (upd F1 p o) H1 .rfl s.frozeAt Q fun F2 H2 g2 s2 => ?_
  exact q (cut F2 p) H2 (gr_cut s.freeAt g2) (Sta.lent g2 s2)
/-! functions that change cells -/
inductive Ar where
  | d (x : PyData)
  | c (us : List V)
inductive ArgR (K : PySem.W.Frag) (F : Hp) : List V → List Ar → Cs → Prop
  | nil : ArgR K F [] [] []
  | d {v : V} {x : PyData} {vs : List V} {as : List Ar} {cs : Cs} : Dt K F v x → ArgR K F vs as cs → ArgR K F (v :: vs) (.d x :: as) cs
  | c {p : Addr} {us : List V} {vs : List V} {as : List Ar} {cs : Cs} : ArgR K F vs as cs → ArgR K F (.ref p :: vs) (.c us :: as) ((p, .lst us) :: cs)
theorem ArgR.no {vs : List V} {cs : Cs} (h : ArgR K F vs [] cs) : vs = [] ∧ cs = [] := by cases h; exact ⟨rfl, rfl⟩
theorem ArgR.hd {vs : List V} {x : PyData} {as : List Ar} {cs : Cs} (h : ArgR K F vs (.d x :: as) cs) : ∃ v ws, vs = v :: ws ∧ Dt K F v x ∧ ArgR K F ws as cs := by
  cases h with | d h t => exact ⟨_, _, rfl, h, t⟩
theorem ArgR.hc {vs : List V} {us : List V} {as : List Ar} {cs : Cs} (h : ArgR K F vs (.c us :: as) cs) : ∃ p ws cs', vs = .ref p :: ws ∧ cs = (p, .lst us) :: cs' ∧ ArgR K F ws as cs' := by
  cases h with | c t => exact ⟨_, _, _, rfl, rfl, t⟩
theorem ArgR.len : ∀ {vs : List V} {as : List Ar} {cs : Cs}, ArgR K F vs as cs → vs.length = as.length
  | _, _, _, .nil => rfl
  | _, _, _, .d _ t => by rw [List.length_cons, List.length_cons, t.len]
  | _, _, _, .c t => by rw [List.length_cons, List.length_cons, t.len]
def upC : Cs → List (List V) → Cs
  | c :: cs, us :: uss => (c.1, .lst us) :: upC cs uss
  | _, _ => []
def spC (K : PySem.W.Frag) {α β : Type} (A : α → List Ar) (B : β → PyData) (C : β → List (List V)) (f : α → Option β) : Sp := fun vs H Q _ => ∃ F cc cs x y, ArgR K F vs (A x) cc ∧ Sta F (cc ++ cs) H ∧ f x = some y ∧ ∀ v F2 H2, Gr F F2 → Sta F2 (upC cc (C y) ++ cs) H2 → Dt K F2 v (B y) → Q v H2
def EvR (K : PySem.W.Frag) (ta : TA) (σ : St) (F : Hp) (cs : Cs) (as : List Ar) (cc : Cs) (cs' : Cs) : Prop := EvA ta σ F cs (fun vs F' => ArgR K F' vs as cc) cs'
theorem ArgR.gr (g : Gr F F') : ∀ {vs : List V} {as : List Ar} {cs : Cs}, ArgR K F vs as cs → ArgR K F' vs as cs
  | _, _, _, .nil => .nil
  | _, _, _, .d h t => .d (h.gr g) (t.gr g)
  | _, _, _, .c t => .c (t.gr g)
theorem r_nil : EvR K tNil σ F cs [] [] cs := fun F1 H1 g s Q q => q _ F1 H1 .rfl s .nil
theorem r_d {xs : List Ar} {cc : Cs} (h : EvD K te σ F cs d cs1) (h2 : EvR K as σ F cs1 xs cc cs2) : EvR K (tCons te as) σ F cs (.d d :: xs) cc cs2 := fun F1 H1 g1 s Q q =>
  h F1 H1 g1 s _ fun v F2 H2 g2 s2 hv => h2 F2 H2 (g1.tr g2) s2 _ fun vs F3 H3 g3 s3 hvs => q _ F3 H3 (g2.tr g3) s3 (.d (hv.gr g3) hvs)
theorem r_c {xs : List Ar} {cc : Cs} {i : Nat} {p : Addr} {us : List V} (hi : σ[i]? = some (some (.ref p))) (h2 : EvR K as σ F cs xs cc cs2) : EvR K (tCons (tVar i) as) σ F cs (.c us :: xs) ((p, .lst us) :: cc) cs2 := fun F1 H1 g1 s Q q =>
  ⟨.ref p, hi, h2 F1 H1 g1 s _ fun vs F3 H3 g3 s3 hvs => q _ F3 H3 g3 s3 (.c hvs)⟩
theorem d_callC {α β : Type} {A : α → List Ar} {B : β → PyData} {C : β → List (List V)} {f : α → Option β} {x : α} {y : β} {E : XK} {cc cs' : Cs} (h : EvR K as σ F cs (A x) cc cs1) (hp : cs1.Perm (cc ++ cs')) (hf : f x = some y) (hq : (upC cc (C y) ++ cs').Perm cs2) : EvD K (tCall (spC K A B C f) [] E as) σ F cs (B y) cs2 := fun F1 H1 g1 s Q q =>
  h F1 H1 g1 s _ fun vs F2 H2 g2 s2 h2 => ⟨F2, cc, cs', x, y, by rw [List.append_nil]; exact h2, s2.perm hp, hf, fun v F3 H3 g3 s3 h3 => q v F3 H3 (g2.tr g3) (s3.perm hq) h3⟩
/-! comprehensions whose elements change cells -/
def lcS {S α β : Type} (f : S → α → Option (S × Option β)) : S → List α → Option (S × List β)
  | s, [] => some (s, [])
  | s, x :: xs => (f s x).bind fun p => (lcS f p.1 xs).bind fun q => some (q.1, match p.2 with
    | some y => y :: q.2
    | none => q.2)
def lcSC {S α β : Type} (f : S → α → Option (S × Option β)) (s : S) (xs : List α) : Option (S × List β) := if xs.length ≤ 100000 then lcS f s xs else none
theorem c_lcS {S α β : Type} {wi : TI} {g : TG} {tt : TT} {vs : List Nat} {xs : List α} {en : α → PyData} {em : β → PyData} {f : S → α → Option (S × Option β)} {ys : List β} {s0 s1 : S} (cc : S → Cs)
    (hi : EvI K wi σ F cs (xs.map en) (cc s0)) (hm : lcSC f s0 xs = some (s1, ys))
    (turn : ∀ x z z' o v F1 p us, Gr F F1 → Dt K F1 v (en x) → f z x = some (z', o) → ∃ σ2 : St, (∀ H (Q : St → Hp → Prop), Sta F1 ((p, .lst us) :: cc z) H → Q σ2 H → g v (wipe σ vs) H Q) ∧ wipe σ2 vs = wipe σ vs ∧
      EvT tt σ2 F1 ((p, .lst us) :: cc z) o.isSome ((p, .lst us) :: cc z) ∧ (o = none → z' = z) ∧ ∀ y, o = some y → EvD K te σ2 F1 ((p, .lst us) :: cc z) (em y) ((p, .lst us) :: cc z')) :
    EvC K (tLc wi g tt te vs) σ F cs (ys.map em) (cc s1) := fun F1 H1 g1 s Q q => by
  unfold lcSC at hm
  split at hm
  case isFalse => cases hm
  rename_i hl
  refine hi F1 H1 g1 s _ fun J F2 H2 g2 s2 hs => ?_
  intro p hp
  have s3 : Sta F2 ((p, .lst []) :: cc s0) (upd H2 p (.lst [])) := s2.cell hp
  refine ⟨fun i m H4 => m = xs.length - i ∧ i ≤ xs.length ∧ ∃ us done rest z F4, us.length ≤ i ∧ Gr F2 F4 ∧ Sta F4 ((p, .lst us) :: cc z) H4 ∧ Dts K F4 us (done.map em) ∧ lcS f z (xs.drop i) = some (s1, rest) ∧ done ++ rest = ys,
    ⟨xs.length, by simp, Nat.zero_le _, [], [], ys, s0, F2, Nat.le_refl _, .rfl, s3, .nil, by simpa using hm, rfl⟩, ?_⟩
  rintro i m H4 ⟨rfl, hi, us, done, rest, z, F4, hu, g4, s4, hd, hr, he⟩
  obtain ⟨hgo, hstop, hy⟩ := hs F4 _ H4 g4 s4
  by_cases hlt : i < xs.length
  · rw [List.drop_eq_getElem_cons hlt] at hr
    obtain ⟨⟨z', o⟩, ho, hr⟩ := bnd (show (f z xs[i]).bind _ = some (s1, rest) from hr)
    obtain ⟨⟨s1', zs⟩, hz, hr⟩ := bnd hr
    dsimp only at hz hr
    refine .inr ⟨hgo i (by simpa using hlt), fun H' => i + 1 ≤ xs.length ∧ ∃ us done rest z F4, us.length ≤ i + 1 ∧ Gr F2 F4 ∧ Sta F4 ((p, .lst us) :: cc z) H' ∧ Dts K F4 us (done.map em) ∧ lcS f z (xs.drop (i + 1)) = some (s1, rest) ∧ done ++ rest = ys, fun H' h' => ⟨xs.length - (i + 1), by omega, rfl, h'⟩, fun x H' y => ?_⟩
    obtain ⟨F5, g5, s5, d5⟩ := hy i x H' (en xs[i]) (by rw [List.getElem?_map, List.getElem?_eq_getElem hlt]; rfl) y
    obtain ⟨σ2, h1, h2, h3, hn, h4⟩ := turn xs[i] z z' o x F5 p us (g1.tr (g2.tr (g4.tr g5))) d5 ho
    refine h1 H' _ s5 ⟨h2, h3 F5 H' .rfl s5 _ fun F6 H6 g6 s6 => ?_⟩
    cases o with
    | none =>
      cases hr
      cases hn rfl
      exact ⟨hlt, us, done, zs, z, F6, Nat.le_succ_of_le hu, g4.tr (g5.tr g6), s6, hd.gr (g5.tr g6), hz, he⟩
    | some y1 =>
      cases hr
      refine (h4 y1 rfl) F6 H6 g6 s6 _ fun v F7 H7 g7 s7 hv => ⟨us, s7.at List.mem_cons_self, szl (by omega), hlt, us ++ [v], done ++ [y1], zs, z', F7, by rw [List.length_append]; exact Nat.succ_le_succ hu, g4.tr (g5.tr (g6.tr g7)), s7.put, ?_, hz, ?_⟩
      · rw [List.map_append]
        exact (hd.gr (g5.tr (g6.tr g7))).app (.cons hv .nil)
      · rw [List.append_assoc]; exact he
  · have e : i = xs.length := by omega
    subst e
    rw [List.drop_length] at hr
    cases hr
    rw [List.append_nil] at he
    subst he
    exact .inl ⟨by simpa using hstop, q p us F4 H4 (g2.tr g4) s4 hd⟩
/-! changes of a cell, where the values change other cells -/
theorem s_appX {k1 k2 l1 l2 : Cs} {i : Nat} {p : Addr} {vs : List V} (s : Sta F (k1 ++ (p, .lst vs) :: k2) H) (hi : σ[i]? = some (some (.ref p))) (h : EvD K te σ F (k1 ++ (p, .lst vs) :: k2) d (l1 ++ (p, .lst vs) :: l2)) (hl : vs.length < 100000)
    (q : ∀ v F2 H2, Gr F F2 → Sta F2 (l1 ++ (p, .lst (vs ++ [v])) :: l2) H2 → Dt K F2 v d → nx σ H2) : tDrop (tBM K "list" rAppend (tVar i) (tCons te tNil)) ⟨nx, rt, bk, ct⟩ σ H :=
  ⟨.ref p, hi, .inl ⟨rfl, _, .inl (.inl s.getAt)⟩, h F H .rfl s _ fun v F2 H2 g2 s2 h2 => ⟨p, vs, v, rfl, rfl, s2.getAt, szl hl, q v F2 _ g2 s2.putAt h2⟩⟩
theorem s_appFX {α : Type} {vf : α → V} {en : α → PyData} {k1 k2 l1 l2 : Cs} {i : Nat} {p : Addr} {xs ys : List α} {x : α} (hw : ∀ F v x, Dt K F v (en x) → v = vf x) (s : Sta F (k1 ++ (p, .lst (xs.map vf)) :: k2) H) (hi : σ[i]? = some (some (.ref p))) (h : EvD K te σ F (k1 ++ (p, .lst (xs.map vf)) :: k2) (en x) (l1 ++ (p, .lst (xs.map vf)) :: l2)) (hm : appM xs x = some ys)
    (q : ∀ F2 H2, Gr F F2 → Sta F2 (l1 ++ (p, .lst (ys.map vf)) :: l2) H2 → nx σ H2) : tDrop (tBM K "list" rAppend (tVar i) (tCons te tNil)) ⟨nx, rt, bk, ct⟩ σ H := by
  obtain ⟨hl, rfl⟩ := appM_some hm
  refine s_appX s hi h (by rw [List.length_map]; exact hl) fun v F2 H2 g2 s2 h2 => q F2 H2 g2 ?_
  cases hw F2 v x h2
  rw [List.map_append]; exact s2
theorem s_appGX {α : Type} {en : α → PyData} {k1 k2 l1 l2 : Cs} {i : Nat} {p : Addr} {vs : List V} {xs ys : List α} {x : α} (s : Sta F (k1 ++ (p, .lst vs) :: k2) H) (hf : Dts K F vs (xs.map en)) (hi : σ[i]? = some (some (.ref p))) (h : EvD K te σ F (k1 ++ (p, .lst vs) :: k2) (en x) (l1 ++ (p, .lst vs) :: l2)) (hm : appM xs x = some ys)
    (q : ∀ us F2 H2, Gr F F2 → Sta F2 (l1 ++ (p, .lst us) :: l2) H2 → Dts K F2 us (ys.map en) → nx σ H2) : tDrop (tBM K "list" rAppend (tVar i) (tCons te tNil)) ⟨nx, rt, bk, ct⟩ σ H := by
  obtain ⟨hl, rfl⟩ := appM_some hm
  refine s_appX s hi h (by rw [hf.len, List.length_map]; exact hl) fun v F2 H2 g2 s2 h2 => q _ F2 H2 g2 s2 ?_
  rw [List.map_append]; exact (hf.gr g2).app (.cons h2 .nil)
theorem s_itemX {k1 k2 m1 m2 l1 l2 : Cs} {i : Nat} {p : Addr} {vs : List V} {ti : TE} {k : Int} {j : Nat} (s : Sta F (k1 ++ (p, .lst vs) :: k2) H) (hi : σ[i]? = some (some (.ref p))) (h : EvD K te σ F (k1 ++ (p, .lst vs) :: k2) d (m1 ++ (p, .lst vs) :: m2))
    (h2 : EvD K ti σ F (m1 ++ (p, .lst vs) :: m2) (.int k) (l1 ++ (p, .lst vs) :: l2)) (hj : ixN vs.length k = some j) (q : ∀ v F2 H2, Gr F F2 → Sta F2 (l1 ++ (p, .lst (vs.set j v)) :: l2) H2 → Dt K F2 v d → nx σ H2) : tAsg te (gSub (tVar i) ti rSetL) ⟨nx, rt, bk, ct⟩ σ H :=
  h F H .rfl s _ fun v F2 H2 g2 s2 hv => ⟨.ref p, hi, h2 F2 H2 g2 s2 _ fun w F3 H3 g3 s3 hw => ⟨p, vs, k, j, rfl, hw.toInt, s3.getAt, hj, q v F3 _ (g2.tr g3) s3.putAt (hv.gr g3)⟩⟩
theorem s_itemFX {α : Type} {vf : α → V} {en : α → PyData} {k1 k2 m1 m2 l1 l2 : Cs} {i : Nat} {p : Addr} {xs ys : List α} {x : α} {ti : TE} {k : Int} (hw : ∀ F v x, Dt K F v (en x) → v = vf x) (s : Sta F (k1 ++ (p, .lst (xs.map vf)) :: k2) H) (hi : σ[i]? = some (some (.ref p))) (h : EvD K te σ F (k1 ++ (p, .lst (xs.map vf)) :: k2) (en x) (m1 ++ (p, .lst (xs.map vf)) :: m2))
    (h2 : EvD K ti σ F (m1 ++ (p, .lst (xs.map vf)) :: m2) (.int k) (l1 ++ (p, .lst (xs.map vf)) :: l2)) (hm : setM xs k x = some ys) (q : ∀ F2 H2, Gr F F2 → Sta F2 (l1 ++ (p, .lst (ys.map vf)) :: l2) H2 → nx σ H2) : tAsg te (gSub (tVar i) ti rSetL) ⟨nx, rt, bk, ct⟩ σ H := by
  obtain ⟨j, hj, rfl⟩ := setM_some hm
  refine s_itemX (j := j) s hi h h2 (by rw [List.length_map]; exact hj) fun v F2 H2 g2 s2 hv => q F2 H2 g2 ?_
  cases hw F2 v x hv
  rw [List.map_set]; exact s2
theorem s_itemGX {α : Type} {en : α → PyData} {k1 k2 m1 m2 l1 l2 : Cs} {i : Nat} {p : Addr} {vs : List V} {xs ys : List α} {x : α} {ti : TE} {k : Int} (s : Sta F (k1 ++ (p, .lst vs) :: k2) H) (hf : Dts K F vs (xs.map en)) (hi : σ[i]? = some (some (.ref p))) (h : EvD K te σ F (k1 ++ (p, .lst vs) :: k2) (en x) (m1 ++ (p, .lst vs) :: m2))
    (h2 : EvD K ti σ F (m1 ++ (p, .lst vs) :: m2) (.int k) (l1 ++ (p, .lst vs) :: l2)) (hm : setM xs k x = some ys) (q : ∀ us F2 H2, Gr F F2 → Sta F2 (l1 ++ (p, .lst us) :: l2) H2 → Dts K F2 us (ys.map en) → nx σ H2) : tAsg te (gSub (tVar i) ti rSetL) ⟨nx, rt, bk, ct⟩ σ H := by
  obtain ⟨j, hj, rfl⟩ := setM_some hm
  refine s_itemX (j := j) s hi h h2 (by rw [hf.len, List.length_map]; exact hj) fun v F2 H2 g2 s2 hv => q _ F2 H2 g2 s2 ?_
  rw [List.map_set]; exact (hf.gr g2).setAt j hv
end
end Bw
namespace Bw
open PySem L2
section
variable {K : PySem.W.Frag} {σ : St} {F F' : Hp} {cs cs1 cs2 cs3 : Cs} {ta tb tc te : TE} {d e : PyData} {as : TA} {a b c : Int} {nx bk ct : St → Hp → Prop} {rt : VK} {H : Hp} {t u : TS}
theorem s_augI {i : Nat} {σ' : St} {w b : Int} {f : Int → Int → Int} (hx : σ[i]? = some (some (.int w))) (s : Sta F cs H) (h : EvD K te σ F cs (.int b) cs1) (hσ : σ.set i (some (.int (f w b))) = σ') (q : ∀ F2 H2, Gr F F2 → Sta F2 cs1 H2 → nx σ' H2) : tAug i te (ipI f) ⟨nx, rt, bk, ct⟩ σ H :=
  ⟨.int w, hx, h F H .rfl s _ fun v F2 H2 g2 s2 h2 => ⟨w, b, rfl, h2.toInt, by show nx (σ.set i (some (.int (f w b)))) H2; rw [hσ]; exact q F2 H2 g2 s2⟩⟩
def rGetL (K : PySem.W.Frag) : V → V → Hp → VK → Prop := rIxL K
/-- o[i] op= e, o a cell of ints -/
theorem s_augS {k1 k2 m1 m2 l1 l2 : Cs} {i : Nat} {p : Addr} {xs ys : List Int} {ti : TE} {k w b : Int} {f : Int → Int → Int} (s : Sta F (k1 ++ (p, .lst (xs.map V.int)) :: k2) H) (hi : σ[i]? = some (some (.ref p))) (h1 : EvD K ti σ F (k1 ++ (p, .lst (xs.map V.int)) :: k2) (.int k) (m1 ++ (p, .lst (xs.map V.int)) :: m2)) (hg : atI xs k = some w)
    (h2 : EvD K te σ F (m1 ++ (p, .lst (xs.map V.int)) :: m2) (.int b) (l1 ++ (p, .lst (xs.map V.int)) :: l2)) (hm : setM xs k (f w b) = some ys) (q : ∀ F2 H2, Gr F F2 → Sta F2 (l1 ++ (p, .lst (ys.map V.int)) :: l2) H2 → nx σ H2) : tAugS (tVar i) ti te (rIxL K) (ipI f) rSetL ⟨nx, rt, bk, ct⟩ σ H := by
  obtain ⟨j, hj, rfl⟩ := setM_some hm
  refine ⟨.ref p, hi, h1 F H .rfl s _ fun v F2 H2 g2 s2 hv => ⟨p, xs.map V.int, k, .int w, rfl, hv.toInt, .inl (.inl s2.getAt), by rw [atI_map, hg]; rfl, h2 F2 H2 g2 s2 _ fun y F3 H3 g3 s3 hy => ⟨w, b, rfl, hy.toInt, p, xs.map V.int, k, j, rfl, hv.toInt, s3.getAt, by rw [List.length_map]; exact hj, q F3 _ (g2.tr g3) ?_⟩⟩⟩
  rw [List.map_set]; exact s3.putAt
theorem s_popFX {α : Type} {vf : α → V} {en : α → PyData} {k1 k2 l1 l2 : Cs} {i j : Nat} {p : Addr} {xs ys : List α} {x : α} {ti : TE} {k : Int} {σ' : St} (hd : ∀ F x, Dt K F (vf x) (en x)) (s : Sta F (k1 ++ (p, .lst (xs.map vf)) :: k2) H) (hi : σ[i]? = some (some (.ref p)))
    (h2 : EvD K ti σ F (k1 ++ (p, .lst (xs.map vf)) :: k2) (.int k) (l1 ++ (p, .lst (xs.map vf)) :: l2)) (hm : popM xs k = some (x, ys)) (hσ : σ.set j (some (vf x)) = σ') (q : ∀ F2 H2, Gr F F2 → Sta F2 (l1 ++ (p, .lst (ys.map vf)) :: l2) H2 → nx σ' H2) : tAsg (tBM K "list" rPopAt (tVar i) (tCons ti tNil)) (gName j) ⟨nx, rt, bk, ct⟩ σ H := by
  obtain ⟨⟨a1, a2⟩, m, b1, b2, rfl⟩ := popM_some hm
  refine ⟨.ref p, hi, .inl ⟨rfl, _, .inl (.inl s.getAt)⟩, h2 F H .rfl s _ fun w F3 H3 g3 s3 hw => ⟨p, xs.map vf, k, m, vf x, rfl, by cases hw.toInt; rfl, s3.getAt, a1, a2, by rw [List.length_map]; exact b1, by rw [List.getElem?_map, b2]; rfl, ?_⟩⟩
  show nx (σ.set j (some (vf x))) _
  rw [hσ]
  refine q F3 _ g3 ?_
  have s4 := s3.putAt (o' := .lst ((xs.map vf).eraseIdx m))
  rw [er_map]
  exact s4
theorem s_remFX {k1 k2 l1 l2 : Cs} {i : Nat} {p : Addr} {xs ys : List Int} {ti : TE} {k : Int} (s : Sta F (k1 ++ (p, .lst (xs.map V.int)) :: k2) H) (hi : σ[i]? = some (some (.ref p)))
    (h2 : EvD K ti σ F (k1 ++ (p, .lst (xs.map V.int)) :: k2) (.int k) (l1 ++ (p, .lst (xs.map V.int)) :: l2)) (hm : remM xs k = some ys) (q : ∀ F2 H2, Gr F F2 → Sta F2 (l1 ++ (p, .lst (ys.map V.int)) :: l2) H2 → nx σ H2) : tDrop (tBM K "list" rRemI (tVar i) (tCons ti tNil)) ⟨nx, rt, bk, ct⟩ σ H := by
  unfold remM at hm; split at hm
  · rename_i hin
    cases hm
    obtain ⟨j, e1, e2, e3⟩ := rem_at hin
    refine ⟨.ref p, hi, .inl ⟨rfl, _, .inl (.inl s.getAt)⟩, h2 F H .rfl s _ fun w F3 H3 g3 s3 hw => ⟨p, xs, k, j, rfl, by cases hw.toInt; rfl, s3.getAt, e1, e2, q F3 _ g3 ?_⟩⟩
    rw [e3]
    exact s3.putAt
  · cases hm
/-! f-strings -/
def EvJ (K : PySem.W.Frag) (ts : List TE) (σ : St) (F : Hp) (cs : Cs) (acc out : Str) (cs' : Cs) : Prop :=
  ∀ F1 H1, Gr F F1 → Sta F1 cs H1 → ∀ Q : Str → Hp → Prop, (∀ F2 H2, Gr F1 F2 → Sta F2 cs' H2 → Q out H2) → tJs ts acc σ H1 Q
theorem j_nil {acc : Str} : EvJ K [] σ F cs acc acc cs := fun F1 H1 g s Q q => q F1 H1 .rfl s
theorem j_cons {acc x y out : Str} {ts : List TE} (h : EvD K te σ F cs (.str x) cs1) (hy : scatM acc x = some y) (h2 : EvJ K ts σ F cs1 y out cs2) : EvJ K (te :: ts) σ F cs acc out cs2 := fun F1 H1 g1 s Q q =>
  h F1 H1 g1 s _ fun v F2 H2 g2 s2 hv => by
    obtain ⟨hl, rfl⟩ := scatM_some hy
    refine ⟨x, hv.toStr, ?_, h2 F2 H2 (g1.tr g2) s2 Q fun F3 H3 g3 s3 => q F3 H3 (g2.tr g3) s3⟩
    rw [TL.len_tl, TL.tl_append, List.length_append, ← TL.len_tl, ← TL.len_tl]
    exact sz hl
theorem d_fstr {ts : List TE} {out : Str} (h : EvJ K ts σ F cs Str.empty out cs1) : EvD K (fun σ H Q => tJs ts Str.empty σ H fun out H1 => Q (.str out) H1) σ F cs (.str out) cs1 := fun F1 H1 g1 s Q q =>
  h F1 H1 g1 s _ fun F2 H2 g2 s2 => q _ F2 H2 g2 s2 (.str _)
theorem d_fmtS {x : Str} (h : EvD K te σ F cs (.str x) cs1) (hl : lenS x = some a) : EvD K (tFmt te) σ F cs (.str x) cs1 := fun F1 H1 g1 s Q q =>
  h F1 H1 g1 s _ fun v F2 H2 g2 s2 hv => .inl ⟨x, hv.toStr, sz (lenS_some hl).1, q _ F2 H2 g2 s2 (.str _)⟩
theorem d_fmtI {x : Str} (h : EvD K te σ F cs (.int a) cs1) (hn : strM a = some x) : EvD K (tFmt te) σ F cs (.str x) cs1 := fun F1 H1 g1 s Q q =>
  h F1 H1 g1 s _ fun v F2 H2 g2 s2 hv => by
    obtain ⟨h1, rfl⟩ := strM_some hn
    exact .inr ⟨a, hv.toInt, h1, q _ F2 H2 g2 s2 (.str _)⟩
end
end Bw
namespace Bw
open PySem L2
theorem get_list {X : Cx} : PGet X (rIxL X.K) := by
  intro pins s σ H x y v u Q I rx ry h
  obtain ⟨p, xs, i, z, rfl, rfl, hq, he, q⟩ := h
  cases rx
  obtain ⟨t, rfl⟩ := ry
  obtain ⟨its, r, pl, hz⟩ := I.list hq
  obtain ⟨j, h1, h2, h3, h4, h5⟩ := atI_get he
  obtain ⟨w, ew, rw'⟩ := r.get h2
  have hl := r.length
  have hn := line63
  have fin : EP X pins σ Q w s := ⟨z, H, I, rw', q⟩
  by_cases h0 : 0 ≤ i
  · have hj : i.toNat = j := by
      rw [seqIndex_of h0 h5] at h1
      exact Option.some.inj h1
    exact wpAny_getItem_list pl.isList h0 (by omega) (by rw [hj]; simpa using ew) fin
  · have hj : (i + (its.toArray.size : Int)).toNat = j := by
      rw [seqIndex_neg (by omega) h4] at h1
      rw [List.size_toArray, ← hl]
      exact Option.some.inj h1
    exact wpAny_getItem_list_neg pl.isList (by omega) (by rw [List.size_toArray] <;> omega) (by omega) (by rw [hj]; simpa using ew) fin
end Bw
namespace Bw
open PySem L2
section
variable {K : PySem.W.Frag} {σ : St} {F F' : Hp} {cs cs1 cs2 cs3 : Cs} {ta tb tc te : TE} {d e : PyData} {as : TA} {a b c : Int} {nx bk ct : St → Hp → Prop} {rt : VK} {H : Hp} {t u : TS}
/-! what keeps the state true: another order, fewer cells -/
def Sb (c c' : Cs) : Prop := ∀ F H, Sta F c H → Sta F c' H
theorem sb_rfl : Sb cs cs := fun _ _ s => s
theorem sb_perm (p : cs.Perm cs1) : Sb cs cs1 := fun _ _ s => s.perm p
theorem sb_drop {c : Addr × HO} : Sb (c :: cs) cs := fun F H s => ⟨s.fr, fun p hp => s.sep p (List.mem_cons_of_mem _ hp), fun p hp => s.has p (List.mem_cons_of_mem _ hp), by have := s.nd; rw [List.map_cons, List.nodup_cons] at this; exact this.2⟩
theorem Sb.tr (h : Sb cs cs1) (k : Sb cs1 cs2) : Sb cs cs2 := fun F H s => k F H (h F H s)
/-- a function that changes cells, and tells data -/
theorem d_callX {α β : Type} {A : α → List Ar} {B : β → PyData} {C : β → List (List V)} {f : α → Option β} {x : α} {y : β} {E : XK} {cc cs' : Cs} (h : EvR K as σ F cs (A x) cc cs1) (hp : Sb cs1 (cc ++ cs')) (hf : f x = some y) (hq : Sb (upC cc (C y) ++ cs') cs2) : EvD K (tCall (spC K A B C f) [] E as) σ F cs (B y) cs2 := fun F1 H1 g1 s Q q =>
  h F1 H1 g1 s _ fun vs F2 H2 g2 s2 h2 => ⟨F2, cc, cs', x, y, by rw [List.append_nil]; exact h2, hp _ _ s2, hf, fun v F3 H3 g3 s3 h3 => q v F3 H3 (g2.tr g3) (hq _ _ s3) h3⟩
/-- .. that tells a new list -/
def spF (K : PySem.W.Frag) {α β : Type} (A : α → List Ar) (B : β → List PyData) (C : β → List (List V)) (f : α → Option β) : Sp := fun vs H Q _ => ∃ F cc cs x y, ArgR K F vs (A x) cc ∧ Sta F (cc ++ cs) H ∧ f x = some y ∧ ∀ p us F2 H2, Gr F F2 → Sta F2 ((p, .lst us) :: (upC cc (C y) ++ cs)) H2 → Dts K F2 us (B y) → Q (.ref p) H2
theorem c_callX {α β : Type} {A : α → List Ar} {B : β → List PyData} {C : β → List (List V)} {f : α → Option β} {x : α} {y : β} {E : XK} {cc cs' : Cs} (h : EvR K as σ F cs (A x) cc cs1) (hp : Sb cs1 (cc ++ cs')) (hf : f x = some y) (hq : ∀ z, Sb (z :: (upC cc (C y) ++ cs')) (z :: cs2)) : EvC K (tCall (spF K A B C f) [] E as) σ F cs (B y) cs2 := fun F1 H1 g1 s Q q =>
  h F1 H1 g1 s _ fun vs F2 H2 g2 s2 h2 => ⟨F2, cc, cs', x, y, by rw [List.append_nil]; exact h2, hp _ _ s2, hf, fun p us F3 H3 g3 s3 h3 => q p us F3 H3 (g2.tr g3) (hq _ _ _ s3) h3⟩
/-- an argument that is a new list of flat things -/
theorem r_n {xs : List Ar} {cc : Cs} {ds : List PyData} {us : List V} (h : EvC K te σ F cs ds cs1) (hu : ∀ F vs, Dts K F vs ds → vs = us) (h2 : ∀ p, EvR K as σ F ((p, .lst us) :: cs1) xs cc cs2) : True := trivial
theorem s_retC {ds : List PyData} (s : Sta F cs H) (h : EvC K te σ F cs ds cs1) (q : ∀ p us F2 H2, Gr F F2 → Sta F2 ((p, .lst us) :: cs1) H2 → Dts K F2 us ds → rt (.ref p) H2) : tRet te ⟨nx, rt, bk, ct⟩ σ H := h F H .rfl s _ q
theorem s_retV {i : Nat} {v : V} (hi : σ[i]? = some (some v)) (q : rt v H) : tRet (tVar i) ⟨nx, rt, bk, ct⟩ σ H := ⟨v, hi, q⟩
def fuel : Nat := 100000
end
end Bw
namespace Bw
open PySem L2
section
variable {K : PySem.W.Frag} {σ : St} {F F' : Hp} {cs cs1 cs2 cs3 : Cs} {ta tb tc te : TE} {d e : PyData} {as : TA}
/-- the first argument is a new list of flat things, which nobody keeps -/
theorem d_callN {α β : Type} {A : α → List Ar} {B : β → PyData} {C : β → List (List V)} {f : α → Option β} {x : α} {y : β} {E : XK} {cc cs' : Cs} {ds : List PyData} {us : List V} {xs : List Ar} (h : EvC K te σ F cs ds cs1) (hu : ∀ F vs, Dts K F vs ds → vs = us) (hA : A x = .c us :: xs) (h2 : ∀ p, EvR K as σ F ((p, .lst us) :: cs1) xs cc ((p, .lst us) :: cs2))
    (hp : ∀ p, Sb ((p, .lst us) :: cs2) ((p, .lst us) :: cc ++ cs')) (hf : f x = some y) (hq : ∀ p, Sb (upC ((p, .lst us) :: cc) (C y) ++ cs') cs3) : EvD K (tCall (spC K A B C f) [] E (tCons te as)) σ F cs (B y) cs3 := fun F1 H1 g1 s Q q =>
  h F1 H1 g1 s _ fun p vs F2 H2 g2 s2 hv => by
    cases hu F2 vs hv
    refine h2 p F2 H2 (g1.tr g2) s2 _ fun ws F3 H3 g3 s3 h3 => ⟨F3, (p, .lst us) :: cc, cs', x, y, by rw [List.append_nil, hA]; exact .c h3, hp p _ _ s3, hf, fun v F4 H4 g4 s4 h4 => q v F4 H4 ((g2.tr g3).tr g4) (hq p _ _ s4) h4⟩
theorem c_callN {α β : Type} {A : α → List Ar} {B : β → List PyData} {C : β → List (List V)} {f : α → Option β} {x : α} {y : β} {E : XK} {cc cs' : Cs} {ds : List PyData} {us : List V} {xs : List Ar} (h : EvC K te σ F cs ds cs1) (hu : ∀ F vs, Dts K F vs ds → vs = us) (hA : A x = .c us :: xs) (h2 : ∀ p, EvR K as σ F ((p, .lst us) :: cs1) xs cc ((p, .lst us) :: cs2))
    (hp : ∀ p, Sb ((p, .lst us) :: cs2) ((p, .lst us) :: cc ++ cs')) (hf : f x = some y) (hq : ∀ p z, Sb (z :: (upC ((p, .lst us) :: cc) (C y) ++ cs')) (z :: cs3)) : EvC K (tCall (spF K A B C f) [] E (tCons te as)) σ F cs (B y) cs3 := fun F1 H1 g1 s Q q =>
  h F1 H1 g1 s _ fun p vs F2 H2 g2 s2 hv => by
    cases hu F2 vs hv
    refine h2 p F2 H2 (g1.tr g2) s2 _ fun ws F3 H3 g3 s3 h3 => ⟨F3, (p, .lst us) :: cc, cs', x, y, by rw [List.append_nil, hA]; exact .c h3, hp p _ _ s3, hf, fun p' us' F4 H4 g4 s4 h4 => q p' us' F4 H4 ((g2.tr g3).tr g4) (hq p _ _ _ s4) h4⟩
end
end Bw

namespace Bw
open PySem L2
section
variable {K : PySem.W.Frag} {σ : St} {F F' : Hp} {cs cs1 cs2 cs3 : Cs} {ta tb tc te : TE} {d e : PyData} {as : TA} {a b c : Int} {nx bk ct : St → Hp → Prop} {rt : VK} {H : Hp} {t u : TS}
/-- a cell lent for a new list of flat things -/
theorem c_lendX {l1 l2 m1 m2 : Cs} {p : Addr} {o : HO} {ds : List PyData} {ws : List V} (hw : ∀ F vs, Dts K F vs ds → vs = ws) (hd : ∀ F, Dts K F ws ds) (h : ∀ F1, Gr F F1 → F1 p = none → EvC K te σ (upd F1 p o) (l1 ++ l2) ds (m1 ++ m2)) : EvC K te σ F (l1 ++ (p, o) :: l2) ds (m1 ++ (p, o) :: m2) := fun F1 H1 g1 s Q q => by
  refine h F1 g1 s.freeAt (upd F1 p o) H1 .rfl s.frozeAt Q fun p' vs F2 H2 g2 s2 h2 => ?_
  cases hw F2 vs h2
  exact q p' ws (cut F2 p) H2 (gr_cut s.freeAt g2) (Sta.lent (l1 := (p', .lst ws) :: m1) g2 s2) (hd _)
/-- xs.count(k) -/
theorem d_cntI {xs : List Int} (ha : EvD K ta σ F cs (eL eI xs) cs1) (hb : EvD K tb σ F cs1 (.int b) cs2) : EvD K (tBM K "list" (rCntI K) ta (tCons tb tNil)) σ F cs (.int ((xs.count b : Nat) : Int)) cs2 := fun F1 H1 g1 s Q q =>
  ha F1 H1 g1 s _ fun v F2 H2 g2 s2 h2 => by
    obtain ⟨p, vs, rfl, hl, hd⟩ := h2.toLst
    cases hd.ints
    exact ⟨.inl ⟨rfl, _, gr_L s2.fr hl⟩, hb F2 H2 (g1.tr g2) s2 _ fun w F3 H3 g3 s3 h3 => ⟨p, xs, b, rfl, by rw [h3.toInt], gr_L s3.fr (gr_L g3 hl), q _ F3 H3 (g2.tr g3) s3 (.int _)⟩⟩
/-- y.extend(new list) -/
theorem s_ext {k1 k2 l1 l2 : Cs} {i : Nat} {p : Addr} {vs : List V} {ds : List PyData} (s : Sta F (k1 ++ (p, .lst vs) :: k2) H) (hi : σ[i]? = some (some (.ref p))) (h : EvC K te σ F (k1 ++ (p, .lst vs) :: k2) ds (l1 ++ (p, .lst vs) :: l2)) (hl : vs.length + ds.length ≤ 100000)
    (q : ∀ us F2 H2, Gr F F2 → Sta F2 (l1 ++ (p, .lst (vs ++ us)) :: l2) H2 → Dts K F2 us ds → nx σ H2) : tDrop (tBM K "list" rExtend (tVar i) (tCons te tNil)) ⟨nx, rt, bk, ct⟩ σ H :=
  ⟨.ref p, hi, .inl ⟨rfl, _, .inl (.inl s.getAt)⟩, h F H .rfl s _ fun b us F2 H2 g2 s2 h2 => ⟨p, b, vs, us, rfl, rfl, Sta.getAt (l1 := (b, .lst us) :: l1) s2, s2.at List.mem_cons_self, by rw [h2.len]; exact sz hl, q us _ _ (g2.tr s2.gfr) s2.froze.putAt (h2.gr s2.gfr)⟩⟩
theorem s_extFX {α : Type} {vf : α → V} {en : α → PyData} {k1 k2 l1 l2 : Cs} {i : Nat} {p : Addr} {xs ys zs : List α} (hw : ∀ F vs (ys : List α), Dts K F vs (ys.map en) → vs = ys.map vf) (s : Sta F (k1 ++ (p, .lst (xs.map vf)) :: k2) H) (hi : σ[i]? = some (some (.ref p))) (h : EvC K te σ F (k1 ++ (p, .lst (xs.map vf)) :: k2) (ys.map en) (l1 ++ (p, .lst (xs.map vf)) :: l2)) (hm : catM xs ys = some zs)
    (q : ∀ F2 H2, Gr F F2 → Sta F2 (l1 ++ (p, .lst (zs.map vf)) :: l2) H2 → nx σ H2) : tDrop (tBM K "list" rExtend (tVar i) (tCons te tNil)) ⟨nx, rt, bk, ct⟩ σ H := by
  obtain ⟨hl, rfl⟩ := catM_some hm
  refine s_ext s hi h (by rw [List.length_map, List.length_map]; exact hl) fun us F2 H2 g2 s2 h2 => q F2 H2 g2 ?_
  cases hw F2 us ys h2
  rw [List.map_append]; exact s2
theorem s_extGX {α : Type} {en : α → PyData} {k1 k2 l1 l2 : Cs} {i : Nat} {p : Addr} {vs : List V} {xs ys zs : List α} (s : Sta F (k1 ++ (p, .lst vs) :: k2) H) (hf : Dts K F vs (xs.map en)) (hi : σ[i]? = some (some (.ref p))) (h : EvC K te σ F (k1 ++ (p, .lst vs) :: k2) (ys.map en) (l1 ++ (p, .lst vs) :: l2)) (hm : catM xs ys = some zs)
    (q : ∀ us F2 H2, Gr F F2 → Sta F2 (l1 ++ (p, .lst us) :: l2) H2 → Dts K F2 us (zs.map en) → nx σ H2) : tDrop (tBM K "list" rExtend (tVar i) (tCons te tNil)) ⟨nx, rt, bk, ct⟩ σ H := by
  obtain ⟨hl, rfl⟩ := catM_some hm
  refine s_ext s hi h (by rw [hf.len, List.length_map, List.length_map]; exact hl) fun us F2 H2 g2 s2 h2 => q _ F2 H2 g2 s2 ?_
  rw [List.map_append]; exact (hf.gr g2).app h2
/-- y.clear() -/
theorem s_clr {l1 l2 : Cs} {i : Nat} {p : Addr} {vs : List V} (s : Sta F (l1 ++ (p, .lst vs) :: l2) H) (hi : σ[i]? = some (some (.ref p))) (q : Sta F (l1 ++ (p, .lst []) :: l2) (upd H p (.lst [])) → nx σ (upd H p (.lst []))) : tDrop (tBM0 K "list" rClear (tVar i)) ⟨nx, rt, bk, ct⟩ σ H :=
  ⟨.ref p, hi, .inl ⟨rfl, _, .inl (.inl s.getAt)⟩, p, vs, rfl, rfl, s.getAt, q s.putAt⟩
end
end Bw

namespace Bw
open PySem L2
/-! things of any kind: casts -/
def Ck {α : Type} (e : α → PyData) (c : PyData → Option α) : Prop := ∀ d x, c d = some x → d = e x
def asI : PyData → Option Int
  | .int i => some i
  | _ => none
def asB : PyData → Option Bool
  | .bool b => some b
  | _ => none
def asS : PyData → Option Str
  | .str x => some x
  | _ => none
def asN : PyData → Option Unit
  | .none => some ()
  | _ => none
def asAll {α : Type} (c : PyData → Option α) : List PyData → Option (List α)
  | [] => some []
  | d :: ds => (c d).bind fun x => (asAll c ds).bind fun xs => some (x :: xs)
def asL {α : Type} (c : PyData → Option α) : PyData → Option (List α)
  | .list ds => asAll c ds
  | _ => none
def asD (d : PyData) : Option PyData := some d
def asLD : PyData → Option (List PyData)
  | .list ds => some ds
  | _ => none
def asTD : PyData → Option (List PyData)
  | .tuple ds => some ds
  | _ => none
def asT2 {α β : Type} (c : PyData → Option α) (c' : PyData → Option β) : PyData → Option (α × β)
  | .tuple [a, b] => (c a).bind fun x => (c' b).bind fun y => some (x, y)
  | _ => none
def asT3 {α β γ : Type} (c : PyData → Option α) (c' : PyData → Option β) (c'' : PyData → Option γ) : PyData → Option (α × β × γ)
  | .tuple [a, b, d] => (c a).bind fun x => (c' b).bind fun y => (c'' d).bind fun z => some (x, y, z)
  | _ => none
def asT4 {α β γ δ : Type} (c : PyData → Option α) (c' : PyData → Option β) (c'' : PyData → Option γ) (c3 : PyData → Option δ) : PyData → Option (α × β × γ × δ)
  | .tuple [a, b, d, e] => (c a).bind fun x => (c' b).bind fun y => (c'' d).bind fun z => (c3 e).bind fun w => some (x, y, z, w)
  | _ => none
def asO {α : Type} (c : PyData → Option α) : PyData → Option (Option α)
  | .none => some none
  | d => (c d).bind fun x => some (some x)
theorem ck_D : Ck eD asD := fun d x h => by cases h; rfl
theorem ck_I : Ck eI asI := fun d x h => by cases d <;> first | (cases h; rfl) | cases h
theorem ck_B : Ck eB asB := fun d x h => by cases d <;> first | (cases h; rfl) | cases h
theorem ck_S : Ck eS asS := fun d x h => by cases d <;> first | (cases h; rfl) | cases h
theorem ck_N : Ck eN asN := fun d x h => by cases d <;> first | (cases h; rfl) | cases h
theorem ck_all {α : Type} {e : α → PyData} {c : PyData → Option α} (k : Ck e c) : ∀ {ds : List PyData} {xs : List α}, asAll c ds = some xs → ds = xs.map e
  | [], xs, h => by cases h; rfl
  | d :: ds, xs, h => by
    obtain ⟨x, h1, h⟩ := bnd h
    obtain ⟨ys, h2, h⟩ := bnd h
    cases h
    rw [k d x h1, ck_all k h2]; rfl
theorem ck_L {α : Type} {e : α → PyData} {c : PyData → Option α} (k : Ck e c) : Ck (eL e) (asL c) := fun d x h => by
  cases d with
  | list ds => exact congrArg PyData.list (ck_all k (show asAll c ds = some x from h))
  | _ => cases h
theorem ck_LD : Ck (eL eD) asLD := fun d x h => by
  cases d with
  | list ds =>
    cases h
    exact congrArg PyData.list (List.map_id' x).symm
  | _ => cases h
theorem ck_TD {d : PyData} {x : List PyData} (h : asTD d = some x) : d = .tuple x := by
  cases d with
  | tuple ds => cases h; rfl
  | _ => cases h
theorem ck_T2 {α β : Type} {e : α → PyData} {c : PyData → Option α} {e' : β → PyData} {c' : PyData → Option β} (k : Ck e c) (k' : Ck e' c') : Ck (eT2 e e') (asT2 c c') := fun d x h => by
  unfold asT2 at h
  split at h
  · obtain ⟨y, h1, h⟩ := bnd h
    obtain ⟨z, h2, h⟩ := bnd h
    cases h
    rw [k _ _ h1, k' _ _ h2]
  · cases h
theorem ck_T3 {α β γ : Type} {e : α → PyData} {c : PyData → Option α} {e' : β → PyData} {c' : PyData → Option β} {e2 : γ → PyData} {c2 : PyData → Option γ} (k : Ck e c) (k' : Ck e' c') (k2 : Ck e2 c2) : Ck (eT3 e e' e2) (asT3 c c' c2) := fun d x h => by
  unfold asT3 at h
  split at h
  · obtain ⟨y, h1, h⟩ := bnd h
    obtain ⟨z, h2, h⟩ := bnd h
    obtain ⟨z', h3, h⟩ := bnd h
    cases h
    rw [k _ _ h1, k' _ _ h2, k2 _ _ h3]
  · cases h
theorem ck_T4 {α β γ δ : Type} {e : α → PyData} {c : PyData → Option α} {e' : β → PyData} {c' : PyData → Option β} {e2 : γ → PyData} {c2 : PyData → Option γ} {e3 : δ → PyData} {c3 : PyData → Option δ} (k : Ck e c) (k' : Ck e' c') (k2 : Ck e2 c2) (k3 : Ck e3 c3) : Ck (eT4 e e' e2 e3) (asT4 c c' c2 c3) := fun d x h => by
  unfold asT4 at h
  split at h
  · obtain ⟨y, h1, h⟩ := bnd h
    obtain ⟨z, h2, h⟩ := bnd h
    obtain ⟨z', h3, h⟩ := bnd h
    obtain ⟨z2, h4, h⟩ := bnd h
    cases h
    rw [k _ _ h1, k' _ _ h2, k2 _ _ h3, k3 _ _ h4]
  · cases h
theorem ck_O {α : Type} {e : α → PyData} {c : PyData → Option α} (k : Ck e c) : Ck (eO e) (asO c) := fun d x h => by
  unfold asO at h
  split at h
  · cases h; rfl
  · obtain ⟨y, h1, h⟩ := bnd h
    cases h
    exact k _ _ h1
/-! .. and the other way -/
def Cv {α β : Type} (e : α → PyData) (e' : β → PyData) (g : α → β) : Prop := ∀ x, e x = e' (g x)
theorem cv_id {α : Type} {e : α → PyData} : Cv e e (fun x => x) := fun _ => rfl
theorem cv_D {α : Type} {e : α → PyData} : Cv e eD e := fun _ => rfl
theorem cv_some {α β : Type} {e : α → PyData} {e' : β → PyData} {g : α → β} (h : Cv e e' g) : Cv e (eO e') (fun x => some (g x)) := fun x => h x
theorem cv_none {β : Type} {e' : β → PyData} : Cv eN (eO e') (fun _ => (none : Option β)) := fun _ => rfl
theorem cv_O {α β : Type} {e : α → PyData} {e' : β → PyData} {g : α → β} (h : Cv e e' g) : Cv (eO e) (eO e') (fun x => x.map g) := fun x => by cases x with
  | none => rfl
  | some y => exact h y
theorem cv_OD {α : Type} {e : α → PyData} : Cv (eO e) eD (eO e) := fun _ => rfl
theorem cv_L {α β : Type} {e : α → PyData} {e' : β → PyData} {g : α → β} (h : Cv e e' g) : Cv (eL e) (eL e') (fun xs => xs.map g) := fun xs => by
  show PyData.list _ = PyData.list _
  rw [List.map_map]
  exact congrArg PyData.list (List.map_congr_left fun x _ => h x)
theorem cv_T2 {α α' β β' : Type} {e : α → PyData} {e' : α' → PyData} {g : α → α'} {f : β → PyData} {f' : β' → PyData} {k : β → β'} (h : Cv e e' g) (h' : Cv f f' k) : Cv (eT2 e f) (eT2 e' f') (fun x => (g x.1, k x.2)) := fun x => by
  show PyData.tuple _ = PyData.tuple _
  rw [h, h']
theorem cv_T3 {α α' β β' γ γ' : Type} {e : α → PyData} {e' : α' → PyData} {g : α → α'} {f : β → PyData} {f' : β' → PyData} {k : β → β'} {i : γ → PyData} {i' : γ' → PyData} {m : γ → γ'} (h : Cv e e' g) (h' : Cv f f' k) (h2 : Cv i i' m) : Cv (eT3 e f i) (eT3 e' f' i') (fun x => (g x.1, k x.2.1, m x.2.2)) := fun x => by
  show PyData.tuple _ = PyData.tuple _
  rw [h, h', h2]
theorem cv_T4 {α α' β β' γ γ' δ δ' : Type} {e : α → PyData} {e' : α' → PyData} {g : α → α'} {f : β → PyData} {f' : β' → PyData} {k : β → β'} {i : γ → PyData} {i' : γ' → PyData} {m : γ → γ'} {u : δ → PyData} {u' : δ' → PyData} {w : δ → δ'} (h : Cv e e' g) (h' : Cv f f' k) (h2 : Cv i i' m) (h3 : Cv u u' w) : Cv (eT4 e f i u) (eT4 e' f' i' u') (fun x => (g x.1, k x.2.1, m x.2.2.1, w x.2.2.2)) := fun x => by
  show PyData.tuple _ = PyData.tuple _
  rw [h, h', h2, h3]
/-! what is asked of things of any kind -/
def ixD : PyData → Int → Option PyData
  | .list ds, i => atI ds i
  | .tuple ds, i => atI ds i
  | .str x, i => (ixS x i).map PyData.str
  | _, _ => none
def lenD : PyData → Option Int
  | .list ds => some ds.length
  | .tuple ds => some ds.length
  | .str x => lenS x
  | _ => none
abbrev rLenG (K : PySem.W.Frag) : List V → Hp → VK → Prop := fun xs H Q => ∃ x n, xs = [x] ∧ LenV K x H n ∧ Q (.int n) H
theorem cr_lenG {X : Cx} : CallR X (.builtin "len") (rLenG X.K) := call_len
section
variable {K : PySem.W.Frag} {σ : St} {F F' : Hp} {cs cs1 cs2 cs3 : Cs} {ta tb tc te : TE} {d e : PyData} {as : TA} {a b c : Int}
theorem d_ixD {z : PyData} (ha : EvD K ta σ F cs d cs1) (hb : EvD K tb σ F cs1 (.int b) cs2) (hz : ixD d b = some z) : EvD K (tOp (rIx K) ta tb) σ F cs z cs2 := by
  intro F1 H1 g1 s Q q
  refine ha F1 H1 g1 s _ fun v F2 H2 g2 s2 h2 => hb F2 H2 (g1.tr g2) s2 _ fun w F3 H3 g3 s3 h3 => ?_
  cases d with
  | list ds =>
    refine .inl ?_
    have k := d_ixLs (K := K) (σ := [some v, some w]) (F := F3) (cs := cs2) (ta := tVar 0) (tb := tVar 1) (d_var rfl (h2.gr g3)) (d_var rfl h3) hz F3 H3 .rfl s3 Q fun v F4 H4 g4 s4 h4 => q v F4 H4 (g2.tr (g3.tr g4)) s4 h4
    obtain ⟨v', e', w', e'', k⟩ := k
    cases e'; cases e''; exact k
  | tuple ds =>
    refine .inr (.inl ?_)
    have k := d_ixT (K := K) (σ := [some v, some w]) (F := F3) (cs := cs2) (ta := tVar 0) (tb := tVar 1) (d_var rfl (h2.gr g3)) (d_var rfl h3) hz F3 H3 .rfl s3 Q fun v F4 H4 g4 s4 h4 => q v F4 H4 (g2.tr (g3.tr g4)) s4 h4
    obtain ⟨v', e', w', e'', k⟩ := k
    cases e'; cases e''; exact k
  | str x =>
    have hz : (ixS x b).map PyData.str = some z := hz
    cases hx : ixS x b with
    | none => rw [hx] at hz; cases hz
    | some y =>
      rw [hx] at hz; cases hz
      refine .inr (.inr ?_)
      have k := d_ixS (K := K) (σ := [some v, some w]) (F := F3) (cs := cs2) (ta := tVar 0) (tb := tVar 1) (d_var rfl (h2.gr g3)) (d_var rfl h3) hx F3 H3 .rfl s3 Q fun v F4 H4 g4 s4 h4 => q v F4 H4 (g2.tr (g3.tr g4)) s4 h4
      obtain ⟨v', e', w', e'', k⟩ := k
      cases e'; cases e''; exact k
  | none => cases hz
  | bool _ => cases hz
  | int _ => cases hz
  | dict _ => cases hz
theorem d_lenD {n : Int} (ha : EvDs K as σ F cs [d] cs1) (hn : lenD d = some n) : EvD K (tCB (rLenG K) as) σ F cs (.int n) cs1 := d_cb ha fun vs F2 H2 h s Q q => by
  obtain ⟨v, rfl, k1⟩ := h.one
  cases d with
  | list ds =>
    obtain ⟨p, ys, rfl, hl, hd⟩ := k1.toLst
    cases hn
    exact ⟨_, ys.length, rfl, .inl ⟨ys, gr_L s.fr hl, rfl⟩, q _ F2 H2 .rfl s (by rw [hd.len]; exact .int _)⟩
  | tuple ds =>
    obtain ⟨p, ys, rfl, hl, hd⟩ := k1.toTup
    cases hn
    exact ⟨_, ys.length, rfl, .inr ⟨ys, gr_T s.fr hl, rfl⟩, q _ F2 H2 .rfl s (by rw [hd.len]; exact .int _)⟩
  | str x =>
    cases k1.toStr
    obtain ⟨h1, rfl⟩ := lenS_some hn
    exact ⟨_, x.length, rfl, ⟨sz h1, rfl⟩, q _ F2 H2 .rfl s (.int _)⟩
  | none => cases hn
  | bool _ => cases hn
  | int _ => cases hn
  | dict _ => cases hn
/-- is True, is False -/
def isBlD (b : Bool) : PyData → Bool
  | .bool c => decide (c = b)
  | _ => false
/-- a walk over a tuple -/
theorem src_tup {p : Addr} {vs : List V} {ds : List PyData} (h : SqT K F p vs) (hd : Dts K F vs ds) : Src K (Itt K p) F ds := fun F1 c1 H1 g s => by
  have q : SqT K H1 p vs := gr_T s.fr (gr_T g h)
  refine ⟨fun i hi => ?_, ⟨vs, q, by rw [hd.len]; exact Nat.le_refl _⟩, fun i v H2 d e y => ?_⟩
  · have hi' : i < vs.length := by rw [hd.len]; exact hi
    exact ⟨vs, vs[i], q, List.getElem?_eq_getElem hi'⟩
  · obtain ⟨rfl, y⟩ := y
    obtain ⟨d', e', h'⟩ := hd.get (y vs q)
    rw [e] at e'; cases e'
    exact ⟨F1, .rfl, s, h'.gr g⟩
theorem i_tup {ds : List PyData} (h : EvD K te σ F cs (.tuple ds) cs1) : EvI K (iTup K te) σ F cs ds cs1 := fun F1 H1 g1 s R q =>
  h F1 H1 g1 s _ fun v F2 H2 g2 s2 h2 => by
    obtain ⟨p, vs, rfl, hs, hd⟩ := h2.toTup
    exact ⟨p, rfl, ⟨vs, gr_T s2.fr hs⟩, q _ F2 H2 g2 s2 (src_tup hs hd)⟩
/-- xs[::-1] -/
theorem c_rev {α : Type} {en : α → PyData} {xs : List α} (h : EvD K te σ F cs (eL en xs) cs1) : EvC K (tRevL K te) σ F cs (xs.reverse.map en) cs1 := fun F1 H1 g1 s Q q =>
  h F1 H1 g1 s _ fun v F2 H2 g2 s2 hv => by
    obtain ⟨p, vs, rfl, hl, hd⟩ := hv.toLst
    refine ⟨p, vs, rfl, gr_L s2.fr hl, fun l nl => q _ _ _ _ g2 (s2.cell nl) ?_⟩
    have : ∀ {us : List V} {ds : List PyData}, Dts K F2 us ds → Dts K F2 us.reverse ds.reverse := by
      intro us ds h
      induction us generalizing ds with
      | nil => cases h; exact .nil
      | cons u us ih => cases h with | cons a b => rw [List.reverse_cons, List.reverse_cons]; exact (ih b).app (.cons a .nil)
    rw [List.map_reverse]
    exact this hd
/-- slices of a tuple -/
theorem d_slT {ds : List PyData} {tl th : TO} {lo hi : Option Int} (h : EvD K te σ F cs (.tuple ds) cs1) (h1 : EvO tl σ F cs1 lo cs2) (h2 : EvO th σ F cs2 hi cs3) : EvD K (tSl (rSlA K) te tl th) σ F cs (.tuple (cutL ds lo hi)) cs3 := fun F1 H1 g1 s Q q =>
  h F1 H1 g1 s _ fun v F2 H2 g2 s2 hv => h1 F2 H2 (g1.tr g2) s2 _ fun F3 H3 g3 s3 => h2 F3 H3 ((g1.tr g2).tr g3) s3 _ fun F4 H4 g4 s4 => by
    obtain ⟨p, vs, rfl, hl, hd⟩ := hv.toTup
    have hd' := hd.gr (g3.tr g4)
    refine ⟨p, vs, rfl, gr_T s4.fr (gr_T (g3.tr g4) hl), fun hw => q _ F4 H4 (g2.tr (g3.tr g4)) s4 ?_, fun _ l nl => q _ _ _ ((g2.tr (g3.tr g4)).tr (Gr.new (s4.fr.back nl))) (s4.lay nl) (.tup (.inl (.inl upd_same)) ?_)⟩
    · have e : cutL ds lo hi = ds := by
        unfold cutL
        rw [← hd.len, hw.1, hw.2, List.drop_zero, Nat.sub_zero, hd.len, List.take_length]
      rw [e]
      exact .tup (gr_T (g3.tr g4) hl) hd'
    · unfold cutV cutL
      rw [hd.len]
      exact ((hd'.gr (Gr.new (s4.fr.back nl))).drop _).take _
end
end Bw

namespace Bw
open PySem L2
abbrev eT0 : Unit → PyData := fun _ => .tuple []
/-! is True, is False, is None of anything -/
def rIsBl : R2 := fun x y H Q => ∃ b, y = .bl b ∧ Q (.bl (decide (x = .bl b))) H
def rNisBl : R2 := fun x y H Q => ∃ b, y = .bl b ∧ Q (.bl (!decide (x = .bl b))) H
theorem relV_bool {x : V} {v : Value} {b : Bool} (r : RelV x v) : plainIs v (.bool b) = true ∧ (v == Value.bool b) = decide (x = .bl b) := by
  cases x with
  | bl c =>
    cases (show v = Value.bool c from r)
    refine ⟨rfl, ?_⟩
    by_cases h : c = b
    · subst h; simp
    · rw [decide_eq_false (fun z => h (V.bl.inj z))]
      exact beq_eq_false_iff_ne.mpr fun z => h (Value.bool.inj z)
  | non => cases (show v = Value.none from r); exact ⟨rfl, rfl⟩
  | ref a => cases (show v = Value.ref a from r); exact ⟨rfl, rfl⟩
  | ty n => cases (show v = Value.type n from r); exact ⟨rfl, rfl⟩
  | int i => obtain ⟨t, rfl⟩ := r; exact ⟨rfl, rfl⟩
  | str i => obtain ⟨t, rfl⟩ := r; exact ⟨rfl, rfl⟩
  | byt i => obtain ⟨t, rfl⟩ := r; exact ⟨rfl, rfl⟩
  | flt i => obtain ⟨t, rfl⟩ := r; exact ⟨rfl, rfl⟩
theorem op_isB {X : Cx} : OpR X (compareOp .Is) rIsBl := by
  intro pins s σ H x y v u Q I rx ry h
  obtain ⟨b, rfl, q⟩ := h
  cases (show u = Value.bool b from ry)
  obtain ⟨h1, h2⟩ := relV_bool (b := b) rx
  exact wpAny_is_plain h1 ⟨.bl _, H, I, by rw [h2]; rfl, q⟩
theorem op_nisB {X : Cx} : OpR X (compareOp .IsNot) rNisBl := by
  intro pins s σ H x y v u Q I rx ry h
  obtain ⟨b, rfl, q⟩ := h
  cases (show u = Value.bool b from ry)
  obtain ⟨h1, h2⟩ := relV_bool (b := b) rx
  exact wpAny_isNot_plain h1 ⟨.bl _, H, I, by rw [h2]; rfl, q⟩
def isNoD : PyData → Bool
  | .none => true
  | _ => false
section
variable {K : PySem.W.Frag} {σ : St} {F F' : Hp} {cs cs1 cs2 cs3 : Cs} {ta tb tc te : TE} {d e : PyData} {as : TA} {a b c : Int}
theorem Dt.noD {v : V} (h : Dt K F v d) : decide (v = V.non) = isNoD d := by cases h <;> rfl
theorem Dt.blD {v : V} {b : Bool} (h : Dt K F v d) : decide (v = V.bl b) = isBlD b d := by
  cases h with
  | bl c =>
    show decide (V.bl c = V.bl b) = decide (c = b)
    by_cases q : c = b
    · subst q; simp
    · rw [decide_eq_false q, decide_eq_false (fun z => q (V.bl.inj z))]
  | _ => rfl
theorem d_isD (ha : EvD K ta σ F cs d cs1) : EvD K (tOp rIsN ta (tC .non)) σ F cs (.bool (isNoD d)) cs1 := fun F1 H1 g1 s Q q =>
  ha F1 H1 g1 s _ fun v F2 H2 g2 s2 h2 => ⟨rfl, q _ F2 H2 g2 s2 (by rw [h2.noD]; exact .bl _)⟩
theorem d_nisD (ha : EvD K ta σ F cs d cs1) : EvD K (tOp rNotN ta (tC .non)) σ F cs (.bool (!isNoD d)) cs1 := fun F1 H1 g1 s Q q =>
  ha F1 H1 g1 s _ fun v F2 H2 g2 s2 h2 => ⟨rfl, q _ F2 H2 g2 s2 (by rw [h2.noD]; exact .bl _)⟩
theorem d_isBl {b : Bool} (ha : EvD K ta σ F cs d cs1) : EvD K (tOp rIsBl ta (tC (.bl b))) σ F cs (.bool (isBlD b d)) cs1 := fun F1 H1 g1 s Q q =>
  ha F1 H1 g1 s _ fun v F2 H2 g2 s2 h2 => ⟨b, rfl, q _ F2 H2 g2 s2 (by rw [h2.blD]; exact .bl _)⟩
theorem d_nisBl {b : Bool} (ha : EvD K ta σ F cs d cs1) : EvD K (tOp rNisBl ta (tC (.bl b))) σ F cs (.bool (!isBlD b d)) cs1 := fun F1 H1 g1 s Q q =>
  ha F1 H1 g1 s _ fun v F2 H2 g2 s2 h2 => ⟨b, rfl, q _ F2 H2 g2 s2 (by rw [h2.blD]; exact .bl _)⟩
/-! a dict of which nothing is asked but its kind -/
theorem d_dict0 : EvD K tDNewK σ F cs (.dict []) cs := fun F1 H1 g1 s Q q => fun p hp => q _ _ _ (Gr.new (s.fr.back hp)) (s.lay hp) (.dct upd_same)
/-- {k: v}, both written, a text for a key -/
theorem d_dict1 {x : Str} {w : V} : EvD K (tDisp [(tC (.str x), tC w)]) σ F cs (.dict []) cs := fun F1 H1 g1 s Q q => fun p hp => by
  refine ⟨upd_same, [(Sum.inr x, w)], rfl, by show 1 ≤ 15; decide, ?_⟩
  rw [upd_upd]
  exact q _ _ _ (Gr.new (s.fr.back hp)) (s.lay hp) (.dct upd_same)
/-! formats -/
def fmtD : PyData → Option Str
  | .int i => strM i
  | .str x => (lenS x).bind fun _ => some x
  | _ => none
theorem d_fmtD {x : Str} (h : EvD K te σ F cs d cs1) (hn : fmtD d = some x) : EvD K (tFmt te) σ F cs (.str x) cs1 := by
  cases d with
  | int i => exact d_fmtI h hn
  | str y =>
    obtain ⟨n, h1, h2⟩ := bnd (show (lenS y).bind (fun _ => some y) = some x from hn)
    cases h2
    exact d_fmtS h h1
  | none => cases hn
  | bool _ => cases hn
  | list _ => cases hn
  | tuple _ => cases hn
  | dict _ => cases hn
end
end Bw

namespace Bw
open PySem L2
/-! i in range(lo, hi) -/
def rInRng : R2 := fun x y H Q => ∃ i a lo hi, x = V.int i ∧ y = V.ref a ∧ H a = some (.rng lo hi) ∧ Q (.bl (decide (lo ≤ i ∧ i < hi))) H
def rNinRng : R2 := fun x y H Q => ∃ i a lo hi, x = V.int i ∧ y = V.ref a ∧ H a = some (.rng lo hi) ∧ Q (.bl (!decide (lo ≤ i ∧ i < hi))) H
abbrev rRange2 : List V → Hp → VK → Prop := fun vs H Q => ∃ i j, vs = [V.int i, V.int j] ∧ ∀ p, H p = none → Q (.ref p) (upd H p (.rng i j))
theorem op_inRng {X : Cx} : OpR X (compareOp .In) rInRng := op_in_rng
theorem op_ninRng {X : Cx} : OpR X (compareOp .NotIn) rNinRng := by
  intro pins s σ H x y v u Q I rx ry h
  obtain ⟨i, a, lo, hi, rfl, rfl, ha, q⟩ := h
  obtain ⟨k, rfl⟩ := rx
  obtain rfl : u = Value.ref a := ry
  obtain ⟨t1, t2, t3, ho⟩ := I.hok a _ ha
  show wpAny _ _ (contains (Value.ref a) (Value.int i k) >>= fun b => pure (Value.bool (!b))) _ _ s
  refine wpAny_bind (wpAny_contains_slot (T := "range") ⟨_, ho, rfl⟩ F.slot_range_contains (call_meets F.slot_range_contains ⟨_, ho, rfl⟩ F.entry_range_contains (F.args_range_contains_2 _ _)
    (q_contains a lo hi i t1 t2 t3 k) ⟨ho, wpAny_truthy_bool (wpAny_pure ⟨.bl _, H, I, rfl, ?_⟩)⟩))
  rw [place1]
  exact q
theorem cr_range2' {X : Cx} : CallR X (.type "range") rRange2 := cr_range2
section
variable {K : PySem.W.Frag} {σ : St} {F F' : Hp} {cs cs1 cs2 cs3 : Cs} {ta tb tc te : TE} {d e : PyData} {as : TA} {a b c : Int}
theorem d_inRng (ha : EvD K ta σ F cs (.int a) cs1) (hb : EvDs K as σ F cs1 [.int b, .int c] cs2) : EvD K (tOp rInRng ta (tCB rRange2 as)) σ F cs (.bool (decide (b ≤ a ∧ a < c))) cs2 := fun F1 H1 g1 s Q q =>
  ha F1 H1 g1 s _ fun v F2 H2 g2 s2 h2 => hb F2 H2 (g1.tr g2) s2 _ fun vs F3 H3 g3 s3 h3 => by
    cases h2.toInt
    obtain ⟨w, z, rfl, k1, k2⟩ := h3.two; cases k1.toInt; cases k2.toInt
    exact ⟨b, c, rfl, fun p hp => ⟨a, p, b, c, rfl, rfl, upd_same, q _ _ _ ((g2.tr g3).tr (Gr.new (s3.fr.back hp))) (s3.lay hp) (.bl _)⟩⟩
theorem d_ninRng (ha : EvD K ta σ F cs (.int a) cs1) (hb : EvDs K as σ F cs1 [.int b, .int c] cs2) : EvD K (tOp rNinRng ta (tCB rRange2 as)) σ F cs (.bool (!decide (b ≤ a ∧ a < c))) cs2 := fun F1 H1 g1 s Q q =>
  ha F1 H1 g1 s _ fun v F2 H2 g2 s2 h2 => hb F2 H2 (g1.tr g2) s2 _ fun vs F3 H3 g3 s3 h3 => by
    cases h2.toInt
    obtain ⟨w, z, rfl, k1, k2⟩ := h3.two; cases k1.toInt; cases k2.toInt
    exact ⟨b, c, rfl, fun p hp => ⟨a, p, b, c, rfl, rfl, upd_same, q _ _ _ ((g2.tr g3).tr (Gr.new (s3.fr.back hp))) (s3.lay hp) (.bl _)⟩⟩
end
end Bw

namespace Bw
open PySem L2
def top (i : Nat) : Stmt := PySem.Challenge.pw_baycart_k05_stores_shown.main.body.getD i (.Pass ⟨0, 0, 0, 0⟩)
abbrev s_draws : Stmt := (top 27)
def f_draws_b31 (k_2 : Int) (great_14 : Bool) : (Int × Int × (List Int)) → (Int × Int) → Option (Int × Int × (List Int)) := fun (number_34, mixed_35, found_36) (turn_37, size_38) => (if great_14 = true then (((modM number_34 size_38)).bind fun x68 => ((appM found_36 x68)).bind fun found_70 => (((fdivM number_34 size_38)).bind fun x76 => some (x76, mixed_35, found_70))) else (((mulM mixed_35 mixed_35)).bind fun x86 => letM (((x86 + ((104729 : Int) * (k_2 + turn_37))) + (11 : Int)) % (2147483587 : Int)) fun mixed_92 => (((modM (mixed_92 / (16 : Int)) size_38)).bind fun x94 => ((appM found_36 x94)).bind fun found_96 => some (number_34, mixed_92, found_96))))
def f_draws : (Int × Int × (List Int)) → Option (List Int) := fun (cell_here_1, k_2, sizes_3) => (letM (absI cell_here_1) fun number_8 => (letM (decide ((1000000000000000000 : Int) ≤ number_8)) fun great_14 => (letM (((((number_8 % (1000000007 : Int)) + ((7919 : Int) * k_2)) + (1 : Int)) * (48271 : Int)) % (2147483629 : Int)) fun mixed_20 => (letM ([] : (List Int)) fun found_26 => ((enumM sizes_3).foldlM (f_draws_b31 k_2 great_14) (number_8, mixed_20, found_26)).bind fun (number_108, mixed_109, found_110) => some found_110))))
abbrev A_draws : (Int × Int × (List Int)) → List PyData := fun x => [eI x.1, eI x.2.1, (eL eI) x.2.2]
abbrev N_draws : List Str := ["_law_cell_here", "_law_k", "_law_sizes", "_law_number", "_law_great", "_law_mixed", "_law_found", "_law_turn", "_law_size"]
abbrev sp_draws (K : PySem.W.Frag) : Sp := spP K A_draws (eL eI) f_draws
def t_draws (K : PySem.W.Frag) : TS := (tSeq (tAsg (tCB rAbs (tCons (tVar 0) tNil)) (gName 3)) (tSeq (tAsg (tOp (rI0 fun i j => .bl (decide (j ≤ i))) (tVar 3) (tOp (rI CPow fun i j => .int (i ^ j.toNat)) (tC (.int 10)) (tC (.int 18)))) (gName 4)) (tSeq (tAsg (tOp (rI (fun _ j => 0 < j) fun i j => .int (i % j)) (tOp (rI CMul fun i j => .int (i * j)) (tOp (rI0 fun i j => .int (i + j)) (tOp (rI0 fun i j => .int (i + j)) (tOp (rI (fun _ j => 0 < j) fun i j => .int (i % j)) (tVar 3) (tC (.int 1000000007))) (tOp (rI CMul fun i j => .int (i * j)) (tC (.int 7919)) (tVar 1))) (tC (.int 1))) (tC (.int 48271))) (tC (.int 2147483629))) (gName 5)) (tSeq (tAsg (tLst tNil) (gName 6)) (tSeq (tFor (iEnum K (tCons (tVar 2) tNil)) (gTup K 2 (gCons (gName 7) (gCons (gName 8) gNil))) (tIfS (tB (tVar 4)) (tSeq (tDrop (tBM K "list" rAppend (tVar 6) (tCons (tOp (rI (fun _ j => 0 < j) fun i j => .int (i % j)) (tVar 3) (tVar 8)) tNil))) (tAsg (tOp (rI CDiv fun i j => .int (i / j)) (tVar 3) (tVar 8)) (gName 3))) (tSeq (tAsg (tOp (rI (fun _ j => 0 < j) fun i j => .int (i % j)) (tOp (rI0 fun i j => .int (i + j)) (tOp (rI0 fun i j => .int (i + j)) (tOp (rI CMul fun i j => .int (i * j)) (tVar 5) (tVar 5)) (tOp (rI CMul fun i j => .int (i * j)) (tC (.int 104729)) (tOp (rI0 fun i j => .int (i + j)) (tVar 1) (tVar 7)))) (tC (.int 11))) (tC (.int 2147483587))) (gName 5)) (tDrop (tBM K "list" rAppend (tVar 6) (tCons (tOp (rI (fun _ j => 0 < j) fun i j => .int (i % j)) (tOp (rI CDiv fun i j => .int (i / j)) (tVar 5) (tC (.int 16))) (tVar 8)) tNil)))))) (tRet (tVar 6)))))))
theorem w_draws {K : PySem.W.Frag} (vs : List V) (H : Hp) (Q : VK) (E : XK) (h : sp_draws K vs H Q E) : t_draws K { nx := fun _ H' => Q .non H', rt := Q } (start N_draws vs) H := by
  obtain ⟨F0, cs, ⟨cell_here_1, k_2, sizes_3⟩, y, h, hS0, m, q⟩ := h
  obtain ⟨a0, _, rfl, ha0, h⟩ := Dts.hd h
  obtain ⟨a1, _, rfl, ha1, h⟩ := Dts.hd h
  obtain ⟨a2, _, rfl, ha2, h⟩ := Dts.hd h
  obtain rfl := Dts.no h
  obtain rfl := Dt.toInt ha0
  obtain rfl := Dt.toInt ha1
  unfold f_draws at m
  try dsimp only at m
  unfold t_draws
  refine go (σ' := [some (.int cell_here_1), some (.int k_2), some a2, none, none, none, none, none, none]) rfl ?_
  obtain ⟨number_8, k9, m⟩ := lt m
  refine s_setV (K := K) (d := eI number_8) (i := 3) (σ' := [some (.int cell_here_1), some (.int k_2), some a2, some (.int number_8), none, none, none, none, none]) (fun _ _ h => Dt.toInt h) hS0 (d_is (d_abs (a_cons (d_var rfl (.int _)) a_nil)) (congrArg eI k9)) rfl (fun F4 H5 g6 hS7 => ?_)
  obtain ⟨great_14, k15, m⟩ := lt m
  refine s_setV (K := K) (d := eB great_14) (i := 4) (σ' := [some (.int cell_here_1), some (.int k_2), some a2, some (.int number_8), some (.bl great_14), none, none, none, none]) (fun _ _ h => Dt.toBl h) hS7 (d_is (d_ge (d_var rfl (.int _)) (d_is (e := PyData.int 1000000000000000000) (d_powC d_int d_int ⟨by decide, by decide, by decide⟩) (congrArg PyData.int (by decide)))) (congrArg eB k15)) rfl (fun F10 H11 g12 hS13 => ?_)
  obtain ⟨mixed_20, k21, m⟩ := lt m
  refine s_setV (K := K) (d := eI mixed_20) (i := 5) (σ' := [some (.int cell_here_1), some (.int k_2), some a2, some (.int number_8), some (.bl great_14), some (.int mixed_20), none, none, none]) (fun _ _ h => Dt.toInt h) hS13 (d_is (d_modC (d_mulC (d_add (d_add (d_modC (d_var rfl (.int _)) d_int (by decide)) (d_mulC d_int (d_var rfl (.int _)) (.inl ⟨by decide, by decide⟩))) d_int) d_int (.inr ⟨by decide, by decide⟩)) d_int (by decide)) (congrArg eI k21)) rfl (fun F16 H17 g18 hS19 => ?_)
  obtain ⟨found_26, k27, m⟩ := lt m
  refine s_setC (K := K) (ds := found_26.map eI) (i := 6) (σ' := fun p28 => [some (.int cell_here_1), some (.int k_2), some a2, some (.int number_8), some (.bl great_14), some (.int mixed_20), some (.ref p28), none, none]) hS19 (c_is (c_lst a_nil (Nat.le_of_ble_eq_true rfl)) (congrArg (List.map eI) k27)) (fun _ => rfl) (fun p28 us29 F22 H23 g24 hS25 hu30 => ?_)
  obtain rfl := Dts.ints hu30
  obtain ⟨⟨number_108, mixed_109, found_110⟩, k33, m⟩ := bnd m
  try dsimp only at m
  refine s_for (K := K) (xs := (enumM sizes_3)) (en := (eT2 eI eI)) (body := (f_draws_b31 k_2 great_14)) (s0 := (number_8, mixed_20, found_26)) (r := (number_108, mixed_109, found_110)) (fun (a : Int × Int × (List Int)) F σ c => ∃ (j7 : Option V) (j8 : Option V), σ = [some (.int cell_here_1), some (.int k_2), some a2, some (.int a.1), some (.bl great_14), some (.int a.2.1), some (.ref p28), j7, j8] ∧ (p28, .lst (a.2.2.map V.int)) :: cs = c) hS25 (i_enum (en := eI) (a_cons (d_var rfl (Dt.gr (Gr.tr g6 (Gr.tr g12 (Gr.tr g18 g24))) ha2)) a_nil)) (fun _ _ => ⟨_, _, rfl, rfl⟩) k33 ?_ ?_
  · rintro ⟨turn_37, size_38⟩ ⟨number_34, mixed_35, found_36⟩ b47 F39 F40 σ53 c54 H41 v46 N48 g42 ⟨u56, u57, rfl, rfl⟩ g43 hS44 hv45 m55 hN50
    obtain ⟨p58, w60, w61, rfl, hT59, hw62, hw63⟩ := u2 hv45
    obtain rfl := Dt.toInt hw62
    obtain rfl := Dt.toInt hw63
    refine tg (σ' := [some (.int cell_here_1), some (.int k_2), some a2, some (.int number_34), some (.bl great_14), some (.int mixed_35), some (.ref p28), some (.int turn_37), some (.int size_38)]) (fun Q hq => ⟨p58, [_, _], rfl, gr_T hS44.fr hT59, rfl, _, _, rfl, _, _, rfl, rfl, hq⟩) ?_
    unfold f_draws_b31 at m55
    try dsimp only at m55
    refine s_if (b := great_14) hS44 (t_B (K := K) (d_var rfl (.bl _))) (fun hc F64 H65 g66 hS67 => ?_) (fun hc F82 H83 g84 hS85 => ?_)
    · rw [if_pos hc] at m55
      obtain ⟨x68, k69, m55⟩ := bnd m55
      obtain ⟨found_70, k71, m55⟩ := bnd m55
      refine s_appFX (K := K) (k1 := []) (x := x68) (l1 := []) (p := p28) (vf := V.int) (en := eI) (fun _ _ _ h => Dt.toInt h) hS67 rfl (d_mod (d_var rfl (.int _)) (d_var rfl (.int _)) k69) k71 (fun F72 H73 g74 hS75 => ?_)
      obtain ⟨x76, k77, m55⟩ := bnd m55
      refine s_setV (K := K) (d := eI x76) (i := 3) (σ' := [some (.int cell_here_1), some (.int k_2), some a2, some (.int x76), some (.bl great_14), some (.int mixed_35), some (.ref p28), some (.int turn_37), some (.int size_38)]) (fun _ _ h => Dt.toInt h) hS75 (d_fdiv (d_var rfl (.int _)) (d_var rfl (.int _)) k77) rfl (fun F78 H79 g80 hS81 => ?_)
      obtain rfl := sm m55
      exact hN50 _ _ _ _ (Gr.tr g66 (Gr.tr g74 g80)) hS81 ⟨_, _, rfl, rfl⟩
    · rw [if_neg (bf hc)] at m55
      obtain ⟨x86, k87, m55⟩ := bnd m55
      obtain ⟨mixed_92, k93, m55⟩ := lt m55
      refine s_setV (K := K) (d := eI mixed_92) (i := 5) (σ' := [some (.int cell_here_1), some (.int k_2), some a2, some (.int number_34), some (.bl great_14), some (.int mixed_92), some (.ref p28), some (.int turn_37), some (.int size_38)]) (fun _ _ h => Dt.toInt h) hS85 (d_is (d_modC (d_add (d_add (d_mul (d_var rfl (.int _)) (d_var rfl (.int _)) k87) (d_mulC d_int (d_add (d_var rfl (.int _)) (d_var rfl (.int _))) (.inl ⟨by decide, by decide⟩))) d_int) d_int (by decide)) (congrArg eI k93)) rfl (fun F88 H89 g90 hS91 => ?_)
      obtain ⟨x94, k95, m55⟩ := bnd m55
      obtain ⟨found_96, k97, m55⟩ := bnd m55
      refine s_appFX (K := K) (k1 := []) (x := x94) (l1 := []) (p := p28) (vf := V.int) (en := eI) (fun _ _ _ h => Dt.toInt h) hS91 rfl (d_mod (d_fdivC (d_var rfl (.int _)) d_int ⟨by decide, by decide⟩) (d_var rfl (.int _)) k95) k97 (fun F98 H99 g100 hS101 => ?_)
      obtain rfl := sm m55
      exact hN50 _ _ _ _ (Gr.tr g84 (Gr.tr g90 g100)) hS101 ⟨_, _, rfl, rfl⟩
  · rintro F102 σ107 c106 H103 g104 hS105 ⟨u111, u112, rfl, rfl⟩
    have hS113 := Sta.frozeAt (l1 := []) hS105
    refine s_ret (K := K) (d := (eL eI) found_110) hS113 (d_var rfl (Dt.lst (.inl (.inl upd_same)) (Dts.gr (Gr.new (Sta.freeAt (l1 := []) hS105)) (Dts.of_ints _)))) (fun v118 F114 H115 g116 hS117 hv119 => ?_)
    obtain rfl := sm m
    exact q _ _ _ (Gr.tr g6 (Gr.tr g12 (Gr.tr g18 (Gr.tr g24 (Gr.tr g104 (Gr.tr (Gr.new (Sta.freeAt (l1 := []) hS105)) g116)))))) hS117 hv119
theorem sc_draws : FnScope N_draws ["_law_cell_here", "_law_k", "_law_sizes"] (defScope s_draws) := ⟨rfl, rfl, rfl, by decide +kernel, rfl, by decide +kernel, by decide +kernel⟩
theorem ok_draws {P : Program} {w : World} {K : PySem.W.Frag} {mg : Str → Option Value} {base : Heap} (hF : Df K mg "_law_draws" s_draws) (m_abs : mg "abs" = none) (m_enumerate : mg "enumerate" = none) : Ok P w K mg base 1 "_law_draws" ["_law_cell_here", "_law_k", "_law_sizes"] (sp_draws K) := by
  obtain ⟨⟨fd, F⟩, gm⟩ := hF
  refine ⟨⟨fd, F.ok sc_draws (fun vs H Q E h => ?_) (fun cdv A outer s H vs Q E hr h => ⟨t_draws K, PSs.nox ?_, w_draws vs H Q E h⟩), F.bindsN fun _ _ _ _ _ _ us hl => match us, hl with | [_, _, _], _ => rfl, lk_of F⟩, F.kp, gm⟩
  · obtain ⟨F0, cs, x, y, h, _⟩ := h; exact Dts.len h
  · exact (pss_cons (ps_set (i := 3) sc_draws.nd rfl (Or.inl rfl) (pe_callB cr_abs (by rfl) m_abs (by decide +kernel) (pa_cons (pv 0) pa_nil))) (pss_cons (ps_set (i := 4) sc_draws.nd rfl (Or.inl rfl) (pe_cmpR op_ge (pv 3) (pe_op op_pow pe_int pe_int) (nomark _))) (pss_cons (ps_set (i := 5) sc_draws.nd rfl (Or.inl rfl) (pe_op op_mod (pe_op op_mul (pe_op op_add (pe_op op_add (pe_op op_mod (pv 3) pe_int) (pe_op op_mul pe_int (pv 1))) pe_int) pe_int) pe_int)) (pss_cons (ps_set (i := 6) sc_draws.nd rfl (Or.inl rfl) (pe_lst pa_nil)) (pss_cons (ps_for PassesOwn.never rfl (pi_enum (by rfl) m_enumerate (pa_cons (pv 2) pa_nil)) (pg_tup rfl (pgs_cons (pg_name (i := 7) sc_draws.nd rfl (Or.inl rfl)) (pgs_cons (pg_name (i := 8) sc_draws.nd rfl (Or.inl rfl)) pgs_nil))) (pss_one (ps_if (pt_val (pv 4)) (pss_cons (ps_expr (pe_bm PySem.F.plainAttrs_list PySem.F.slot_list_append PySem.F.type_list_append mt_append (pv 6) (pa_cons (pe_op op_mod (pv 3) (pv 8)) pa_nil))) (pss_one (ps_set (i := 3) sc_draws.nd rfl (Or.inl rfl) (pe_op op_fdiv (pv 3) (pv 8))))) (pss_cons (ps_set (i := 5) sc_draws.nd rfl (Or.inl rfl) (pe_op op_mod (pe_op op_add (pe_op op_add (pe_op op_mul (pv 5) (pv 5)) (pe_op op_mul pe_int (pe_op op_add (pv 1) (pv 7)))) pe_int) pe_int)) (pss_one (ps_expr (pe_bm PySem.F.plainAttrs_list PySem.F.slot_list_append PySem.F.type_list_append mt_append (pv 6) (pa_cons (pe_op op_mod (pe_op op_fdiv (pv 5) pe_int) (pv 8)) pa_nil)))))))) (pss_one (ps_ret (pv 6))))))))
abbrev s_names : Stmt := (top 28)
def f_names_b53 (many_2 : Int) (x3 : (List Int)) (letters_15 : Str) (some_27 : (List Str)) : (List Str) → Int → Option (List Str) := fun found_56 k_57 => (((atI x3 (3 : Int))).bind fun x78 => ((ixS letters_15 ((x78 + k_57) % (26 : Int)))).bind fun x80 => ((ixS letters_15 (k_57 / (26 : Int)))).bind fun x82 => ((scatM x80 x82)).bind fun x84 => (((atI x3 (1 : Int))).bind fun x90 => ((srepM ("x" : Str) x90)).bind fun x92 => ((scatM x92 x84)).bind fun x94 => ((atI x3 (2 : Int))).bind fun x96 => ((atI x3 (1 : Int))).bind fun x98 => ((srepM ("q" : Str) (minI x96 ((6 : Int) - x98)))).bind fun x100 => ((scatM x94 x100)).bind fun x102 => (((repM ([x102] : (List Str)) many_2)).bind fun x108 => ((catM some_27 x108)).bind fun x110 => ((atI x110 k_57)).bind fun x112 => ((appM found_56 x112)).bind fun found_114 => some found_114)))
def f_names : (Int × Int) → Option (List Str) := fun (cell_here_1, many_2) => (((f_draws (cell_here_1, (5 : Int), ([(4 : Int), (4 : Int), (5 : Int), (26 : Int)] : (List Int))))).bind fun x3 => (letM ("abcdefghijklmnopqrstuvwxyz" : Str) fun letters_15 => (letM ([] : (List Str)) fun some_21 => (((atI x3 (0 : Int))).bind fun x25 => ((if (decide (x25 = (1 : Int))) = true then (letM ([("rooms" : Str), ("gaps" : Str), ("most" : Str), ("boxes" : Str), ("go" : Str), ("swap" : Str), ("box" : Str), ("room" : Str), ("swaps" : Str), ("a" : Str), ("b" : Str)] : (List Str)) fun some_145 => some some_145) else some some_21)).bind fun some_27 => (letM ([] : (List Str)) fun found_46 => (((rngM (0 : Int) many_2)).bind fun x51 => (x51.foldlM (f_names_b53 many_2 x3 letters_15 some_27) found_46).bind fun found_126 => some found_126))))))
abbrev A_names : (Int × Int) → List PyData := fun x => [eI x.1, eI x.2]
abbrev N_names : List Str := ["_law_cell_here", "_law_many", "_law_row", "_law_letters", "_law_some", "_law_found", "_law_k", "_law_middle", "_law_name"]
abbrev sp_names (K : PySem.W.Frag) : Sp := spP K A_names (eL eS) f_names
def t_names (K : PySem.W.Frag) : TS := (tSeq (tAsg (tCall (sp_draws K) [] E0 (tCons (tVar 0) (tCons (tC (.int 5)) (tCons (tLst (tCons (tC (.int 4)) (tCons (tC (.int 4)) (tCons (tC (.int 5)) (tCons (tC (.int 26)) tNil))))) tNil)))) (gName 2)) (tSeq (tAsg (tC (.str "abcdefghijklmnopqrstuvwxyz")) (gName 3)) (tSeq (tAsg (tLst tNil) (gName 4)) (tSeq (tIfS (tTest (tOp rEq (tOp (rIxL K) (tVar 2) (tC (.int 0))) (tC (.int 1)))) (tAsg (tLst (tCons (tC (.str "rooms")) (tCons (tC (.str "gaps")) (tCons (tC (.str "most")) (tCons (tC (.str "boxes")) (tCons (tC (.str "go")) (tCons (tC (.str "swap")) (tCons (tC (.str "box")) (tCons (tC (.str "room")) (tCons (tC (.str "swaps")) (tCons (tC (.str "a")) (tCons (tC (.str "b")) tNil)))))))))))) (gName 4)) tNext) (tSeq (tAsg (tLst tNil) (gName 5)) (tSeq (tFor (iRng1 (tCons (tVar 1) tNil)) (gName 6) (tSeq (tAsg (tOp rScat (tOp rIxS (tVar 3) (tOp (rI (fun _ j => 0 < j) fun i j => .int (i % j)) (tOp (rI0 fun i j => .int (i + j)) (tOp (rIxL K) (tVar 2) (tC (.int 3))) (tVar 6)) (tC (.int 26)))) (tOp rIxS (tVar 3) (tOp (rI CDiv fun i j => .int (i / j)) (tVar 6) (tC (.int 26))))) (gName 7)) (tSeq (tAsg (tOp rScat (tOp rScat (tOp rSrep (tC (.str "x")) (tOp (rIxL K) (tVar 2) (tC (.int 1)))) (tVar 7)) (tOp rSrep (tC (.str "q")) (tCB rMin2 (tCons (tOp (rIxL K) (tVar 2) (tC (.int 2))) (tCons (tOp (rI0 fun i j => .int (i - j)) (tC (.int 6)) (tOp (rIxL K) (tVar 2) (tC (.int 1)))) tNil))))) (gName 8)) (tDrop (tBM K "list" rAppend (tVar 5) (tCons (tOp (rIxL K) (tOp (rCatS K) (tVar 4) (tOp rRep (tLst (tCons (tVar 8) tNil)) (tVar 1))) (tVar 6)) tNil)))))) (tRet (tVar 5))))))))
theorem w_names {K : PySem.W.Frag} (vs : List V) (H : Hp) (Q : VK) (E : XK) (h : sp_names K vs H Q E) : t_names K { nx := fun _ H' => Q .non H', rt := Q } (start N_names vs) H := by
  obtain ⟨F0, cs, ⟨cell_here_1, many_2⟩, y, h, hS0, m, q⟩ := h
  obtain ⟨a0, _, rfl, ha0, h⟩ := Dts.hd h
  obtain ⟨a1, _, rfl, ha1, h⟩ := Dts.hd h
  obtain rfl := Dts.no h
  obtain rfl := Dt.toInt ha0
  obtain rfl := Dt.toInt ha1
  unfold f_names at m
  try dsimp only at m
  unfold t_names
  refine go (σ' := [some (.int cell_here_1), some (.int many_2), none, none, none, none, none, none, none]) rfl ?_
  obtain ⟨x3, k4, m⟩ := bnd m
  refine s_set (K := K) (d := (eL eI) x3) (i := 2) (σ' := fun v9 => [some (.int cell_here_1), some (.int many_2), some v9, none, none, none, none, none, none]) hS0 (d_call (A := A_draws) (B := (eL eI)) (x := (cell_here_1, (5 : Int), ([(4 : Int), (4 : Int), (5 : Int), (26 : Int)] : (List Int)))) (a_cons (d_var rfl (.int _)) (a_cons d_int (a_cons (d_lst (a_cons d_int (a_cons d_int (a_cons d_int (a_cons d_int a_nil)))) (Nat.le_of_ble_eq_true rfl)) a_nil))) k4) (fun _ => rfl) (fun v9 F5 H6 g7 hS8 hv10 => ?_)
  obtain ⟨letters_15, k16, m⟩ := lt m
  refine s_setV (K := K) (d := eS letters_15) (i := 3) (σ' := [some (.int cell_here_1), some (.int many_2), some v9, some (.str letters_15), none, none, none, none, none]) (fun _ _ h => Dt.toStr h) hS8 (d_is d_str (congrArg eS k16)) rfl (fun F11 H12 g13 hS14 => ?_)
  obtain ⟨some_21, k22, m⟩ := lt m
  refine s_set (K := K) (d := (eL eS) some_21) (i := 4) (σ' := fun v23 => [some (.int cell_here_1), some (.int many_2), some v9, some (.str letters_15), some v23, none, none, none, none]) hS14 (d_is (d_lst a_nil (Nat.le_of_ble_eq_true rfl)) (congrArg (eL eS) k22)) (fun _ => rfl) (fun v23 F17 H18 g19 hS20 hv24 => ?_)
  obtain ⟨x25, k26, m⟩ := bnd m
  obtain ⟨some_27, k29, m⟩ := bnd m
  refine s_ifJ (b := (decide (x25 = (1 : Int)))) (fun σ H => ∃ (F : Hp) (c : Cs), Gr F17 F ∧ Sta F c H ∧ ∃ (j4 : V) (j5 : Option V) (j6 : Option V) (j7 : Option V) (j8 : Option V), σ = [some (.int cell_here_1), some (.int many_2), some v9, some (.str letters_15), some j4, j5, j6, j7, j8] ∧ cs = c ∧ Dt K F j4 ((eL eS) some_27)) hS20 (t_test (K := K) (d_eqI (d_ix (e := eI) (d_var rfl (Dt.gr (Gr.tr g13 g19) hv10)) d_int k26) d_int)) ?_ (fun jn28 hc F137 H138 g139 hS140 => ?_) (fun jn28 hc F149 H150 g151 hS152 => ?_)
  · rintro σ35 H31 ⟨F30, c34, g32, hS33, v36, u37, u38, u39, u40, rfl, rfl, h41⟩
    obtain ⟨found_46, k47, m⟩ := lt m
    refine s_setC (K := K) (ds := found_46.map eS) (i := 5) (σ' := fun p48 => [some (.int cell_here_1), some (.int many_2), some v9, some (.str letters_15), some v36, some (.ref p48), u38, u39, u40]) hS33 (c_is (c_lst a_nil (Nat.le_of_ble_eq_true rfl)) (congrArg (List.map eS) k47)) (fun _ => rfl) (fun p48 us49 F42 H43 g44 hS45 hu50 => ?_)
    obtain rfl := Dts.strs hu50
    obtain ⟨x51, k52, m⟩ := bnd m
    obtain ⟨found_126, k55, m⟩ := bnd m
    refine s_for (K := K) (xs := x51) (en := eI) (body := (f_names_b53 many_2 x3 letters_15 some_27)) (s0 := found_46) (r := found_126) (fun (a : (List Str)) F σ c => ∃ (j6 : Option V) (j7 : Option V) (j8 : Option V), σ = [some (.int cell_here_1), some (.int many_2), some v9, some (.str letters_15), some v36, some (.ref p48), j6, j7, j8] ∧ (p48, .lst (a.map V.str)) :: cs = c) hS45 (i_rng1 (a_cons (d_var rfl (.int _)) a_nil) k52) (fun _ _ => ⟨_, _, _, rfl, rfl⟩) k55 ?_ ?_
    · rintro k_57 found_56 b66 F58 F59 σ72 c73 H60 v65 N67 g61 ⟨u75, u76, u77, rfl, rfl⟩ g62 hS63 hv64 m74 hN69
      obtain rfl := Dt.toInt hv64
      refine tg (σ' := [some (.int cell_here_1), some (.int many_2), some v9, some (.str letters_15), some v36, some (.ref p48), some (.int k_57), u76, u77]) (fun Q hq => hq) ?_
      unfold f_names_b53 at m74
      try dsimp only at m74
      obtain ⟨x78, k79, m74⟩ := bnd m74
      obtain ⟨x80, k81, m74⟩ := bnd m74
      obtain ⟨x82, k83, m74⟩ := bnd m74
      obtain ⟨x84, k85, m74⟩ := bnd m74
      refine s_setV (K := K) (d := eS x84) (i := 7) (σ' := [some (.int cell_here_1), some (.int many_2), some v9, some (.str letters_15), some v36, some (.ref p48), some (.int k_57), some (.str x84), u77]) (fun _ _ h => Dt.toStr h) hS63 (d_scat (d_ixS (d_var rfl (.str _)) (d_modC (d_add (d_ix (e := eI) (d_var rfl (Dt.gr (Gr.tr g13 (Gr.tr g19 (Gr.tr g32 (Gr.tr g44 (Gr.tr g61 g62))))) hv10)) d_int k79) (d_var rfl (.int _))) d_int (by decide)) k81) (d_ixS (d_var rfl (.str _)) (d_fdivC (d_var rfl (.int _)) d_int ⟨by decide, by decide⟩) k83) k85) rfl (fun F86 H87 g88 hS89 => ?_)
      obtain ⟨x90, k91, m74⟩ := bnd m74
      obtain ⟨x92, k93, m74⟩ := bnd m74
      obtain ⟨x94, k95, m74⟩ := bnd m74
      obtain ⟨x96, k97, m74⟩ := bnd m74
      obtain ⟨x98, k99, m74⟩ := bnd m74
      obtain ⟨x100, k101, m74⟩ := bnd m74
      obtain ⟨x102, k103, m74⟩ := bnd m74
      refine s_setV (K := K) (d := eS x102) (i := 8) (σ' := [some (.int cell_here_1), some (.int many_2), some v9, some (.str letters_15), some v36, some (.ref p48), some (.int k_57), some (.str x84), some (.str x102)]) (fun _ _ h => Dt.toStr h) hS89 (d_scat (d_scat (d_srep d_str (d_ix (e := eI) (d_var rfl (Dt.gr (Gr.tr g13 (Gr.tr g19 (Gr.tr g32 (Gr.tr g44 (Gr.tr g61 (Gr.tr g62 g88)))))) hv10)) d_int k91) k93) (d_var rfl (.str _)) k95) (d_srep d_str (d_min2 (a_cons (d_ix (e := eI) (d_var rfl (Dt.gr (Gr.tr g13 (Gr.tr g19 (Gr.tr g32 (Gr.tr g44 (Gr.tr g61 (Gr.tr g62 g88)))))) hv10)) d_int k97) (a_cons (d_sub d_int (d_ix (e := eI) (d_var rfl (Dt.gr (Gr.tr g13 (Gr.tr g19 (Gr.tr g32 (Gr.tr g44 (Gr.tr g61 (Gr.tr g62 g88)))))) hv10)) d_int k99)) a_nil))) k101) k103) rfl (fun F104 H105 g106 hS107 => ?_)
      obtain ⟨x108, k109, m74⟩ := bnd m74
      obtain ⟨x110, k111, m74⟩ := bnd m74
      obtain ⟨x112, k113, m74⟩ := bnd m74
      obtain ⟨found_114, k115, m74⟩ := bnd m74
      refine s_appFX (K := K) (k1 := []) (x := x112) (l1 := []) (p := p48) (vf := V.str) (en := eS) (fun _ _ _ h => Dt.toStr h) hS107 rfl (d_ix (e := eS) (EvC.dd (c_cat (en := eS) (d_var rfl (Dt.gr (Gr.tr g44 (Gr.tr g61 (Gr.tr g62 (Gr.tr g88 g106)))) h41)) (EvC.dd (c_rep (en := eS) (c_lst (a_cons (d_var rfl (.str _)) a_nil) (Nat.le_of_ble_eq_true rfl)) (fun _ => (d_var rfl (.int _))) k109)) k111)) (d_var rfl (.int _)) k113) k115 (fun F116 H117 g118 hS119 => ?_)
      obtain rfl := sm m74
      exact hN69 _ _ _ _ (Gr.tr g88 (Gr.tr g106 g118)) hS119 ⟨_, _, _, rfl, rfl⟩
    · rintro F120 σ125 c124 H121 g122 hS123 ⟨u127, u128, u129, rfl, rfl⟩
      have hS130 := Sta.frozeAt (l1 := []) hS123
      refine s_ret (K := K) (d := (eL eS) found_126) hS130 (d_var rfl (Dt.lst (.inl (.inl upd_same)) (Dts.gr (Gr.new (Sta.freeAt (l1 := []) hS123)) (Dts.of_strs _)))) (fun v135 F131 H132 g133 hS134 hv136 => ?_)
      obtain rfl := sm m
      exact q _ _ _ (Gr.tr g7 (Gr.tr g13 (Gr.tr g19 (Gr.tr g32 (Gr.tr g44 (Gr.tr g122 (Gr.tr (Gr.new (Sta.freeAt (l1 := []) hS123)) g133))))))) hS134 hv136
  · rw [if_pos hc] at k29
    obtain ⟨some_145, k146, k29⟩ := lt k29
    refine s_set (K := K) (d := (eL eS) some_145) (i := 4) (σ' := fun v147 => [some (.int cell_here_1), some (.int many_2), some v9, some (.str letters_15), some v147, none, none, none, none]) hS140 (d_is (d_lst (a_cons d_str (a_cons d_str (a_cons d_str (a_cons d_str (a_cons d_str (a_cons d_str (a_cons d_str (a_cons d_str (a_cons d_str (a_cons d_str (a_cons d_str a_nil))))))))))) (Nat.le_of_ble_eq_true rfl)) (congrArg (eL eS) k146)) (fun _ => rfl) (fun v147 F141 H142 g143 hS144 hv148 => ?_)
    obtain rfl := sm k29
    exact jn28 _ _ ⟨_, _, (Gr.tr g139 g143), hS144, _, _, _, _, _, rfl, rfl, hv148⟩
  · rw [if_neg (bf hc)] at k29
    refine nxt ?_
    obtain rfl := sm k29
    exact jn28 _ _ ⟨_, _, g151, hS152, _, _, _, _, _, rfl, rfl, (Dt.gr g151 hv24)⟩
theorem sc_names : FnScope N_names ["_law_cell_here", "_law_many"] (defScope s_names) := ⟨rfl, rfl, rfl, by decide +kernel, rfl, by decide +kernel, by decide +kernel⟩
theorem ok_names {P : Program} {w : World} {K : PySem.W.Frag} {mg : Str → Option Value} {base : Heap} (hF : Df K mg "_law_names" s_names) (m_min : mg "min" = none) (m_range : mg "range" = none) (o_draws : Ok P w K mg base 1 "_law_draws" ["_law_cell_here", "_law_k", "_law_sizes"] (sp_draws K)) : Ok P w K mg base 2 "_law_names" ["_law_cell_here", "_law_many"] (sp_names K) := by
  obtain ⟨⟨_, G_draws, bd_draws, _⟩, kp_draws, gm_draws⟩ := o_draws
  obtain ⟨⟨fd, F⟩, gm⟩ := hF
  refine ⟨⟨fd, F.ok sc_names (fun vs H Q E h => ?_) (fun cdv A outer s H vs Q E hr h => ⟨t_names K, PSs.nox ?_, w_names vs H Q E h⟩), F.bindsN fun _ _ _ _ _ _ us hl => match us, hl with | [_, _], _ => rfl, lk_of F⟩, F.kp, gm⟩
  · obtain ⟨F0, cs, x, y, h, _⟩ := h; exact Dts.len h
  · exact (pss_cons (ps_set (i := 2) sc_names.nd rfl (Or.inl rfl) (pe_call G_draws (hr.mono (by decide)) (by rfl) gm_draws kp_draws bd_draws .nil pass0 (pa_cons (pv 0) (pa_cons pe_int (pa_cons (pe_lst (pa_cons pe_int (pa_cons pe_int (pa_cons pe_int (pa_cons pe_int pa_nil))))) pa_nil))))) (pss_cons (ps_set (i := 3) sc_names.nd rfl (Or.inl rfl) pe_str) (pss_cons (ps_set (i := 4) sc_names.nd rfl (Or.inl rfl) (pe_lst pa_nil)) (pss_cons (ps_if (pt_cmpR op_eq (pe_ix ix_list (pv 2) pe_int (fun _ _ => rfl)) pe_int (nomark _)) (pss_one (ps_set (i := 4) sc_names.nd rfl (Or.inl rfl) (pe_lst (pa_cons pe_str (pa_cons pe_str (pa_cons pe_str (pa_cons pe_str (pa_cons pe_str (pa_cons pe_str (pa_cons pe_str (pa_cons pe_str (pa_cons pe_str (pa_cons pe_str (pa_cons pe_str pa_nil)))))))))))))) pss_nil) (pss_cons (ps_set (i := 5) sc_names.nd rfl (Or.inl rfl) (pe_lst pa_nil)) (pss_cons (ps_for PassesOwn.never rfl (pi_range1 (by rfl) m_range (pa_cons (pv 1) pa_nil)) (pg_name (i := 6) sc_names.nd rfl (Or.inl rfl)) (pss_cons (ps_set (i := 7) sc_names.nd rfl (Or.inl rfl) (pe_op op_scatR (pe_ix ix_str (pv 3) (pe_op op_mod (pe_op op_add (pe_ix ix_list (pv 2) pe_int (fun _ _ => rfl)) (pv 6)) pe_int) (fun _ _ => rfl)) (pe_ix ix_str (pv 3) (pe_op op_fdiv (pv 6) pe_int) (fun _ _ => rfl)))) (pss_cons (ps_set (i := 8) sc_names.nd rfl (Or.inl rfl) (pe_op op_scatR (pe_op op_scatR (pe_op op_srep pe_str (pe_ix ix_list (pv 2) pe_int (fun _ _ => rfl))) (pv 7)) (pe_op op_srep pe_str (pe_callB (cr_min2 rfl) (by rfl) m_min (by decide +kernel) (pa_cons (pe_ix ix_list (pv 2) pe_int (fun _ _ => rfl)) (pa_cons (pe_op op_sub pe_int (pe_ix ix_list (pv 2) pe_int (fun _ _ => rfl))) pa_nil)))))) (pss_one (ps_expr (pe_bm PySem.F.plainAttrs_list PySem.F.slot_list_append PySem.F.type_list_append mt_append (pv 5) (pa_cons (pe_ix ix_list (pe_op op_catS (pv 4) (pe_op op_rep (pe_lst (pa_cons (pv 8) pa_nil)) (pv 1))) (pv 6) (fun _ _ => rfl)) pa_nil))))))) (pss_one (ps_ret (pv 5)))))))))
abbrev s_cell : Stmt := (top 26)
def f_cell : ((List Int) × Int) → Option Int := fun (script_1, k_2) => (if (decide (k_2 < (script_1.length : Int))) = true then (((atI script_1 k_2)).bind fun x7 => some x7) else some (0 : Int))
abbrev A_cell : ((List Int) × Int) → List PyData := fun x => [(eL eI) x.1, eI x.2]
abbrev N_cell : List Str := ["_law_script", "_law_k"]
abbrev sp_cell (K : PySem.W.Frag) : Sp := spP K A_cell eI f_cell
def t_cell (K : PySem.W.Frag) : TS := (tSeq (tIfS (tTest (tOp (rI0 fun i j => .bl (decide (i < j))) (tVar 1) (tCB (rLenL K) (tCons (tVar 0) tNil)))) (tRet (tOp (rIxL K) (tVar 0) (tVar 1))) tNext) (tRet (tC (.int 0))))
theorem w_cell {K : PySem.W.Frag} (vs : List V) (H : Hp) (Q : VK) (E : XK) (h : sp_cell K vs H Q E) : t_cell K { nx := fun _ H' => Q .non H', rt := Q } (start N_cell vs) H := by
  obtain ⟨F0, cs, ⟨script_1, k_2⟩, y, h, hS0, m, q⟩ := h
  obtain ⟨a0, _, rfl, ha0, h⟩ := Dts.hd h
  obtain ⟨a1, _, rfl, ha1, h⟩ := Dts.hd h
  obtain rfl := Dts.no h
  obtain rfl := Dt.toInt ha1
  unfold f_cell at m
  try dsimp only at m
  unfold t_cell
  refine go (σ' := [some a0, some (.int k_2)]) rfl ?_
  refine s_if (b := (decide (k_2 < (script_1.length : Int)))) hS0 (t_test (K := K) (d_lt (d_var rfl (.int _)) (d_len (e := eI) (a_cons (d_var rfl ha0) a_nil)))) (fun hc F3 H4 g5 hS6 => ?_) (fun hc F15 H16 g17 hS18 => ?_)
  · rw [if_pos hc] at m
    obtain ⟨x7, k8, m⟩ := bnd m
    refine s_ret (K := K) (d := eI x7) hS6 (d_ix (e := eI) (d_var rfl (Dt.gr g5 ha0)) (d_var rfl (.int _)) k8) (fun v13 F9 H10 g11 hS12 hv14 => ?_)
    obtain rfl := sm m
    exact q _ _ _ (Gr.tr g5 g11) hS12 hv14
  · rw [if_neg (bf hc)] at m
    refine nxt ?_
    refine s_ret (K := K) (d := eI (0 : Int)) hS18 d_int (fun v23 F19 H20 g21 hS22 hv24 => ?_)
    obtain rfl := sm m
    exact q _ _ _ (Gr.tr g17 g21) hS22 hv24
theorem sc_cell : FnScope N_cell ["_law_script", "_law_k"] (defScope s_cell) := ⟨rfl, rfl, rfl, by decide +kernel, rfl, by decide +kernel, by decide +kernel⟩
theorem ok_cell {P : Program} {w : World} {K : PySem.W.Frag} {mg : Str → Option Value} {base : Heap} (hF : Df K mg "_law_cell" s_cell) (m_len : mg "len" = none) : Ok P w K mg base 1 "_law_cell" ["_law_script", "_law_k"] (sp_cell K) := by
  obtain ⟨⟨fd, F⟩, gm⟩ := hF
  refine ⟨⟨fd, F.ok sc_cell (fun vs H Q E h => ?_) (fun cdv A outer s H vs Q E hr h => ⟨t_cell K, PSs.nox ?_, w_cell vs H Q E h⟩), F.bindsN fun _ _ _ _ _ _ us hl => match us, hl with | [_, _], _ => rfl, lk_of F⟩, F.kp, gm⟩
  · obtain ⟨F0, cs, x, y, h, _⟩ := h; exact Dts.len h
  · exact (pss_cons (ps_if (pt_cmpR op_lt (pv 1) (pe_callB cr_lenL (by rfl) m_len PySem.boot_len (pa_cons (pv 0) pa_nil)) (nomark _)) (pss_one (ps_ret (pe_ix ix_list (pv 0) (pv 1) (fun _ _ => rfl)))) pss_nil) (pss_one (ps_ret pe_int)))
abbrev s_boxes : Stmt := (top 29)
def f_boxes_b13 : (List Int) → (Int × Int) → Option (List Int) := fun here_16 (bay_17, room_18) => (((repM ([bay_17] : (List Int)) room_18)).bind fun x53 => ((catM here_16 x53)).bind fun x55 => some x55)
def f_boxes_b112 (script_1 : (List Int)) (x90 : (List Str)) : ((List Int) × (List Int) × (List (Str × Int × Int))) → Int → Option ((List Int) × (List Int) × (List (Str × Int × Int))) := fun (here_115, there_116, boxes_here_117) k_118 => (((f_cell (script_1, ((4 : Int) + k_118)))).bind fun x144 => ((f_draws (x144, ((4 : Int) + k_118), ([(here_115.length : Int), (there_116.length : Int), (5 : Int)] : (List Int))))).bind fun x152 => (((atI x152 (0 : Int))).bind fun x160 => ((popM here_115 x160)).bind fun (at_162, here_163) => (((atI x152 (1 : Int))).bind fun x172 => ((atI there_116 x172)).bind fun x174 => (((atI x152 (2 : Int))).bind fun x183 => ((if ((decide (x183 = (0 : Int))) && (inL at_162 there_116)) = true then some at_162 else some x174)).bind fun to_185 => (((remM there_116 to_185)).bind fun there_196 => (((atI x90 k_118)).bind fun x202 => ((appM boxes_here_117 (x202, at_162, to_185))).bind fun boxes_here_204 => some (here_163, there_196, boxes_here_204)))))))
def f_boxes : ((List Int) × (List Int) × Int) → Option ((List (Str × Int × Int))) := fun (script_1, rooms_2, many_3) => (letM ([] : (List Int)) fun here_8 => ((enumM rooms_2).foldlM (f_boxes_b13) here_8).bind fun here_70 => (((f_cell (script_1, (3 : Int)))).bind fun x88 => ((f_names (x88, many_3))).bind fun x90 => (letM ([] : (List (Str × Int × Int))) fun boxes_here_102 => (((rngM (0 : Int) (minI many_3 (here_70.length : Int)))).bind fun x110 => (x110.foldlM (f_boxes_b112 script_1 x90) (here_70, here_70, boxes_here_102)).bind fun (here_230, there_231, boxes_here_232) => some boxes_here_232))))
abbrev A_boxes : ((List Int) × (List Int) × Int) → List PyData := fun x => [(eL eI) x.1, (eL eI) x.2.1, eI x.2.2]
abbrev N_boxes : List Str := ["_law_script", "_law_rooms", "_law_many", "_law_here", "_law_there", "_law_names_here", "_law_boxes_here", "_law_k", "_law_bay", "_law_room", "_law_row", "_law_at", "_law_to"]
abbrev sp_boxes (K : PySem.W.Frag) : Sp := spP K A_boxes (eL (eT3 eS eI eI)) f_boxes
def t_boxes (K : PySem.W.Frag) : TS := (tSeq (tAsg (tLst tNil) (gName 3)) (tSeq (tFor (iEnum K (tCons (tVar 1) tNil)) (gTup K 2 (gCons (gName 8) (gCons (gName 9) gNil))) (tAsg (tOp (rCatS K) (tVar 3) (tOp rRep (tLst (tCons (tVar 8) tNil)) (tVar 9))) (gName 3))) (tSeq (tAsg (tCB (rListS K) (tCons (tVar 3) tNil)) (gName 4)) (tSeq (tAsg (tCall (sp_names K) [] E0 (tCons (tCall (sp_cell K) [] E0 (tCons (tVar 0) (tCons (tC (.int 3)) tNil))) (tCons (tVar 2) tNil))) (gName 5)) (tSeq (tAsg (tLst tNil) (gName 6)) (tSeq (tFor (iRng1 (tCons (tCB rMin2 (tCons (tVar 2) (tCons (tCB (rLenL K) (tCons (tVar 3) tNil)) tNil))) tNil)) (gName 7) (tSeq (tAsg (tCall (sp_draws K) [] E0 (tCons (tCall (sp_cell K) [] E0 (tCons (tVar 0) (tCons (tOp (rI0 fun i j => .int (i + j)) (tC (.int 4)) (tVar 7)) tNil))) (tCons (tOp (rI0 fun i j => .int (i + j)) (tC (.int 4)) (tVar 7)) (tCons (tLst (tCons (tCB (rLenL K) (tCons (tVar 3) tNil)) (tCons (tCB (rLenL K) (tCons (tVar 4) tNil)) (tCons (tC (.int 5)) tNil)))) tNil)))) (gName 10)) (tSeq (tAsg (tBM K "list" rPopAt (tVar 3) (tCons (tOp (rIxL K) (tVar 10) (tC (.int 0))) tNil)) (gName 11)) (tSeq (tAsg (tOp (rIxL K) (tVar 4) (tOp (rIxL K) (tVar 10) (tC (.int 1)))) (gName 12)) (tSeq (tIfS (tAnd (tTest (tOp rEq (tOp (rIxL K) (tVar 10) (tC (.int 2))) (tC (.int 0)))) (tTest (tOp (rIn K false) (tVar 11) (tVar 4)))) (tAsg (tVar 11) (gName 12)) tNext) (tSeq (tDrop (tBM K "list" rRemI (tVar 4) (tCons (tVar 12) tNil))) (tDrop (tBM K "list" rAppend (tVar 6) (tCons (tTup (tCons (tOp (rIxL K) (tVar 5) (tVar 7)) (tCons (tVar 11) (tCons (tVar 12) tNil)))) tNil))))))))) (tRet (tVar 6))))))))
theorem w_boxes {K : PySem.W.Frag} (vs : List V) (H : Hp) (Q : VK) (E : XK) (h : sp_boxes K vs H Q E) : t_boxes K { nx := fun _ H' => Q .non H', rt := Q } (start N_boxes vs) H := by
  obtain ⟨F0, cs, ⟨script_1, rooms_2, many_3⟩, y, h, hS0, m, q⟩ := h
  obtain ⟨a0, _, rfl, ha0, h⟩ := Dts.hd h
  obtain ⟨a1, _, rfl, ha1, h⟩ := Dts.hd h
  obtain ⟨a2, _, rfl, ha2, h⟩ := Dts.hd h
  obtain rfl := Dts.no h
  obtain rfl := Dt.toInt ha2
  unfold f_boxes at m
  try dsimp only at m
  unfold t_boxes
  refine go (σ' := [some a0, some a1, some (.int many_3), none, none, none, none, none, none, none, none, none, none]) rfl ?_
  obtain ⟨here_8, k9, m⟩ := lt m
  refine s_setC (K := K) (ds := here_8.map eI) (i := 3) (σ' := fun p10 => [some a0, some a1, some (.int many_3), some (.ref p10), none, none, none, none, none, none, none, none, none]) hS0 (c_is (c_lst a_nil (Nat.le_of_ble_eq_true rfl)) (congrArg (List.map eI) k9)) (fun _ => rfl) (fun p10 us11 F4 H5 g6 hS7 hu12 => ?_)
  obtain rfl := Dts.ints hu12
  obtain ⟨here_70, k15, m⟩ := bnd m
  refine s_for (K := K) (xs := (enumM rooms_2)) (en := (eT2 eI eI)) (body := (f_boxes_b13)) (s0 := here_8) (r := here_70) (fun (a : (List Int)) F σ c => ∃ (j4 : Option V) (j5 : Option V) (j6 : Option V) (j7 : Option V) (j8 : Option V) (j9 : Option V) (j10 : Option V) (j11 : Option V) (j12 : Option V) (y3 : Addr), σ = [some a0, some a1, some (.int many_3), some (.ref y3), j4, j5, j6, j7, j8, j9, j10, j11, j12] ∧ (y3, .lst (a.map V.int)) :: cs = c) hS7 (i_enum (en := eI) (a_cons (d_var rfl (Dt.gr g6 ha1)) a_nil)) (fun _ _ => ⟨_, _, _, _, _, _, _, _, _, _, rfl, rfl⟩) k15 ?_ ?_
  · rintro ⟨bay_17, room_18⟩ here_16 b27 F19 F20 σ33 c34 H21 v26 N28 g22 ⟨u36, u37, u38, u39, u40, u41, u42, u43, u44, p45, rfl, rfl⟩ g23 hS24 hv25 m35 hN30
    obtain ⟨p46, w48, w49, rfl, hT47, hw50, hw51⟩ := u2 hv25
    obtain rfl := Dt.toInt hw50
    obtain rfl := Dt.toInt hw51
    refine tg (σ' := [some a0, some a1, some (.int many_3), some (.ref p45), u36, u37, u38, u39, some (.int bay_17), some (.int room_18), u42, u43, u44]) (fun Q hq => ⟨p46, [_, _], rfl, gr_T hS24.fr hT47, rfl, _, _, rfl, _, _, rfl, rfl, hq⟩) ?_
    unfold f_boxes_b13 at m35
    try dsimp only at m35
    have hS52 := Sta.frozeAt (l1 := []) hS24
    obtain ⟨x53, k54, m35⟩ := bnd m35
    obtain ⟨x55, k56, m35⟩ := bnd m35
    refine s_setC (K := K) (ds := x55.map eI) (i := 3) (σ' := fun p61 => [some a0, some a1, some (.int many_3), some (.ref p61), u36, u37, u38, u39, some (.int bay_17), some (.int room_18), u42, u43, u44]) hS52 (c_cat (en := eI) (d_var rfl (Dt.lst (.inl (.inl upd_same)) (Dts.gr (Gr.new (Sta.freeAt (l1 := []) hS24)) (Dts.of_ints _)))) (EvC.dd (c_rep (en := eI) (c_lst (a_cons (d_var rfl (.int _)) a_nil) (Nat.le_of_ble_eq_true rfl)) (fun _ => (d_var rfl (.int _))) k54)) k56) (fun _ => rfl) (fun p61 us62 F57 H58 g59 hS60 hu63 => ?_)
    obtain rfl := Dts.ints hu63
    obtain rfl := sm m35
    exact hN30 _ _ _ _ (Gr.tr (Gr.new (Sta.freeAt (l1 := []) hS24)) g59) hS60 ⟨_, _, _, _, _, _, _, _, _, _, rfl, rfl⟩
  · rintro F64 σ69 c68 H65 g66 hS67 ⟨u71, u72, u73, u74, u75, u76, u77, u78, u79, p80, rfl, rfl⟩
    refine s_setC (K := K) (ds := here_70.map eI) (i := 4) (σ' := fun p85 => [some a0, some a1, some (.int many_3), some (.ref p80), some (.ref p85), u72, u73, u74, u75, u76, u77, u78, u79]) hS67 (c_listC (l1 := []) rfl (Dts.of_ints _)) (fun _ => rfl) (fun p85 us86 F81 H82 g83 hS84 hu87 => ?_)
    obtain rfl := Dts.ints hu87
    obtain ⟨x88, k89, m⟩ := bnd m
    obtain ⟨x90, k91, m⟩ := bnd m
    refine s_set (K := K) (d := (eL eS) x90) (i := 5) (σ' := fun v96 => [some a0, some a1, some (.int many_3), some (.ref p80), some (.ref p85), some v96, u73, u74, u75, u76, u77, u78, u79]) hS84 (d_call (A := A_names) (B := (eL eS)) (x := (x88, many_3)) (a_cons (d_call (A := A_cell) (B := eI) (x := (script_1, (3 : Int))) (a_cons (d_var rfl (Dt.gr (Gr.tr g6 (Gr.tr g66 g83)) ha0)) (a_cons d_int a_nil)) k89) (a_cons (d_var rfl (.int _)) a_nil)) k91) (fun _ => rfl) (fun v96 F92 H93 g94 hS95 hv97 => ?_)
    obtain ⟨boxes_here_102, k103, m⟩ := lt m
    refine s_setC (K := K) (ds := boxes_here_102.map (eT3 eS eI eI)) (i := 6) (σ' := fun p104 => [some a0, some a1, some (.int many_3), some (.ref p80), some (.ref p85), some v96, some (.ref p104), u74, u75, u76, u77, u78, u79]) hS95 (c_is (c_lst a_nil (Nat.le_of_ble_eq_true rfl)) (congrArg (List.map (eT3 eS eI eI)) k103)) (fun _ => rfl) (fun p104 us105 F98 H99 g100 hS101 hu106 => ?_)
    obtain ⟨x110, k111, m⟩ := bnd m
    obtain ⟨⟨here_230, there_231, boxes_here_232⟩, k114, m⟩ := bnd m
    try dsimp only at m
    refine s_for (K := K) (xs := x110) (en := eI) (body := (f_boxes_b112 script_1 x90)) (s0 := (here_70, here_70, boxes_here_102)) (r := (here_230, there_231, boxes_here_232)) (fun (a : (List Int) × (List Int) × (List (Str × Int × Int))) F σ c => ∃ (j7 : Option V) (j8 : Option V) (j9 : Option V) (j10 : Option V) (j11 : Option V) (j12 : Option V) (z6 : List V), σ = [some a0, some a1, some (.int many_3), some (.ref p80), some (.ref p85), some v96, some (.ref p104), j7, j8, j9, j10, j11, j12] ∧ (p104, .lst z6) :: (p85, .lst (a.2.1.map V.int)) :: (p80, .lst (a.1.map V.int)) :: cs = c ∧ Dts K F z6 (a.2.2.map (eT3 eS eI eI))) hS101 (i_rng1 (a_cons (d_lendX (l1 := [(p104, HO.lst us105), (p85, HO.lst (here_70.map V.int))]) (m1 := [(p104, HO.lst us105), (p85, HO.lst (here_70.map V.int))]) (fun _ _ h => Dt.toInt h) (fun _ => (.int _)) (fun F107 g108 hn109 => (d_min2 (a_cons (d_var rfl (.int _)) (a_cons (d_len (e := eI) (a_cons (d_var rfl (lent_l hn109 (Dts.gr g108 (Dts.of_ints _)))) a_nil)) a_nil))))) a_nil) k111) (fun _ _ => ⟨_, _, _, _, _, _, _, rfl, rfl, (Dts.gr ‹_› hu106)⟩) k114 ?_ ?_
    · rintro k_118 ⟨here_115, there_116, boxes_here_117⟩ b127 F119 F120 σ133 c134 H121 v126 N128 g122 ⟨u136, u137, u138, u139, u140, u141, us142, rfl, rfl, h143⟩ g123 hS124 hv125 m135 hN130
      obtain rfl := Dt.toInt hv125
      refine tg (σ' := [some a0, some a1, some (.int many_3), some (.ref p80), some (.ref p85), some v96, some (.ref p104), some (.int k_118), u137, u138, u139, u140, u141]) (fun Q hq => hq) ?_
      unfold f_boxes_b112 at m135
      try dsimp only at m135
      obtain ⟨x144, k145, m135⟩ := bnd m135
      obtain ⟨x152, k153, m135⟩ := bnd m135
      refine s_set (K := K) (d := (eL eI) x152) (i := 10) (σ' := fun v158 => [some a0, some a1, some (.int many_3), some (.ref p80), some (.ref p85), some v96, some (.ref p104), some (.int k_118), u137, u138, some v158, u140, u141]) hS124 (d_call (A := A_draws) (B := (eL eI)) (x := (x144, ((4 : Int) + k_118), ([(here_115.length : Int), (there_116.length : Int), (5 : Int)] : (List Int)))) (a_cons (d_call (A := A_cell) (B := eI) (x := (script_1, ((4 : Int) + k_118))) (a_cons (d_var rfl (Dt.gr (Gr.tr g6 (Gr.tr g66 (Gr.tr g83 (Gr.tr g94 (Gr.tr g100 (Gr.tr g122 g123)))))) ha0)) (a_cons (d_add d_int (d_var rfl (.int _))) a_nil)) k145) (a_cons (d_add d_int (d_var rfl (.int _))) (a_cons (d_lst (a_cons (d_lendX (l1 := [(p104, HO.lst us142), (p85, HO.lst (there_116.map V.int))]) (m1 := [(p104, HO.lst us142), (p85, HO.lst (there_116.map V.int))]) (fun _ _ h => Dt.toInt h) (fun _ => (.int _)) (fun F146 g147 hn148 => (d_len (e := eI) (a_cons (d_var rfl (lent_l hn148 (Dts.gr g147 (Dts.of_ints _)))) a_nil)))) (a_cons (d_lendX (l1 := [(p104, HO.lst us142)]) (m1 := [(p104, HO.lst us142)]) (fun _ _ h => Dt.toInt h) (fun _ => (.int _)) (fun F149 g150 hn151 => (d_len (e := eI) (a_cons (d_var rfl (lent_l hn151 (Dts.gr g150 (Dts.of_ints _)))) a_nil)))) (a_cons d_int a_nil))) (Nat.le_of_ble_eq_true rfl)) a_nil))) k153) (fun _ => rfl) (fun v158 F154 H155 g156 hS157 hv159 => ?_)
      obtain ⟨x160, k161, m135⟩ := bnd m135
      obtain ⟨⟨at_162, here_163⟩, k164, m135⟩ := bnd m135; (try dsimp only at m135)
      refine s_popFX (K := K) (k1 := [(p104, .lst us142), (p85, .lst (there_116.map V.int))]) (l1 := [(p104, .lst us142), (p85, .lst (there_116.map V.int))]) (p := p80) (vf := V.int) (en := eI) (j := 11) (σ' := [some a0, some a1, some (.int many_3), some (.ref p80), some (.ref p85), some v96, some (.ref p104), some (.int k_118), u137, u138, some v158, some (.int at_162), u141]) (fun _ _ => (.int _)) hS157 rfl (d_ix (e := eI) (d_var rfl hv159) d_int k161) k164 rfl (fun F165 H166 g167 hS168 => ?_)
      obtain ⟨x172, k173, m135⟩ := bnd m135
      obtain ⟨x174, k175, m135⟩ := bnd m135
      refine s_setV (K := K) (d := eI x174) (i := 12) (σ' := [some a0, some a1, some (.int many_3), some (.ref p80), some (.ref p85), some v96, some (.ref p104), some (.int k_118), u137, u138, some v158, some (.int at_162), some (.int x174)]) (fun _ _ h => Dt.toInt h) hS168 (d_lendX (l1 := [(p104, HO.lst us142)]) (m1 := [(p104, HO.lst us142)]) (fun _ _ h => Dt.toInt h) (fun _ => (.int _)) (fun F169 g170 hn171 => (d_ix (e := eI) (d_var rfl (lent_l hn171 (Dts.gr g170 (Dts.of_ints _)))) (d_ix (e := eI) (d_var rfl (Dt.gr (Gr.tr g167 (Gr.tr g170 (Gr.new hn171))) hv159)) d_int k173) k175))) rfl (fun F176 H177 g178 hS179 => ?_)
      obtain ⟨x183, k184, m135⟩ := bnd m135
      obtain ⟨to_185, k187, m135⟩ := bnd m135
      refine s_ifJ (b := ((decide (x183 = (0 : Int))) && (inL at_162 there_116))) (fun σ H => ∃ (F : Hp) (c : Cs), Gr F176 F ∧ Sta F c H ∧ ∃ (j8 : Option V) (j9 : Option V), σ = [some a0, some a1, some (.int many_3), some (.ref p80), some (.ref p85), some v96, some (.ref p104), some (.int k_118), j8, j9, some v158, some (.int at_162), some (.int to_185)] ∧ (p104, .lst us142) :: (p85, .lst (there_116.map V.int)) :: (p80, .lst (here_163.map V.int)) :: cs = c) hS179 (t_lendX (l1 := [(p104, HO.lst us142)]) (m1 := [(p104, HO.lst us142)]) (fun F180 g181 hn182 => (t_andP (t_test (K := K) (d_eqI (d_ix (e := eI) (d_var rfl (Dt.gr (Gr.tr g167 (Gr.tr g178 (Gr.tr g181 (Gr.new hn182)))) hv159)) d_int k184) d_int)) (fun hc => (t_test (K := K) (d_inI (d_var rfl (.int _)) (d_var rfl (lent_l hn182 (Dts.gr g181 (Dts.of_ints _)))))))))) ?_ (fun jn186 hc F212 H213 g214 hS215 => ?_) (fun jn186 hc F220 H221 g222 hS223 => ?_)
      · rintro σ193 H189 ⟨F188, c192, g190, hS191, u194, u195, rfl, rfl⟩
        obtain ⟨there_196, k197, m135⟩ := bnd m135
        refine s_remFX (K := K) (k1 := [(p104, .lst us142)]) (l1 := [(p104, .lst us142)]) (p := p85) hS191 rfl (d_var rfl (.int _)) k197 (fun F198 H199 g200 hS201 => ?_)
        obtain ⟨x202, k203, m135⟩ := bnd m135
        obtain ⟨boxes_here_204, k205, m135⟩ := bnd m135
        refine s_appGX (K := K) (k1 := []) (x := (x202, at_162, to_185)) (l1 := []) (p := p104) (en := (eT3 eS eI eI)) hS201 (Dts.gr (Gr.tr g123 (Gr.tr g156 (Gr.tr g167 (Gr.tr g178 (Gr.tr g190 g200))))) h143) rfl (d_tup (a_cons (d_ix (e := eS) (d_var rfl (Dt.gr (Gr.tr g100 (Gr.tr g122 (Gr.tr g123 (Gr.tr g156 (Gr.tr g167 (Gr.tr g178 (Gr.tr g190 g200))))))) hv97)) (d_var rfl (.int _)) k203) (a_cons (d_var rfl (.int _)) (a_cons (d_var rfl (.int _)) a_nil))) (Nat.le_of_ble_eq_true rfl)) k205 (fun us210 F206 H207 g208 hS209 hu211 => ?_)
        obtain rfl := sm m135
        exact hN130 _ _ _ _ (Gr.tr g156 (Gr.tr g167 (Gr.tr g178 (Gr.tr g190 (Gr.tr g200 g208))))) hS209 ⟨_, _, _, _, _, _, _, rfl, rfl, hu211⟩
      · rw [if_pos hc] at k187
        refine s_setV (K := K) (d := eI at_162) (i := 12) (σ' := [some a0, some a1, some (.int many_3), some (.ref p80), some (.ref p85), some v96, some (.ref p104), some (.int k_118), u137, u138, some v158, some (.int at_162), some (.int at_162)]) (fun _ _ h => Dt.toInt h) hS215 (d_var rfl (.int _)) rfl (fun F216 H217 g218 hS219 => ?_)
        obtain rfl := sm k187
        exact jn186 _ _ ⟨_, _, (Gr.tr g214 g218), hS219, _, _, rfl, rfl⟩
      · rw [if_neg (bf hc)] at k187
        refine nxt ?_
        obtain rfl := sm k187
        exact jn186 _ _ ⟨_, _, g222, hS223, _, _, rfl, rfl⟩
    · rintro F224 σ229 c228 H225 g226 hS227 ⟨u233, u234, u235, u236, u237, u238, us239, rfl, rfl, h240⟩
      have hS241 := Sta.frozeAt (l1 := []) hS227
      have hS242 := Sta.frozeAt (l1 := []) hS241
      have hS243 := Sta.frozeAt (l1 := []) hS242
      refine s_ret (K := K) (d := (eL (eT3 eS eI eI)) boxes_here_232) hS243 (d_var rfl (Dt.gr (Gr.tr (Gr.new (Sta.freeAt (l1 := []) hS241)) (Gr.new (Sta.freeAt (l1 := []) hS242))) (Dt.lst (.inl (.inl upd_same)) (Dts.gr (Gr.new (Sta.freeAt (l1 := []) hS227)) h240)))) (fun v248 F244 H245 g246 hS247 hv249 => ?_)
      obtain rfl := sm m
      exact q _ _ _ (Gr.tr g6 (Gr.tr g66 (Gr.tr g83 (Gr.tr g94 (Gr.tr g100 (Gr.tr g226 (Gr.tr (Gr.new (Sta.freeAt (l1 := []) hS227)) (Gr.tr (Gr.new (Sta.freeAt (l1 := []) hS241)) (Gr.tr (Gr.new (Sta.freeAt (l1 := []) hS242)) g246))))))))) hS247 hv249
theorem sc_boxes : FnScope N_boxes ["_law_script", "_law_rooms", "_law_many"] (defScope s_boxes) := ⟨rfl, rfl, rfl, by decide +kernel, rfl, by decide +kernel, by decide +kernel⟩
theorem ok_boxes {P : Program} {w : World} {K : PySem.W.Frag} {mg : Str → Option Value} {base : Heap} (hF : Df K mg "_law_boxes" s_boxes) (m_enumerate : mg "enumerate" = none) (m_len : mg "len" = none) (m_list : mg "list" = none) (m_min : mg "min" = none) (m_range : mg "range" = none) (o_draws : Ok P w K mg base 1 "_law_draws" ["_law_cell_here", "_law_k", "_law_sizes"] (sp_draws K)) (o_cell : Ok P w K mg base 1 "_law_cell" ["_law_script", "_law_k"] (sp_cell K)) (o_names : Ok P w K mg base 2 "_law_names" ["_law_cell_here", "_law_many"] (sp_names K)) : Ok P w K mg base 3 "_law_boxes" ["_law_script", "_law_rooms", "_law_many"] (sp_boxes K) := by
  obtain ⟨⟨_, G_draws, bd_draws, _⟩, kp_draws, gm_draws⟩ := o_draws
  obtain ⟨⟨_, G_cell, bd_cell, _⟩, kp_cell, gm_cell⟩ := o_cell
  obtain ⟨⟨_, G_names, bd_names, _⟩, kp_names, gm_names⟩ := o_names
  obtain ⟨⟨fd, F⟩, gm⟩ := hF
  refine ⟨⟨fd, F.ok sc_boxes (fun vs H Q E h => ?_) (fun cdv A outer s H vs Q E hr h => ⟨t_boxes K, PSs.nox ?_, w_boxes vs H Q E h⟩), F.bindsN fun _ _ _ _ _ _ us hl => match us, hl with | [_, _, _], _ => rfl, lk_of F⟩, F.kp, gm⟩
  · obtain ⟨F0, cs, x, y, h, _⟩ := h; exact Dts.len h
  · exact (pss_cons (ps_set (i := 3) sc_boxes.nd rfl (Or.inl rfl) (pe_lst pa_nil)) (pss_cons (ps_for PassesOwn.never rfl (pi_enum (by rfl) m_enumerate (pa_cons (pv 1) pa_nil)) (pg_tup rfl (pgs_cons (pg_name (i := 8) sc_boxes.nd rfl (Or.inl rfl)) (pgs_cons (pg_name (i := 9) sc_boxes.nd rfl (Or.inl rfl)) pgs_nil))) (pss_one (ps_set (i := 3) sc_boxes.nd rfl (Or.inl rfl) (pe_op op_catS (pv 3) (pe_op op_rep (pe_lst (pa_cons (pv 8) pa_nil)) (pv 9)))))) (pss_cons (ps_set (i := 4) sc_boxes.nd rfl (Or.inl rfl) (pe_callTy cr_list (by rfl) m_list (by decide +kernel) (pa_cons (pv 3) pa_nil))) (pss_cons (ps_set (i := 5) sc_boxes.nd rfl (Or.inl rfl) (pe_call G_names (hr.mono (by decide)) (by rfl) gm_names kp_names bd_names .nil pass0 (pa_cons (pe_call G_cell (hr.mono (by decide)) (by rfl) gm_cell kp_cell bd_cell .nil pass0 (pa_cons (pv 0) (pa_cons pe_int pa_nil))) (pa_cons (pv 2) pa_nil)))) (pss_cons (ps_set (i := 6) sc_boxes.nd rfl (Or.inl rfl) (pe_lst pa_nil)) (pss_cons (ps_for PassesOwn.never rfl (pi_range1 (by rfl) m_range (pa_cons (pe_callB (cr_min2 rfl) (by rfl) m_min (by decide +kernel) (pa_cons (pv 2) (pa_cons (pe_callB cr_lenL (by rfl) m_len PySem.boot_len (pa_cons (pv 3) pa_nil)) pa_nil))) pa_nil)) (pg_name (i := 7) sc_boxes.nd rfl (Or.inl rfl)) (pss_cons (ps_set (i := 10) sc_boxes.nd rfl (Or.inl rfl) (pe_call G_draws (hr.mono (by decide)) (by rfl) gm_draws kp_draws bd_draws .nil pass0 (pa_cons (pe_call G_cell (hr.mono (by decide)) (by rfl) gm_cell kp_cell bd_cell .nil pass0 (pa_cons (pv 0) (pa_cons (pe_op op_add pe_int (pv 7)) pa_nil))) (pa_cons (pe_op op_add pe_int (pv 7)) (pa_cons (pe_lst (pa_cons (pe_callB cr_lenL (by rfl) m_len PySem.boot_len (pa_cons (pv 3) pa_nil)) (pa_cons (pe_callB cr_lenL (by rfl) m_len PySem.boot_len (pa_cons (pv 4) pa_nil)) (pa_cons pe_int pa_nil)))) pa_nil))))) (pss_cons (ps_set (i := 11) sc_boxes.nd rfl (Or.inl rfl) (pe_bm PySem.F.plainAttrs_list PySem.F.slot_list_pop PySem.F.type_list_pop mt_popAt (pv 3) (pa_cons (pe_ix ix_list (pv 10) pe_int (fun _ _ => rfl)) pa_nil))) (pss_cons (ps_set (i := 12) sc_boxes.nd rfl (Or.inl rfl) (pe_ix ix_list (pv 4) (pe_ix ix_list (pv 10) pe_int (fun _ _ => rfl)) (fun _ _ => rfl))) (pss_cons (ps_if (PW.pt (pw_and (pt_cmpR op_eq (pe_ix ix_list (pv 10) pe_int (fun _ _ => rfl)) pe_int (nomark _)) (pw_and1 (pt_cmpR op_in_seq (pv 11) (pv 4) (by rfl))))) (pss_one (ps_set (i := 12) sc_boxes.nd rfl (Or.inl rfl) (pv 11))) pss_nil) (pss_cons (ps_expr (pe_bm PySem.F.plainAttrs_list PySem.F.slot_list_remove PySem.F.type_list_remove mt_remove (pv 4) (pa_cons (pv 12) pa_nil))) (pss_one (ps_expr (pe_bm PySem.F.plainAttrs_list PySem.F.slot_list_append PySem.F.type_list_append mt_append (pv 6) (pa_cons (pe_tup (pa_cons (pe_ix ix_list (pv 5) (pv 7) (fun _ _ => rfl)) (pa_cons (pv 11) (pa_cons (pv 12) pa_nil)))) pa_nil)))))))))) (pss_one (ps_ret (pv 6)))))))))
abbrev s_store : Stmt := (top 30)
def f_store : (List Int) → Option (((List Int) × (List Int) × Int × (List (Str × Int × Int)))) := fun script_1 => (((f_cell (script_1, (0 : Int)))).bind fun x2 => ((f_draws (x2, (0 : Int), ([(15 : Int), (6 : Int), (4 : Int), (20 : Int), (4 : Int), (61 : Int), (12 : Int)] : (List Int))))).bind fun x4 => (((atI x4 (0 : Int))).bind fun x12 => letM ((2 : Int) + x12) fun many_18 => (((atI x4 (1 : Int))).bind fun x20 => ((if (decide ((0 : Int) < x20)) = true then (((atI x4 (0 : Int))).bind fun x140 => letM ((2 : Int) + (x140 % (4 : Int))) fun many_146 => some many_146) else some many_18)).bind fun many_22 => (((atI x4 (2 : Int))).bind fun x38 => ((atI ([(1 : Int), (3 : Int), (40 : Int), (6 : Int)] : (List Int)) x38)).bind fun x40 => (((f_cell (script_1, (1 : Int)))).bind fun x46 => ((repM ([x40] : (List Int)) many_22)).bind fun x48 => ((f_draws (x46, (1 : Int), x48))).bind fun x50 => ((mapC (fun number_52 => ((1 : Int) + number_52)) x50)).bind fun x63 => (((atI x4 (4 : Int))).bind fun x71 => ((atI ([(5 : Int), (1000000000 : Int)] : (List Int)) (b2I (decide (x71 = (1 : Int)))))).bind fun x73 => (((f_cell (script_1, (2 : Int)))).bind fun x79 => ((repM ([x73] : (List Int)) (many_22 - (1 : Int)))).bind fun x81 => ((f_draws (x79, (2 : Int), x81))).bind fun x83 => ((mapC (fun number_85 => ((1 : Int) + number_85)) x83)).bind fun x96 => (((atI x4 (3 : Int))).bind fun x104 => ((atI x4 (4 : Int))).bind fun x106 => ((atI ([(1 : Int), (2 : Int), (3 : Int), ((1 : Int) + x104)] : (List Int)) x106)).bind fun x108 => (((atI x4 (5 : Int))).bind fun x114 => ((atI x4 (6 : Int))).bind fun x116 => ((atI x4 (1 : Int))).bind fun x118 => ((atI ([x114, x116] : (List Int)) (b2I (decide ((1 : Int) < x118))))).bind fun x120 => ((f_boxes (script_1, x63, x120))).bind fun x122 => some (x63, x96, x108, x122))))))))))
abbrev A_store : (List Int) → List PyData := fun x => [(eL eI) x]
abbrev N_store : List Str := ["_law_script", "_law_row", "_law_many", "_law_wide", "_law_rooms", "_law_far", "_law_gaps", "_law_most", "_law_boxes_here", "_law_number"]
abbrev sp_store (K : PySem.W.Frag) : Sp := spP K A_store (eT4 (eL eI) (eL eI) eI (eL (eT3 eS eI eI))) f_store
def t_store (K : PySem.W.Frag) : TS := (tSeq (tAsg (tCall (sp_draws K) [] E0 (tCons (tCall (sp_cell K) [] E0 (tCons (tVar 0) (tCons (tC (.int 0)) tNil))) (tCons (tC (.int 0)) (tCons (tLst (tCons (tC (.int 15)) (tCons (tC (.int 6)) (tCons (tC (.int 4)) (tCons (tC (.int 20)) (tCons (tC (.int 4)) (tCons (tC (.int 61)) (tCons (tC (.int 12)) tNil)))))))) tNil)))) (gName 1)) (tSeq (tAsg (tOp (rI0 fun i j => .int (i + j)) (tC (.int 2)) (tOp (rIxL K) (tVar 1) (tC (.int 0)))) (gName 2)) (tSeq (tIfS (tTest (tOp (rI0 fun i j => .bl (decide (j < i))) (tOp (rIxL K) (tVar 1) (tC (.int 1))) (tC (.int 0)))) (tAsg (tOp (rI0 fun i j => .int (i + j)) (tC (.int 2)) (tOp (rI (fun _ j => 0 < j) fun i j => .int (i % j)) (tOp (rIxL K) (tVar 1) (tC (.int 0))) (tC (.int 4)))) (gName 2)) tNext) (tSeq (tAsg (tOp (rIxL K) (tLst (tCons (tC (.int 1)) (tCons (tC (.int 3)) (tCons (tC (.int 40)) (tCons (tC (.int 6)) tNil))))) (tOp (rIxL K) (tVar 1) (tC (.int 2)))) (gName 3)) (tSeq (tAsg (tLc (iList K (tCall (sp_draws K) [] E0 (tCons (tCall (sp_cell K) [] E0 (tCons (tVar 0) (tCons (tC (.int 1)) tNil))) (tCons (tC (.int 1)) (tCons (tOp rRep (tLst (tCons (tVar 3) tNil)) (tVar 2)) tNil))))) (gName 9) tYes (tOp (rI0 fun i j => .int (i + j)) (tC (.int 1)) (tVar 9)) [9]) (gName 4)) (tSeq (tAsg (tOp (rIxL K) (tLst (tCons (tC (.int 5)) (tCons (tOp (rI CPow fun i j => .int (i ^ j.toNat)) (tC (.int 10)) (tC (.int 9))) tNil))) (tCB rInt (tCons (tOp rEq (tOp (rIxL K) (tVar 1) (tC (.int 4))) (tC (.int 1))) tNil))) (gName 5)) (tSeq (tAsg (tLc (iList K (tCall (sp_draws K) [] E0 (tCons (tCall (sp_cell K) [] E0 (tCons (tVar 0) (tCons (tC (.int 2)) tNil))) (tCons (tC (.int 2)) (tCons (tOp rRep (tLst (tCons (tVar 5) tNil)) (tOp (rI0 fun i j => .int (i - j)) (tVar 2) (tC (.int 1)))) tNil))))) (gName 9) tYes (tOp (rI0 fun i j => .int (i + j)) (tC (.int 1)) (tVar 9)) [9]) (gName 6)) (tSeq (tAsg (tOp (rIxL K) (tLst (tCons (tC (.int 1)) (tCons (tC (.int 2)) (tCons (tC (.int 3)) (tCons (tOp (rI0 fun i j => .int (i + j)) (tC (.int 1)) (tOp (rIxL K) (tVar 1) (tC (.int 3)))) tNil))))) (tOp (rIxL K) (tVar 1) (tC (.int 4)))) (gName 7)) (tSeq (tAsg (tCall (sp_boxes K) [] E0 (tCons (tVar 0) (tCons (tVar 4) (tCons (tOp (rIxL K) (tLst (tCons (tOp (rIxL K) (tVar 1) (tC (.int 5))) (tCons (tOp (rIxL K) (tVar 1) (tC (.int 6))) tNil))) (tCB rInt (tCons (tOp (rI0 fun i j => .bl (decide (j < i))) (tOp (rIxL K) (tVar 1) (tC (.int 1))) (tC (.int 1))) tNil))) tNil)))) (gName 8)) (tRet (tTup (tCons (tVar 4) (tCons (tVar 6) (tCons (tVar 7) (tCons (tVar 8) tNil)))))))))))))))
theorem w_store {K : PySem.W.Frag} (vs : List V) (H : Hp) (Q : VK) (E : XK) (h : sp_store K vs H Q E) : t_store K { nx := fun _ H' => Q .non H', rt := Q } (start N_store vs) H := by
  obtain ⟨F0, cs, script_1, y, h, hS0, m, q⟩ := h
  obtain ⟨a0, _, rfl, ha0, h⟩ := Dts.hd h
  obtain rfl := Dts.no h
  unfold f_store at m
  try dsimp only at m
  unfold t_store
  refine go (σ' := [some a0, none, none, none, none, none, none, none, none, none]) rfl ?_
  obtain ⟨x2, k3, m⟩ := bnd m
  obtain ⟨x4, k5, m⟩ := bnd m
  refine s_set (K := K) (d := (eL eI) x4) (i := 1) (σ' := fun v10 => [some a0, some v10, none, none, none, none, none, none, none, none]) hS0 (d_call (A := A_draws) (B := (eL eI)) (x := (x2, (0 : Int), ([(15 : Int), (6 : Int), (4 : Int), (20 : Int), (4 : Int), (61 : Int), (12 : Int)] : (List Int)))) (a_cons (d_call (A := A_cell) (B := eI) (x := (script_1, (0 : Int))) (a_cons (d_var rfl ha0) (a_cons d_int a_nil)) k3) (a_cons d_int (a_cons (d_lst (a_cons d_int (a_cons d_int (a_cons d_int (a_cons d_int (a_cons d_int (a_cons d_int (a_cons d_int a_nil))))))) (Nat.le_of_ble_eq_true rfl)) a_nil))) k5) (fun _ => rfl) (fun v10 F6 H7 g8 hS9 hv11 => ?_)
  obtain ⟨x12, k13, m⟩ := bnd m
  obtain ⟨many_18, k19, m⟩ := lt m
  refine s_setV (K := K) (d := eI many_18) (i := 2) (σ' := [some a0, some v10, some (.int many_18), none, none, none, none, none, none, none]) (fun _ _ h => Dt.toInt h) hS9 (d_is (d_add d_int (d_ix (e := eI) (d_var rfl hv11) d_int k13)) (congrArg eI k19)) rfl (fun F14 H15 g16 hS17 => ?_)
  obtain ⟨x20, k21, m⟩ := bnd m
  obtain ⟨many_22, k24, m⟩ := bnd m
  refine s_ifJ (b := (decide ((0 : Int) < x20))) (fun σ H => ∃ (F : Hp) (c : Cs), Gr F14 F ∧ Sta F c H ∧ ∃ (j3 : Option V) (j4 : Option V) (j5 : Option V) (j6 : Option V) (j7 : Option V) (j8 : Option V) (j9 : Option V), σ = [some a0, some v10, some (.int many_22), j3, j4, j5, j6, j7, j8, j9] ∧ cs = c) hS17 (t_test (K := K) (d_gt (d_ix (e := eI) (d_var rfl (Dt.gr g16 hv11)) d_int k21) d_int)) ?_ (fun jn23 hc F136 H137 g138 hS139 => ?_) (fun jn23 hc F148 H149 g150 hS151 => ?_)
  · rintro σ30 H26 ⟨F25, c29, g27, hS28, u31, u32, u33, u34, u35, u36, u37, rfl, rfl⟩
    obtain ⟨x38, k39, m⟩ := bnd m
    obtain ⟨x40, k41, m⟩ := bnd m
    refine s_setV (K := K) (d := eI x40) (i := 3) (σ' := [some a0, some v10, some (.int many_22), some (.int x40), u32, u33, u34, u35, u36, u37]) (fun _ _ h => Dt.toInt h) hS28 (d_ix (e := eI) (d_lst (a_cons d_int (a_cons d_int (a_cons d_int (a_cons d_int a_nil)))) (Nat.le_of_ble_eq_true rfl)) (d_ix (e := eI) (d_var rfl (Dt.gr (Gr.tr g16 g27) hv11)) d_int k39) k41) rfl (fun F42 H43 g44 hS45 => ?_)
    obtain ⟨x46, k47, m⟩ := bnd m
    obtain ⟨x48, k49, m⟩ := bnd m
    obtain ⟨x50, k51, m⟩ := bnd m
    obtain ⟨x63, k64, m⟩ := bnd m
    refine s_set (K := K) (d := (eL eI) x63) (i := 4) (σ' := fun v69 => [some a0, some v10, some (.int many_22), some (.int x40), some v69, u33, u34, u35, u36, u37]) hS45 (EvC.dd (c_mapC (K := K) (f := (fun number_52 => ((1 : Int) + number_52))) (em := eI) (i_list (en := eI) (d_call (A := A_draws) (B := (eL eI)) (x := (x46, (1 : Int), x48)) (a_cons (d_call (A := A_cell) (B := eI) (x := (script_1, (1 : Int))) (a_cons (d_var rfl (Dt.gr (Gr.tr g8 (Gr.tr g16 (Gr.tr g27 g44))) ha0)) (a_cons d_int a_nil)) k47) (a_cons d_int (a_cons (EvC.dd (c_rep (en := eI) (c_lst (a_cons (d_var rfl (.int _)) a_nil) (Nat.le_of_ble_eq_true rfl)) (fun _ => (d_var rfl (.int _))) k49)) a_nil))) k51)) k64 (fun number_52 o59 v60 F53 p54 us55 g56 hv57 ho58 => by obtain rfl := Dt.toInt hv57; obtain rfl := sm ho58; exact ⟨[some a0, some v10, some (.int many_22), some (.int x40), u32, u33, u34, u35, u36, some (.int number_52)], fun H62 Q hS61 hq => (fun Q hq => hq) Q hq, rfl, t_yes, fun y hy => by obtain rfl := sm hy; exact (d_add d_int (d_var rfl (.int _)))⟩))) (fun _ => rfl) (fun v69 F65 H66 g67 hS68 hv70 => ?_)
    obtain ⟨x71, k72, m⟩ := bnd m
    obtain ⟨x73, k74, m⟩ := bnd m
    refine s_setV (K := K) (d := eI x73) (i := 5) (σ' := [some a0, some v10, some (.int many_22), some (.int x40), some v69, some (.int x73), u34, u35, u36, u37]) (fun _ _ h => Dt.toInt h) hS68 (d_ix (e := eI) (d_lst (a_cons d_int (a_cons (d_is (e := PyData.int 1000000000) (d_powC d_int d_int ⟨by decide, by decide, by decide⟩) (congrArg PyData.int (by decide))) a_nil)) (Nat.le_of_ble_eq_true rfl)) (d_intB (a_cons (d_eqI (d_ix (e := eI) (d_var rfl (Dt.gr (Gr.tr g16 (Gr.tr g27 (Gr.tr g44 g67))) hv11)) d_int k72) d_int) a_nil)) k74) rfl (fun F75 H76 g77 hS78 => ?_)
    obtain ⟨x79, k80, m⟩ := bnd m
    obtain ⟨x81, k82, m⟩ := bnd m
    obtain ⟨x83, k84, m⟩ := bnd m
    obtain ⟨x96, k97, m⟩ := bnd m
    refine s_set (K := K) (d := (eL eI) x96) (i := 6) (σ' := fun v102 => [some a0, some v10, some (.int many_22), some (.int x40), some v69, some (.int x73), some v102, u35, u36, u37]) hS78 (EvC.dd (c_mapC (K := K) (f := (fun number_85 => ((1 : Int) + number_85))) (em := eI) (i_list (en := eI) (d_call (A := A_draws) (B := (eL eI)) (x := (x79, (2 : Int), x81)) (a_cons (d_call (A := A_cell) (B := eI) (x := (script_1, (2 : Int))) (a_cons (d_var rfl (Dt.gr (Gr.tr g8 (Gr.tr g16 (Gr.tr g27 (Gr.tr g44 (Gr.tr g67 g77))))) ha0)) (a_cons d_int a_nil)) k80) (a_cons d_int (a_cons (EvC.dd (c_rep (en := eI) (c_lst (a_cons (d_var rfl (.int _)) a_nil) (Nat.le_of_ble_eq_true rfl)) (fun _ => (d_sub (d_var rfl (.int _)) d_int)) k82)) a_nil))) k84)) k97 (fun number_85 o92 v93 F86 p87 us88 g89 hv90 ho91 => by obtain rfl := Dt.toInt hv90; obtain rfl := sm ho91; exact ⟨[some a0, some v10, some (.int many_22), some (.int x40), some v69, some (.int x73), u34, u35, u36, some (.int number_85)], fun H95 Q hS94 hq => (fun Q hq => hq) Q hq, rfl, t_yes, fun y hy => by obtain rfl := sm hy; exact (d_add d_int (d_var rfl (.int _)))⟩))) (fun _ => rfl) (fun v102 F98 H99 g100 hS101 hv103 => ?_)
    obtain ⟨x104, k105, m⟩ := bnd m
    obtain ⟨x106, k107, m⟩ := bnd m
    obtain ⟨x108, k109, m⟩ := bnd m
    refine s_setV (K := K) (d := eI x108) (i := 7) (σ' := [some a0, some v10, some (.int many_22), some (.int x40), some v69, some (.int x73), some v102, some (.int x108), u36, u37]) (fun _ _ h => Dt.toInt h) hS101 (d_ix (e := eI) (d_lst (a_cons d_int (a_cons d_int (a_cons d_int (a_cons (d_add d_int (d_ix (e := eI) (d_var rfl (Dt.gr (Gr.tr g16 (Gr.tr g27 (Gr.tr g44 (Gr.tr g67 (Gr.tr g77 g100))))) hv11)) d_int k105)) a_nil)))) (Nat.le_of_ble_eq_true rfl)) (d_ix (e := eI) (d_var rfl (Dt.gr (Gr.tr g16 (Gr.tr g27 (Gr.tr g44 (Gr.tr g67 (Gr.tr g77 g100))))) hv11)) d_int k107) k109) rfl (fun F110 H111 g112 hS113 => ?_)
    obtain ⟨x114, k115, m⟩ := bnd m
    obtain ⟨x116, k117, m⟩ := bnd m
    obtain ⟨x118, k119, m⟩ := bnd m
    obtain ⟨x120, k121, m⟩ := bnd m
    obtain ⟨x122, k123, m⟩ := bnd m
    refine s_set (K := K) (d := (eL (eT3 eS eI eI)) x122) (i := 8) (σ' := fun v128 => [some a0, some v10, some (.int many_22), some (.int x40), some v69, some (.int x73), some v102, some (.int x108), some v128, u37]) hS113 (d_call (A := A_boxes) (B := (eL (eT3 eS eI eI))) (x := (script_1, x63, x120)) (a_cons (d_var rfl (Dt.gr (Gr.tr g8 (Gr.tr g16 (Gr.tr g27 (Gr.tr g44 (Gr.tr g67 (Gr.tr g77 (Gr.tr g100 g112))))))) ha0)) (a_cons (d_var rfl (Dt.gr (Gr.tr g77 (Gr.tr g100 g112)) hv70)) (a_cons (d_ix (e := eI) (d_lst (a_cons (d_ix (e := eI) (d_var rfl (Dt.gr (Gr.tr g16 (Gr.tr g27 (Gr.tr g44 (Gr.tr g67 (Gr.tr g77 (Gr.tr g100 g112)))))) hv11)) d_int k115) (a_cons (d_ix (e := eI) (d_var rfl (Dt.gr (Gr.tr g16 (Gr.tr g27 (Gr.tr g44 (Gr.tr g67 (Gr.tr g77 (Gr.tr g100 g112)))))) hv11)) d_int k117) a_nil)) (Nat.le_of_ble_eq_true rfl)) (d_intB (a_cons (d_gt (d_ix (e := eI) (d_var rfl (Dt.gr (Gr.tr g16 (Gr.tr g27 (Gr.tr g44 (Gr.tr g67 (Gr.tr g77 (Gr.tr g100 g112)))))) hv11)) d_int k119) d_int) a_nil)) k121) a_nil))) k123) (fun _ => rfl) (fun v128 F124 H125 g126 hS127 hv129 => ?_)
    refine s_ret (K := K) (d := (eT4 (eL eI) (eL eI) eI (eL (eT3 eS eI eI))) (x63, x96, x108, x122)) hS127 (d_tup (a_cons (d_var rfl (Dt.gr (Gr.tr g77 (Gr.tr g100 (Gr.tr g112 g126))) hv70)) (a_cons (d_var rfl (Dt.gr (Gr.tr g112 g126) hv103)) (a_cons (d_var rfl (.int _)) (a_cons (d_var rfl hv129) a_nil)))) (Nat.le_of_ble_eq_true rfl)) (fun v134 F130 H131 g132 hS133 hv135 => ?_)
    obtain rfl := sm m
    exact q _ _ _ (Gr.tr g8 (Gr.tr g16 (Gr.tr g27 (Gr.tr g44 (Gr.tr g67 (Gr.tr g77 (Gr.tr g100 (Gr.tr g112 (Gr.tr g126 g132))))))))) hS133 hv135
  · rw [if_pos hc] at k24
    obtain ⟨x140, k141, k24⟩ := bnd k24
    obtain ⟨many_146, k147, k24⟩ := lt k24
    refine s_setV (K := K) (d := eI many_146) (i := 2) (σ' := [some a0, some v10, some (.int many_146), none, none, none, none, none, none, none]) (fun _ _ h => Dt.toInt h) hS139 (d_is (d_add d_int (d_modC (d_ix (e := eI) (d_var rfl (Dt.gr (Gr.tr g16 g138) hv11)) d_int k141) d_int (by decide))) (congrArg eI k147)) rfl (fun F142 H143 g144 hS145 => ?_)
    obtain rfl := sm k24
    exact jn23 _ _ ⟨_, _, (Gr.tr g138 g144), hS145, _, _, _, _, _, _, _, rfl, rfl⟩
  · rw [if_neg (bf hc)] at k24
    refine nxt ?_
    obtain rfl := sm k24
    exact jn23 _ _ ⟨_, _, g150, hS151, _, _, _, _, _, _, _, rfl, rfl⟩
theorem sc_store : FnScope N_store ["_law_script"] (defScope s_store) := ⟨rfl, rfl, rfl, by decide +kernel, rfl, by decide +kernel, by decide +kernel⟩
theorem ok_store {P : Program} {w : World} {K : PySem.W.Frag} {mg : Str → Option Value} {base : Heap} (hF : Df K mg "_law_store" s_store) (m_int : mg "int" = none) (o_boxes : Ok P w K mg base 3 "_law_boxes" ["_law_script", "_law_rooms", "_law_many"] (sp_boxes K)) (o_draws : Ok P w K mg base 1 "_law_draws" ["_law_cell_here", "_law_k", "_law_sizes"] (sp_draws K)) (o_cell : Ok P w K mg base 1 "_law_cell" ["_law_script", "_law_k"] (sp_cell K)) : Ok P w K mg base 4 "_law_store" ["_law_script"] (sp_store K) := by
  obtain ⟨⟨_, G_boxes, bd_boxes, _⟩, kp_boxes, gm_boxes⟩ := o_boxes
  obtain ⟨⟨_, G_draws, bd_draws, _⟩, kp_draws, gm_draws⟩ := o_draws
  obtain ⟨⟨_, G_cell, bd_cell, _⟩, kp_cell, gm_cell⟩ := o_cell
  obtain ⟨⟨fd, F⟩, gm⟩ := hF
  refine ⟨⟨fd, F.ok sc_store (fun vs H Q E h => ?_) (fun cdv A outer s H vs Q E hr h => ⟨t_store K, PSs.nox ?_, w_store vs H Q E h⟩), F.bindsN fun _ _ _ _ _ _ us hl => match us, hl with | [_], _ => rfl, lk_of F⟩, F.kp, gm⟩
  · obtain ⟨F0, cs, x, y, h, _⟩ := h; exact Dts.len h
  · exact (pss_cons (ps_set (i := 1) sc_store.nd rfl (Or.inl rfl) (pe_call G_draws (hr.mono (by decide)) (by rfl) gm_draws kp_draws bd_draws .nil pass0 (pa_cons (pe_call G_cell (hr.mono (by decide)) (by rfl) gm_cell kp_cell bd_cell .nil pass0 (pa_cons (pv 0) (pa_cons pe_int pa_nil))) (pa_cons pe_int (pa_cons (pe_lst (pa_cons pe_int (pa_cons pe_int (pa_cons pe_int (pa_cons pe_int (pa_cons pe_int (pa_cons pe_int (pa_cons pe_int pa_nil)))))))) pa_nil))))) (pss_cons (ps_set (i := 2) sc_store.nd rfl (Or.inl rfl) (pe_op op_add pe_int (pe_ix ix_list (pv 1) pe_int (fun _ _ => rfl)))) (pss_cons (ps_if (pt_cmpR op_gt (pe_ix ix_list (pv 1) pe_int (fun _ _ => rfl)) pe_int (nomark _)) (pss_one (ps_set (i := 2) sc_store.nd rfl (Or.inl rfl) (pe_op op_add pe_int (pe_op op_mod (pe_ix ix_list (pv 1) pe_int (fun _ _ => rfl)) pe_int)))) pss_nil) (pss_cons (ps_set (i := 3) sc_store.nd rfl (Or.inl rfl) (pe_ix ix_list (pe_lst (pa_cons pe_int (pa_cons pe_int (pa_cons pe_int (pa_cons pe_int pa_nil))))) (pe_ix ix_list (pv 1) pe_int (fun _ _ => rfl)) (fun _ _ => rfl))) (pss_cons (ps_setLc (i := 4) (own := [("_law_number", 9)]) (g := (gName 9)) (tt := tYes) (te := (tOp (rI0 fun i j => .int (i + j)) (tC (.int 1)) (tVar 9))) (by rfl) sc_store.nd rfl rfl (sw_true rfl rfl rfl (by decide +kernel)) (pi_list (pe_call G_draws (hr.mono (by decide)) (by rfl) gm_draws kp_draws bd_draws .nil pass0 (pa_cons (pe_call G_cell (hr.mono (by decide)) (by rfl) gm_cell kp_cell bd_cell .nil pass0 (pa_cons (pv 0) (pa_cons pe_int pa_nil))) (pa_cons pe_int (pa_cons (pe_op op_rep (pe_lst (pa_cons (pv 3) pa_nil)) (pv 2)) pa_nil))))) (blkOk_by (own := [("_law_number", 9)]) (N := N_store) (sc := defScope s_store) (by decide +kernel)) (fun _ _ _ _ _ => (pg_name (i := 9) sc_store.nd rfl (Or.inl rfl))) (fun _ _ _ _ _ => pts_nil) (fun _ _ _ _ _ => (pe_op op_add pe_int (pv 9)))) (pss_cons (ps_set (i := 5) sc_store.nd rfl (Or.inl rfl) (pe_ix ix_list (pe_lst (pa_cons pe_int (pa_cons (pe_op op_pow pe_int pe_int) pa_nil))) (pe_callTy cr_int (by rfl) m_int (by decide +kernel) (pa_cons (pe_cmpR op_eq (pe_ix ix_list (pv 1) pe_int (fun _ _ => rfl)) pe_int (nomark _)) pa_nil)) (fun _ _ => rfl))) (pss_cons (ps_setLc (i := 6) (own := [("_law_number", 9)]) (g := (gName 9)) (tt := tYes) (te := (tOp (rI0 fun i j => .int (i + j)) (tC (.int 1)) (tVar 9))) (by rfl) sc_store.nd rfl rfl (sw_true rfl rfl rfl (by decide +kernel)) (pi_list (pe_call G_draws (hr.mono (by decide)) (by rfl) gm_draws kp_draws bd_draws .nil pass0 (pa_cons (pe_call G_cell (hr.mono (by decide)) (by rfl) gm_cell kp_cell bd_cell .nil pass0 (pa_cons (pv 0) (pa_cons pe_int pa_nil))) (pa_cons pe_int (pa_cons (pe_op op_rep (pe_lst (pa_cons (pv 5) pa_nil)) (pe_op op_sub (pv 2) pe_int)) pa_nil))))) (blkOk_by (own := [("_law_number", 9)]) (N := N_store) (sc := defScope s_store) (by decide +kernel)) (fun _ _ _ _ _ => (pg_name (i := 9) sc_store.nd rfl (Or.inl rfl))) (fun _ _ _ _ _ => pts_nil) (fun _ _ _ _ _ => (pe_op op_add pe_int (pv 9)))) (pss_cons (ps_set (i := 7) sc_store.nd rfl (Or.inl rfl) (pe_ix ix_list (pe_lst (pa_cons pe_int (pa_cons pe_int (pa_cons pe_int (pa_cons (pe_op op_add pe_int (pe_ix ix_list (pv 1) pe_int (fun _ _ => rfl))) pa_nil))))) (pe_ix ix_list (pv 1) pe_int (fun _ _ => rfl)) (fun _ _ => rfl))) (pss_cons (ps_set (i := 8) sc_store.nd rfl (Or.inl rfl) (pe_call G_boxes (hr.mono (by decide)) (by rfl) gm_boxes kp_boxes bd_boxes .nil pass0 (pa_cons (pv 0) (pa_cons (pv 4) (pa_cons (pe_ix ix_list (pe_lst (pa_cons (pe_ix ix_list (pv 1) pe_int (fun _ _ => rfl)) (pa_cons (pe_ix ix_list (pv 1) pe_int (fun _ _ => rfl)) pa_nil))) (pe_callTy cr_int (by rfl) m_int (by decide +kernel) (pa_cons (pe_cmpR op_gt (pe_ix ix_list (pv 1) pe_int (fun _ _ => rfl)) pe_int (nomark _)) pa_nil)) (fun _ _ => rfl)) pa_nil))))) (pss_one (ps_ret (pe_tup (pa_cons (pv 4) (pa_cons (pv 6) (pa_cons (pv 7) (pa_cons (pv 8) pa_nil))))))))))))))))
abbrev s_is_whole : Stmt := (top 6)
def f_is_whole : Int → Option Bool := fun thing_1 => some (true && (!false))
abbrev A_is_whole : Int → List PyData := fun x => [eI x]
abbrev N_is_whole : List Str := ["thing"]
abbrev sp_is_whole (K : PySem.W.Frag) : Sp := spP K A_is_whole eB f_is_whole
def t_is_whole (K : PySem.W.Frag) : TS := (tRet (tAndV (tCB (rIsi K) (tCons (tVar 0) (tCons (tC (.ty "int")) tNil))) (tNotV (tCB (rIsi K) (tCons (tVar 0) (tCons (tC (.ty "bool")) tNil))))))
theorem w_is_whole {K : PySem.W.Frag} (vs : List V) (H : Hp) (Q : VK) (E : XK) (h : sp_is_whole K vs H Q E) : t_is_whole K { nx := fun _ H' => Q .non H', rt := Q } (start N_is_whole vs) H := by
  obtain ⟨F0, cs, thing_1, y, h, hS0, m, q⟩ := h
  obtain ⟨a0, _, rfl, ha0, h⟩ := Dts.hd h
  obtain rfl := Dts.no h
  obtain rfl := Dt.toInt ha0
  unfold f_is_whole at m
  try dsimp only at m
  unfold t_is_whole
  refine go (σ' := [some (.int thing_1)]) rfl ?_
  refine s_ret (K := K) (d := eB (true && (!false))) hS0 (d_andP (d_is (e := PyData.bool true) (d_isiD (c := "int") (by decide) (d_var rfl (.int _))) (congrArg PyData.bool (by rfl))) (fun hc => (d_notV (d_is (e := PyData.bool false) (d_isiD (c := "bool") (by decide) (d_var rfl (.int _))) (congrArg PyData.bool (by rfl)))))) (fun v6 F2 H3 g4 hS5 hv7 => ?_)
  obtain rfl := sm m
  exact q _ _ _ g4 hS5 hv7
theorem sc_is_whole : FnScope N_is_whole ["thing"] (defScope s_is_whole) := ⟨rfl, rfl, rfl, by decide +kernel, rfl, by decide +kernel, by decide +kernel⟩
theorem ok_is_whole {P : Program} {w : World} {K : PySem.W.Frag} {mg : Str → Option Value} {base : Heap} (hF : Df K mg "is_whole" s_is_whole) (m_bool : mg "bool" = none) (m_int : mg "int" = none) (m_isinstance : mg "isinstance" = none) : Ok P w K mg base 1 "is_whole" ["thing"] (sp_is_whole K) := by
  obtain ⟨⟨fd, F⟩, gm⟩ := hF
  refine ⟨⟨fd, F.ok sc_is_whole (fun vs H Q E h => ?_) (fun cdv A outer s H vs Q E hr h => ⟨t_is_whole K, PSs.nox ?_, w_is_whole vs H Q E h⟩), F.bindsN fun _ _ _ _ _ _ us hl => match us, hl with | [_], _ => rfl, lk_of F⟩, F.kp, gm⟩
  · obtain ⟨F0, cs, x, y, h, _⟩ := h; exact Dts.len h
  · exact (pss_one (ps_ret (pe_and (pe_callB call_isi (by rfl) m_isinstance (by decide +kernel) (pa_cons (pv 0) (pa_cons (pe_bltn (v := .ty "int") (by rfl) m_int (by decide +kernel) rfl) pa_nil))) (pe_one (pe_not (pe_callB call_isi (by rfl) m_isinstance (by decide +kernel) (pa_cons (pv 0) (pa_cons (pe_bltn (v := .ty "bool") (by rfl) m_bool (by decide +kernel) rfl) pa_nil))))))))
abbrev s_is_within : Stmt := (top 7)
def f_is_within : (Int × Int × Int) → Option Bool := fun (thing_1, least_2, greatest_3) => (((f_is_whole thing_1)).bind fun x4 => some (x4 && (decide (least_2 ≤ thing_1) && decide (thing_1 ≤ greatest_3))))
abbrev A_is_within : (Int × Int × Int) → List PyData := fun x => [eI x.1, eI x.2.1, eI x.2.2]
abbrev N_is_within : List Str := ["thing", "least", "greatest"]
abbrev sp_is_within (K : PySem.W.Frag) : Sp := spP K A_is_within eB f_is_within
def t_is_within (K : PySem.W.Frag) : TS := (tRet (tAndV (tCall (sp_is_whole K) [] E0 (tCons (tVar 0) tNil)) (tChain (rI0 fun i j => .bl (decide (i ≤ j))) (rI0 fun i j => .bl (decide (i ≤ j))) (tVar 1) (tVar 0) (tVar 2))))
theorem w_is_within {K : PySem.W.Frag} (vs : List V) (H : Hp) (Q : VK) (E : XK) (h : sp_is_within K vs H Q E) : t_is_within K { nx := fun _ H' => Q .non H', rt := Q } (start N_is_within vs) H := by
  obtain ⟨F0, cs, ⟨thing_1, least_2, greatest_3⟩, y, h, hS0, m, q⟩ := h
  obtain ⟨a0, _, rfl, ha0, h⟩ := Dts.hd h
  obtain ⟨a1, _, rfl, ha1, h⟩ := Dts.hd h
  obtain ⟨a2, _, rfl, ha2, h⟩ := Dts.hd h
  obtain rfl := Dts.no h
  obtain rfl := Dt.toInt ha0
  obtain rfl := Dt.toInt ha1
  obtain rfl := Dt.toInt ha2
  unfold f_is_within at m
  try dsimp only at m
  unfold t_is_within
  refine go (σ' := [some (.int thing_1), some (.int least_2), some (.int greatest_3)]) rfl ?_
  obtain ⟨x4, k5, m⟩ := bnd m
  refine s_ret (K := K) (d := eB (x4 && (decide (least_2 ≤ thing_1) && decide (thing_1 ≤ greatest_3)))) hS0 (d_andP (d_call (A := A_is_whole) (B := eB) (x := thing_1) (a_cons (d_var rfl (.int _)) a_nil) k5) (fun hc => (d_chain (d_var rfl (.int _)) (d_var rfl (.int _)) (d_var rfl (.int _))))) (fun v10 F6 H7 g8 hS9 hv11 => ?_)
  obtain rfl := sm m
  exact q _ _ _ g8 hS9 hv11
theorem sc_is_within : FnScope N_is_within ["thing", "least", "greatest"] (defScope s_is_within) := ⟨rfl, rfl, rfl, by decide +kernel, rfl, by decide +kernel, by decide +kernel⟩
theorem ok_is_within {P : Program} {w : World} {K : PySem.W.Frag} {mg : Str → Option Value} {base : Heap} (hF : Df K mg "is_within" s_is_within) (o_is_whole : Ok P w K mg base 1 "is_whole" ["thing"] (sp_is_whole K)) : Ok P w K mg base 2 "is_within" ["thing", "least", "greatest"] (sp_is_within K) := by
  obtain ⟨⟨_, G_is_whole, bd_is_whole, _⟩, kp_is_whole, gm_is_whole⟩ := o_is_whole
  obtain ⟨⟨fd, F⟩, gm⟩ := hF
  refine ⟨⟨fd, F.ok sc_is_within (fun vs H Q E h => ?_) (fun cdv A outer s H vs Q E hr h => ⟨t_is_within K, PSs.nox ?_, w_is_within vs H Q E h⟩), F.bindsN fun _ _ _ _ _ _ us hl => match us, hl with | [_, _, _], _ => rfl, lk_of F⟩, F.kp, gm⟩
  · obtain ⟨F0, cs, x, y, h, _⟩ := h; exact Dts.len h
  · exact (pss_one (ps_ret (pe_and (pe_call G_is_whole (hr.mono (by decide)) (by rfl) gm_is_whole kp_is_whole bd_is_whole .nil pass0 (pa_cons (pv 0) pa_nil)) (pe_one (pe_chain op_le op_le (pv 1) (pv 0) (pv 2))))))
abbrev s_has_names_twice : Stmt := (top 18)
def f_has_names_twice : (List (Str × Int × Int)) → Option Bool := fun boxes_1 => (((mapC (fun box_2 => box_2.1) boxes_1)).bind fun x13 => ((setLenM x13)).bind fun x15 => some (!decide (x15 = (boxes_1.length : Int))))
abbrev A_has_names_twice : (List (Str × Int × Int)) → List PyData := fun x => [(eL (eT3 eS eI eI)) x]
abbrev N_has_names_twice : List Str := ["boxes", "box"]
abbrev sp_has_names_twice (K : PySem.W.Frag) : Sp := spP K A_has_names_twice eB f_has_names_twice
def t_has_names_twice (K : PySem.W.Frag) : TS := (tRet (tOp rNe (tLenSetS K (tLc (iList K (tVar 0)) (gName 1) tYes (tOp (rIxT K) (tVar 1) (tC (.int 0))) [1])) (tCB (rLenL K) (tCons (tVar 0) tNil))))
theorem w_has_names_twice {K : PySem.W.Frag} (vs : List V) (H : Hp) (Q : VK) (E : XK) (h : sp_has_names_twice K vs H Q E) : t_has_names_twice K { nx := fun _ H' => Q .non H', rt := Q } (start N_has_names_twice vs) H := by
  obtain ⟨F0, cs, boxes_1, y, h, hS0, m, q⟩ := h
  obtain ⟨a0, _, rfl, ha0, h⟩ := Dts.hd h
  obtain rfl := Dts.no h
  unfold f_has_names_twice at m
  try dsimp only at m
  unfold t_has_names_twice
  refine go (σ' := [some a0, none]) rfl ?_
  obtain ⟨x13, k14, m⟩ := bnd m
  obtain ⟨x15, k16, m⟩ := bnd m
  refine s_ret (K := K) (d := eB (!decide (x15 = (boxes_1.length : Int)))) hS0 (d_neI (d_setLen (EvC.dd (c_mapC (K := K) (f := (fun box_2 => box_2.1)) (em := eS) (i_list (en := (eT3 eS eI eI)) (d_var rfl ha0)) k14 (fun box_2 o9 v10 F3 p4 us5 g6 hv7 ho8 => by obtain rfl := sm ho8; exact ⟨[some a0, some v10], fun H12 Q hS11 hq => (fun Q hq => hq) Q hq, rfl, t_yes, fun y hy => by obtain rfl := sm hy; exact (d_ixT (d_var rfl hv7) d_int rfl)⟩))) k16) (d_len (e := (eT3 eS eI eI)) (a_cons (d_var rfl ha0) a_nil))) (fun v21 F17 H18 g19 hS20 hv22 => ?_)
  obtain rfl := sm m
  exact q _ _ _ g19 hS20 hv22
theorem sc_has_names_twice : FnScope N_has_names_twice ["boxes"] (defScope s_has_names_twice) := ⟨rfl, rfl, rfl, by decide +kernel, rfl, by decide +kernel, by decide +kernel⟩
theorem ok_has_names_twice {P : Program} {w : World} {K : PySem.W.Frag} {mg : Str → Option Value} {base : Heap} (hF : Df K mg "has_names_twice" s_has_names_twice) (m_len : mg "len" = none) (m_set : mg "set" = none) : Ok P w K mg base 1 "has_names_twice" ["boxes"] (sp_has_names_twice K) := by
  obtain ⟨⟨fd, F⟩, gm⟩ := hF
  refine ⟨⟨fd, F.ok sc_has_names_twice (fun vs H Q E h => ?_) (fun cdv A outer s H vs Q E hr h => ⟨t_has_names_twice K, PSs.nox ?_, w_has_names_twice vs H Q E h⟩), F.bindsN fun _ _ _ _ _ _ us hl => match us, hl with | [_], _ => rfl, lk_of F⟩, F.kp, gm⟩
  · obtain ⟨F0, cs, x, y, h, _⟩ := h; exact Dts.len h
  · exact (pss_one (ps_ret (pe_cmpR op_ne (pe_lenSetS rfl (by rfl) m_len (by rfl) m_set (pe_lc (own := [("box", 1)]) (g := (gName 1)) (tt := tYes) (te := (tOp (rIxT K) (tVar 1) (tC (.int 0)))) (by rfl) sc_has_names_twice.nd (pi_list (pv 0)) (blkOk_by (own := [("box", 1)]) (N := N_has_names_twice) (sc := defScope s_has_names_twice) (by decide +kernel)) (fun _ _ _ _ _ => (pg_name (i := 1) sc_has_names_twice.nd rfl (Or.inl rfl))) (fun _ _ _ _ _ => pts_nil) (fun _ _ _ _ _ => (pe_ix ix_tup (pv 1) pe_int (fun _ _ => rfl))))) (pe_callB cr_lenL (by rfl) m_len PySem.boot_len (pa_cons (pv 0) pa_nil)) (nomark _))))
abbrev s_has_room : Stmt := (top 19)
def f_has_room_b4 (boxes_2 : (List (Str × Int × Int))) (place_3 : Int) : Unit → (Int × Int) → Option (Fl Unit Bool) := fun _ (bay_7, room_8) => (((lcC (fun box_35 => (((atI [eS box_35.1, eI box_35.2.1, eI box_35.2.2] place_3)).bind fun x46 => ((eqDM x46 (eI bay_7))).bind fun x48 => if (x48) = true then (some (some box_35)) else some none)) boxes_2)).bind fun x50 => (if (decide (room_8 < (x50.length : Int))) = true then some (Fl.rt false) else some (Fl.nx ())))
def f_has_room : ((List Int) × (List (Str × Int × Int)) × Int) → Option Bool := fun (rooms_1, boxes_2, place_3) => (forF (f_has_room_b4 boxes_2 place_3) (enumM rooms_1) ()).bind fun r5 => match r5 with | .nx _ => some true | .br _ => none | .rt z82 => some z82
abbrev A_has_room : ((List Int) × (List (Str × Int × Int)) × Int) → List PyData := fun x => [(eL eI) x.1, (eL (eT3 eS eI eI)) x.2.1, eI x.2.2]
abbrev N_has_room : List Str := ["rooms", "boxes", "place", "bay", "room", "box"]
abbrev sp_has_room (K : PySem.W.Frag) : Sp := spP K A_has_room eB f_has_room
def t_has_room (K : PySem.W.Frag) : TS := (tSeq (tFor (iEnum K (tCons (tVar 0) tNil)) (gTup K 2 (gCons (gName 3) (gCons (gName 4) gNil))) (tIfS (tTest (tOp (rI0 fun i j => .bl (decide (j < i))) (tCB (rLenL K) (tCons (tLc (iList K (tVar 1)) (gName 5) (tTest (tOp (rEqD K) (tOp (rIxT K) (tVar 5) (tVar 2)) (tVar 3))) (tVar 5) [5]) tNil)) (tVar 4))) (tRet (tC (.bl false))) tNext)) (tRet (tC (.bl true))))
theorem w_has_room {K : PySem.W.Frag} (vs : List V) (H : Hp) (Q : VK) (E : XK) (h : sp_has_room K vs H Q E) : t_has_room K { nx := fun _ H' => Q .non H', rt := Q } (start N_has_room vs) H := by
  obtain ⟨F0, cs, ⟨rooms_1, boxes_2, place_3⟩, y, h, hS0, m, q⟩ := h
  obtain ⟨a0, _, rfl, ha0, h⟩ := Dts.hd h
  obtain ⟨a1, _, rfl, ha1, h⟩ := Dts.hd h
  obtain ⟨a2, _, rfl, ha2, h⟩ := Dts.hd h
  obtain rfl := Dts.no h
  obtain rfl := Dt.toInt ha2
  unfold f_has_room at m
  try dsimp only at m
  unfold t_has_room
  refine go (σ' := [some a0, some a1, some (.int place_3), none, none, none]) rfl ?_
  obtain ⟨r5, k6, m⟩ := bnd m
  refine s_forF (K := K) (xs := (enumM rooms_1)) (en := (eT2 eI eI)) (body := (f_has_room_b4 boxes_2 place_3)) (s0 := ()) (r := r5) (fun (a : Unit) F σ c => ∃ (j3 : Option V) (j4 : Option V) (j5 : Option V), σ = [some a0, some a1, some (.int place_3), j3, j4, j5] ∧ cs = c) hS0 (i_enum (en := eI) (a_cons (d_var rfl ha0) a_nil)) (fun _ _ => ⟨_, _, _, rfl, rfl⟩) k6 ?_ ?_
  · rintro ⟨⟩ F67 σ72 c71 H68 hz83 g69 hS70 ⟨u73, u74, u75, rfl, rfl⟩
    rcases hz83.symm with rfl | rfl
    · cases (show (none : Option _) = some _ from m)
    try dsimp only at m
    refine s_ret (K := K) (d := eB true) hS70 d_bl (fun v80 F76 H77 g78 hS79 hv81 => ?_)
    obtain rfl := sm m
    exact q _ _ _ (Gr.tr g69 g78) hS79 hv81
  · rintro ⟨bay_7, room_8⟩ ⟨⟩ b17 F9 F10 σ23 c24 H11 v16 N18 B19 g12 ⟨u26, u27, u28, rfl, rfl⟩ g13 hS14 hv15 m25 hN20 hB21 hR22
    obtain ⟨p29, w31, w32, rfl, hT30, hw33, hw34⟩ := u2 hv15
    obtain rfl := Dt.toInt hw33
    obtain rfl := Dt.toInt hw34
    refine tg (σ' := [some a0, some a1, some (.int place_3), some (.int bay_7), some (.int room_8), u28]) (fun Q hq => ⟨p29, [_, _], rfl, gr_T hS14.fr hT30, rfl, _, _, rfl, _, _, rfl, rfl, hq⟩) ?_
    unfold f_has_room_b4 at m25
    try dsimp only at m25
    obtain ⟨x50, k51, m25⟩ := bnd m25
    refine s_if (b := (decide (room_8 < (x50.length : Int)))) hS14 (t_test (K := K) (d_gt (d_len (e := (eT3 eS eI eI)) (a_cons (EvC.dd (c_lcC (K := K) (f := (fun box_35 => (((atI [eS box_35.1, eI box_35.2.1, eI box_35.2.2] place_3)).bind fun x46 => ((eqDM x46 (eI bay_7))).bind fun x48 => if (x48) = true then (some (some box_35)) else some none))) (em := (eT3 eS eI eI)) (i_list (en := (eT3 eS eI eI)) (d_var rfl (Dt.gr (Gr.tr g12 g13) ha1))) k51 (fun box_35 o42 v43 F36 p37 us38 g39 hv40 ho41 => by obtain ⟨x46, k47, ho41⟩ := bnd ho41; obtain ⟨x48, k49, ho41⟩ := bnd ho41; by_cases hc : (x48) = true; (rw [if_pos hc] at ho41; obtain rfl := sm ho41; refine ⟨[some a0, some a1, some (.int place_3), some (.int bay_7), some (.int room_8), some v43], fun H45 Q hS44 hq => (fun Q hq => hq) Q hq, rfl, ?_, ?_⟩; (rw [show (some box_35).isSome = (x48) from hc.symm]; exact (t_test (K := K) (d_eqDM (d_ixT (d_var rfl hv40) (d_var rfl (.int _)) k47) (d_var rfl (.int _)) k49))); (intro y hy; obtain rfl := sm hy; exact (d_var rfl hv40))); (rw [if_neg hc] at ho41; obtain rfl := sm ho41; refine ⟨[some a0, some a1, some (.int place_3), some (.int bay_7), some (.int room_8), some v43], fun H45 Q hS44 hq => (fun Q hq => hq) Q hq, rfl, ?_, ?_⟩; (rw [show (none : Option (Str × Int × Int)).isSome = (x48) from (bt hc).symm]; exact (t_test (K := K) (d_eqDM (d_ixT (d_var rfl hv40) (d_var rfl (.int _)) k47) (d_var rfl (.int _)) k49))); (intro y hy; cases hy))))) a_nil)) (d_var rfl (.int _)))) (fun hc F52 H53 g54 hS55 => ?_) (fun hc F63 H64 g65 hS66 => ?_)
    · rw [if_pos hc] at m25
      refine s_ret (K := K) (d := eB false) hS55 d_bl (fun v60 F56 H57 g58 hS59 hv61 => ?_)
      obtain rfl := sm m25
      have hr62 := hR22 _ rfl
      subst hr62
      obtain rfl := sm m
      exact q _ _ _ (Gr.tr g12 (Gr.tr g13 (Gr.tr g54 g58))) hS59 hv61
    · rw [if_neg (bf hc)] at m25
      refine nxt ?_
      obtain rfl := sm m25
      exact hN20 _ _ _ _ _ rfl g65 hS66 ⟨_, _, _, rfl, rfl⟩
theorem sc_has_room : FnScope N_has_room ["rooms", "boxes", "place"] (defScope s_has_room) := ⟨rfl, rfl, rfl, by decide +kernel, rfl, by decide +kernel, by decide +kernel⟩
theorem ok_has_room {P : Program} {w : World} {K : PySem.W.Frag} {mg : Str → Option Value} {base : Heap} (hF : Df K mg "has_room" s_has_room) (m_enumerate : mg "enumerate" = none) (m_len : mg "len" = none) : Ok P w K mg base 1 "has_room" ["rooms", "boxes", "place"] (sp_has_room K) := by
  obtain ⟨⟨fd, F⟩, gm⟩ := hF
  refine ⟨⟨fd, F.ok sc_has_room (fun vs H Q E h => ?_) (fun cdv A outer s H vs Q E hr h => ⟨t_has_room K, PSs.nox ?_, w_has_room vs H Q E h⟩), F.bindsN fun _ _ _ _ _ _ us hl => match us, hl with | [_, _, _], _ => rfl, lk_of F⟩, F.kp, gm⟩
  · obtain ⟨F0, cs, x, y, h, _⟩ := h; exact Dts.len h
  · exact (pss_cons (ps_for PassesOwn.never rfl (pi_enum (by rfl) m_enumerate (pa_cons (pv 0) pa_nil)) (pg_tup rfl (pgs_cons (pg_name (i := 3) sc_has_room.nd rfl (Or.inr rfl)) (pgs_cons (pg_name (i := 4) sc_has_room.nd rfl (Or.inl rfl)) pgs_nil))) (pss_one (ps_if (pt_cmpR op_gt (pe_callB cr_lenL (by rfl) m_len PySem.boot_len (pa_cons (pe_lc (own := [("box", 5)]) (g := (gName 5)) (tt := (tTest (tOp (rEqD K) (tOp (rIxT K) (tVar 5) (tVar 2)) (tVar 3)))) (te := (tVar 5)) (by rfl) sc_has_room.nd (pi_list (pv 1)) (blkOk_by (own := [("box", 5)]) (N := N_has_room) (sc := defScope s_has_room) (by decide +kernel)) (fun _ _ _ _ _ => (pg_name (i := 5) sc_has_room.nd rfl (Or.inl rfl))) (fun _ _ _ _ _ => (pts_one (pt_cmpR (op_eqD hr.units) (pe_ix ix_tup (pv 5) (pv 2) (fun _ _ => rfl)) (pv 3) (nomark _)))) (fun _ _ _ _ _ => (pv 5))) pa_nil)) (pv 4) (nomark _)) (pss_one (ps_ret pe_bl)) pss_nil))) (pss_one (ps_ret pe_bl)))
abbrev s_is_name : Stmt := (top 8)
def f_is_name : Str → Option Bool := fun thing_1 => (((if (!true) = true then some true else (((lenS thing_1)).bind fun x2 => some (!(decide ((1 : Int) ≤ x2) && decide (x2 ≤ (8 : Int))))))).bind fun x4 => (if x4 = true then some false else (((mapC (fun sign_20 => (inS sign_20 ("abcdefghijklmnopqrstuvwxyz" : Str))) (signs thing_1))).bind fun x31 => some ((x31).all id))))
abbrev A_is_name : Str → List PyData := fun x => [eS x]
abbrev N_is_name : List Str := ["thing", "sign"]
abbrev sp_is_name (K : PySem.W.Frag) : Sp := spP K A_is_name eB f_is_name
def t_is_name (K : PySem.W.Frag) : TS := (tSeq (tIfS (tOr (tNot (tB (tCB (rIsi K) (tCons (tVar 0) (tCons (tC (.ty "str")) tNil))))) (tNot (tTest (tChain (rI0 fun i j => .bl (decide (i ≤ j))) (rI0 fun i j => .bl (decide (i ≤ j))) (tC (.int 1)) (tCB rLenS (tCons (tVar 0) tNil)) (tC (.int 8)))))) (tRet (tC (.bl false))) tNext) (tRet (tCB (rAll K) (tCons (tLc (iStr (tVar 0)) (gName 1) tYes (tOp rInS (tVar 1) (tC (.str "abcdefghijklmnopqrstuvwxyz"))) [1]) tNil))))
theorem w_is_name {K : PySem.W.Frag} (vs : List V) (H : Hp) (Q : VK) (E : XK) (h : sp_is_name K vs H Q E) : t_is_name K { nx := fun _ H' => Q .non H', rt := Q } (start N_is_name vs) H := by
  obtain ⟨F0, cs, thing_1, y, h, hS0, m, q⟩ := h
  obtain ⟨a0, _, rfl, ha0, h⟩ := Dts.hd h
  obtain rfl := Dts.no h
  obtain rfl := Dt.toStr ha0
  unfold f_is_name at m
  try dsimp only at m
  unfold t_is_name
  refine go (σ' := [some (.str thing_1), none]) rfl ?_
  obtain ⟨x4, k5, m⟩ := bnd m
  refine s_if (b := x4) hS0 (t_orM (r := x4) (t_not (t_B (K := K) (d_is (e := PyData.bool true) (d_isiD (c := "str") (by decide) (d_var rfl (.str _))) (congrArg PyData.bool (by rfl))))) (fun hc => by rw [if_neg (bf hc)] at k5; obtain ⟨x2, k3, k5⟩ := bnd k5; obtain rfl := sm k5; exact (t_not (t_test (K := K) (d_chain d_int (d_lenS (a_cons (d_var rfl (.str _)) a_nil) k3) d_int)))) (fun hc => by rw [if_pos hc] at k5; exact (sm k5).symm)) (fun hc F6 H7 g8 hS9 => ?_) (fun hc F16 H17 g18 hS19 => ?_)
  · rw [if_pos hc] at m
    refine s_ret (K := K) (d := eB false) hS9 d_bl (fun v14 F10 H11 g12 hS13 hv15 => ?_)
    obtain rfl := sm m
    exact q _ _ _ (Gr.tr g8 g12) hS13 hv15
  · rw [if_neg (bf hc)] at m
    refine nxt ?_
    obtain ⟨x31, k32, m⟩ := bnd m
    refine s_ret (K := K) (d := eB ((x31).all id)) hS19 (d_all (a_cons (EvC.dd (c_mapC (K := K) (f := (fun sign_20 => (inS sign_20 ("abcdefghijklmnopqrstuvwxyz" : Str)))) (em := eB) (i_str (d_var rfl (.str _))) k32 (fun sign_20 o27 v28 F21 p22 us23 g24 hv25 ho26 => by obtain rfl := Dt.toStr hv25; obtain rfl := sm ho26; exact ⟨[some (.str thing_1), some (.str sign_20)], fun H30 Q hS29 hq => (fun Q hq => hq) Q hq, rfl, t_yes, fun y hy => by obtain rfl := sm hy; exact (d_inS (d_var rfl (.str _)) d_str)⟩))) a_nil)) (fun v37 F33 H34 g35 hS36 hv38 => ?_)
    obtain rfl := sm m
    exact q _ _ _ (Gr.tr g18 g35) hS36 hv38
theorem sc_is_name : FnScope N_is_name ["thing"] (defScope s_is_name) := ⟨rfl, rfl, rfl, by decide +kernel, rfl, by decide +kernel, by decide +kernel⟩
theorem ok_is_name {P : Program} {w : World} {K : PySem.W.Frag} {mg : Str → Option Value} {base : Heap} (hF : Df K mg "is_name" s_is_name) (m_all : mg "all" = none) (m_isinstance : mg "isinstance" = none) (m_len : mg "len" = none) (m_str : mg "str" = none) (c_LETTERS : ∃ t, mg "LETTERS" = some (.str "abcdefghijklmnopqrstuvwxyz" t)) (c_LONGEST : ∃ t, mg "LONGEST" = some (.int 8 t)) : Ok P w K mg base 1 "is_name" ["thing"] (sp_is_name K) := by
  obtain ⟨_, c_LETTERS⟩ := c_LETTERS
  obtain ⟨_, c_LONGEST⟩ := c_LONGEST
  obtain ⟨⟨fd, F⟩, gm⟩ := hF
  refine ⟨⟨fd, F.ok sc_is_name (fun vs H Q E h => ?_) (fun cdv A outer s H vs Q E hr h => ⟨t_is_name K, PSs.nox ?_, w_is_name vs H Q E h⟩), F.bindsN fun _ _ _ _ _ _ us hl => match us, hl with | [_], _ => rfl, lk_of F⟩, F.kp, gm⟩
  · obtain ⟨F0, cs, x, y, h, _⟩ := h; exact Dts.len h
  · exact (pss_cons (ps_if (PW.pt (pw_or (pt_not (pt_val (pe_callB call_isi (by rfl) m_isinstance (by decide +kernel) (pa_cons (pv 0) (pa_cons (pe_bltn (v := .ty "str") (by rfl) m_str (by decide +kernel) rfl) pa_nil))))) (pw_or1 (pt_not (pt_chain op_le op_le pe_int (pe_callB cr_lenS (by rfl) m_len PySem.boot_len (pa_cons (pv 0) pa_nil)) (pe_glob (v := .int 8) (by rfl) c_LONGEST ⟨_, rfl⟩)))))) (pss_one (ps_ret pe_bl)) pss_nil) (pss_one (ps_ret (pe_callB (cr_all rfl) (by rfl) m_all (by decide +kernel) (pa_cons (pe_lc (own := [("sign", 1)]) (g := (gName 1)) (tt := tYes) (te := (tOp rInS (tVar 1) (tC (.str "abcdefghijklmnopqrstuvwxyz")))) (by rfl) sc_is_name.nd (pi_str (pv 0)) (blkOk_by (own := [("sign", 1)]) (N := N_is_name) (sc := defScope s_is_name) (by decide +kernel)) (fun _ _ _ _ _ => (pg_name (i := 1) sc_is_name.nd rfl (Or.inl rfl))) (fun _ _ _ _ _ => pts_nil) (fun _ _ _ _ _ => (pe_cmpR op_inR (pv 1) (pe_glob (v := .str "abcdefghijklmnopqrstuvwxyz") (by rfl) c_LETTERS ⟨_, rfl⟩) (by rfl)))) pa_nil)))))
abbrev s_is_box : Stmt := (top 17)
def f_is_box : ((Str × Int × Int) × Int) → Option Bool := fun (thing_1, many_2) => (((if (!true) = true then some true else (((if (!decide ((3 : Int) = (3 : Int))) = true then some true else (((f_is_name thing_1.1)).bind fun x3 => some (!x3)))).bind fun x5 => some x5))).bind fun x7 => (if x7 = true then some false else (((f_is_within (thing_1.2.1, (0 : Int), (many_2 - (1 : Int))))).bind fun x23 => ((if x23 = true then (((f_is_within (thing_1.2.2, (0 : Int), (many_2 - (1 : Int))))).bind fun x25 => some x25) else some false)).bind fun x27 => some x27)))
abbrev A_is_box : ((Str × Int × Int) × Int) → List PyData := fun x => [(eT3 eS eI eI) x.1, eI x.2]
abbrev N_is_box : List Str := ["thing", "many"]
abbrev sp_is_box (K : PySem.W.Frag) : Sp := spP K A_is_box eB f_is_box
def t_is_box (K : PySem.W.Frag) : TS := (tSeq (tIfS (tOr (tNot (tB (tCB (rIsi K) (tCons (tVar 0) (tCons (tC (.ty "tuple")) tNil))))) (tOr (tTest (tOp rNe (tCB (rLenL K) (tCons (tVar 0) tNil)) (tC (.int 3)))) (tNot (tB (tCall (sp_is_name K) [] E0 (tCons (tOp (rIxT K) (tVar 0) (tC (.int 0))) tNil)))))) (tRet (tC (.bl false))) tNext) (tRet (tAndV (tCall (sp_is_within K) [] E0 (tCons (tOp (rIxT K) (tVar 0) (tC (.int 1))) (tCons (tC (.int 0)) (tCons (tOp (rI0 fun i j => .int (i - j)) (tVar 1) (tC (.int 1))) tNil)))) (tCall (sp_is_within K) [] E0 (tCons (tOp (rIxT K) (tVar 0) (tC (.int 2))) (tCons (tC (.int 0)) (tCons (tOp (rI0 fun i j => .int (i - j)) (tVar 1) (tC (.int 1))) tNil)))))))
theorem w_is_box {K : PySem.W.Frag} (vs : List V) (H : Hp) (Q : VK) (E : XK) (h : sp_is_box K vs H Q E) : t_is_box K { nx := fun _ H' => Q .non H', rt := Q } (start N_is_box vs) H := by
  obtain ⟨F0, cs, ⟨thing_1, many_2⟩, y, h, hS0, m, q⟩ := h
  obtain ⟨a0, _, rfl, ha0, h⟩ := Dts.hd h
  obtain ⟨a1, _, rfl, ha1, h⟩ := Dts.hd h
  obtain rfl := Dts.no h
  obtain rfl := Dt.toInt ha1
  unfold f_is_box at m
  try dsimp only at m
  unfold t_is_box
  refine go (σ' := [some a0, some (.int many_2)]) rfl ?_
  obtain ⟨x7, k8, m⟩ := bnd m
  refine s_if (b := x7) hS0 (t_orM (r := x7) (t_not (t_B (K := K) (d_is (e := PyData.bool true) (d_isiD (c := "tuple") (by decide) (d_var rfl ha0)) (congrArg PyData.bool (by rfl))))) (fun hc => by rw [if_neg (bf hc)] at k8; obtain ⟨x5, k6, k8⟩ := bnd k8; obtain rfl := sm k8; exact (t_orM (r := x5) (t_test (K := K) (d_neI (d_is (e := PyData.int 3) (d_lenT (a_cons (d_var rfl ha0) a_nil)) (congrArg PyData.int (by rfl))) d_int)) (fun hc => by rw [if_neg (bf hc)] at k6; obtain ⟨x3, k4, k6⟩ := bnd k6; obtain rfl := sm k6; exact (t_not (t_B (K := K) (d_call (A := A_is_name) (B := eB) (x := thing_1.1) (a_cons (d_ixT (d_var rfl ha0) d_int rfl) a_nil) k4)))) (fun hc => by rw [if_pos hc] at k6; exact (sm k6).symm))) (fun hc => by rw [if_pos hc] at k8; exact (sm k8).symm)) (fun hc F9 H10 g11 hS12 => ?_) (fun hc F19 H20 g21 hS22 => ?_)
  · rw [if_pos hc] at m
    refine s_ret (K := K) (d := eB false) hS12 d_bl (fun v17 F13 H14 g15 hS16 hv18 => ?_)
    obtain rfl := sm m
    exact q _ _ _ (Gr.tr g11 g15) hS16 hv18
  · rw [if_neg (bf hc)] at m
    refine nxt ?_
    obtain ⟨x23, k24, m⟩ := bnd m
    obtain ⟨x27, k28, m⟩ := bnd m
    refine s_ret (K := K) (d := eB x27) hS22 (d_andM (r := x27) (d_call (A := A_is_within) (B := eB) (x := (thing_1.2.1, (0 : Int), (many_2 - (1 : Int)))) (a_cons (d_ixT (d_var rfl (Dt.gr g21 ha0)) d_int rfl) (a_cons d_int (a_cons (d_sub (d_var rfl (.int _)) d_int) a_nil))) k24) (fun hc => by rw [if_pos hc] at k28; obtain ⟨x25, k26, k28⟩ := bnd k28; obtain rfl := sm k28; exact (d_call (A := A_is_within) (B := eB) (x := (thing_1.2.2, (0 : Int), (many_2 - (1 : Int)))) (a_cons (d_ixT (d_var rfl (Dt.gr g21 ha0)) d_int rfl) (a_cons d_int (a_cons (d_sub (d_var rfl (.int _)) d_int) a_nil))) k26)) (fun hc => by rw [if_neg (bf hc)] at k28; exact (sm k28).symm)) (fun v33 F29 H30 g31 hS32 hv34 => ?_)
    obtain rfl := sm m
    exact q _ _ _ (Gr.tr g21 g31) hS32 hv34
theorem sc_is_box : FnScope N_is_box ["thing", "many"] (defScope s_is_box) := ⟨rfl, rfl, rfl, by decide +kernel, rfl, by decide +kernel, by decide +kernel⟩
theorem ok_is_box {P : Program} {w : World} {K : PySem.W.Frag} {mg : Str → Option Value} {base : Heap} (hF : Df K mg "is_box" s_is_box) (m_isinstance : mg "isinstance" = none) (m_len : mg "len" = none) (m_tuple : mg "tuple" = none) (o_is_within : Ok P w K mg base 2 "is_within" ["thing", "least", "greatest"] (sp_is_within K)) (o_is_name : Ok P w K mg base 1 "is_name" ["thing"] (sp_is_name K)) : Ok P w K mg base 3 "is_box" ["thing", "many"] (sp_is_box K) := by
  obtain ⟨⟨_, G_is_within, bd_is_within, _⟩, kp_is_within, gm_is_within⟩ := o_is_within
  obtain ⟨⟨_, G_is_name, bd_is_name, _⟩, kp_is_name, gm_is_name⟩ := o_is_name
  obtain ⟨⟨fd, F⟩, gm⟩ := hF
  refine ⟨⟨fd, F.ok sc_is_box (fun vs H Q E h => ?_) (fun cdv A outer s H vs Q E hr h => ⟨t_is_box K, PSs.nox ?_, w_is_box vs H Q E h⟩), F.bindsN fun _ _ _ _ _ _ us hl => match us, hl with | [_, _], _ => rfl, lk_of F⟩, F.kp, gm⟩
  · obtain ⟨F0, cs, x, y, h, _⟩ := h; exact Dts.len h
  · exact (pss_cons (ps_if (PW.pt (pw_or (pt_not (pt_val (pe_callB call_isi (by rfl) m_isinstance (by decide +kernel) (pa_cons (pv 0) (pa_cons (pe_bltn (v := .ty "tuple") (by rfl) m_tuple (by decide +kernel) rfl) pa_nil))))) (pw_or (pt_cmpR op_ne (pe_callB cr_lenL (by rfl) m_len PySem.boot_len (pa_cons (pv 0) pa_nil)) pe_int (nomark _)) (pw_or1 (pt_not (pt_val (pe_call G_is_name (hr.mono (by decide)) (by rfl) gm_is_name kp_is_name bd_is_name .nil pass0 (pa_cons (pe_ix ix_tup (pv 0) pe_int (fun _ _ => rfl)) pa_nil)))))))) (pss_one (ps_ret pe_bl)) pss_nil) (pss_one (ps_ret (pe_and (pe_call G_is_within (hr.mono (by decide)) (by rfl) gm_is_within kp_is_within bd_is_within .nil pass0 (pa_cons (pe_ix ix_tup (pv 0) pe_int (fun _ _ => rfl)) (pa_cons pe_int (pa_cons (pe_op op_sub (pv 1) pe_int) pa_nil)))) (pe_one (pe_call G_is_within (hr.mono (by decide)) (by rfl) gm_is_within kp_is_within bd_is_within .nil pass0 (pa_cons (pe_ix ix_tup (pv 0) pe_int (fun _ _ => rfl)) (pa_cons pe_int (pa_cons (pe_op op_sub (pv 1) pe_int) pa_nil)))))))))
abbrev s_are_boxes : Stmt := (top 20)
def f_are_boxes : ((List Int) × (List (Str × Int × Int))) → Option Bool := fun (rooms_1, thing_2) => (if ((!true) || (decide ((60 : Int) < (thing_2.length : Int)))) = true then some false else (((lcC (fun one_17 => (((f_is_box (one_17, (rooms_1.length : Int)))).bind fun x28 => some (some x28))) thing_2)).bind fun x30 => ((if (!((x30).all id)) = true then some true else (((f_has_names_twice thing_2)).bind fun x32 => some x32))).bind fun x34 => (if x34 = true then some false else (((f_has_room (rooms_1, thing_2, (1 : Int)))).bind fun x50 => ((if x50 = true then (((f_has_room (rooms_1, thing_2, (2 : Int)))).bind fun x52 => some x52) else some false)).bind fun x54 => some x54))))
abbrev A_are_boxes : ((List Int) × (List (Str × Int × Int))) → List PyData := fun x => [(eL eI) x.1, (eL (eT3 eS eI eI)) x.2]
abbrev N_are_boxes : List Str := ["rooms", "thing", "one"]
abbrev sp_are_boxes (K : PySem.W.Frag) : Sp := spP K A_are_boxes eB f_are_boxes
def t_are_boxes (K : PySem.W.Frag) : TS := (tSeq (tIfS (tOr (tNot (tB (tCB (rIsi K) (tCons (tVar 1) (tCons (tC (.ty "list")) tNil))))) (tTest (tOp (rI0 fun i j => .bl (decide (j < i))) (tCB (rLenL K) (tCons (tVar 1) tNil)) (tC (.int 60))))) (tRet (tC (.bl false))) tNext) (tSeq (tIfS (tOr (tNot (tB (tCB (rAll K) (tCons (tLc (iList K (tVar 1)) (gName 2) tYes (tCall (sp_is_box K) [] E0 (tCons (tVar 2) (tCons (tCB (rLenL K) (tCons (tVar 0) tNil)) tNil))) [2]) tNil)))) (tB (tCall (sp_has_names_twice K) [] E0 (tCons (tVar 1) tNil)))) (tRet (tC (.bl false))) tNext) (tRet (tAndV (tCall (sp_has_room K) [] E0 (tCons (tVar 0) (tCons (tVar 1) (tCons (tC (.int 1)) tNil)))) (tCall (sp_has_room K) [] E0 (tCons (tVar 0) (tCons (tVar 1) (tCons (tC (.int 2)) tNil))))))))
theorem w_are_boxes {K : PySem.W.Frag} (vs : List V) (H : Hp) (Q : VK) (E : XK) (h : sp_are_boxes K vs H Q E) : t_are_boxes K { nx := fun _ H' => Q .non H', rt := Q } (start N_are_boxes vs) H := by
  obtain ⟨F0, cs, ⟨rooms_1, thing_2⟩, y, h, hS0, m, q⟩ := h
  obtain ⟨a0, _, rfl, ha0, h⟩ := Dts.hd h
  obtain ⟨a1, _, rfl, ha1, h⟩ := Dts.hd h
  obtain rfl := Dts.no h
  unfold f_are_boxes at m
  try dsimp only at m
  unfold t_are_boxes
  refine go (σ' := [some a0, some a1, none]) rfl ?_
  refine s_if (b := ((!true) || (decide ((60 : Int) < (thing_2.length : Int))))) hS0 (t_orP (t_not (t_B (K := K) (d_is (e := PyData.bool true) (d_isiD (c := "list") (by decide) (d_var rfl ha1)) (congrArg PyData.bool (by rfl))))) (fun hc => (t_test (K := K) (d_gt (d_len (e := (eT3 eS eI eI)) (a_cons (d_var rfl ha1) a_nil)) d_int)))) (fun hc F3 H4 g5 hS6 => ?_) (fun hc F13 H14 g15 hS16 => ?_)
  · rw [if_pos hc] at m
    refine s_ret (K := K) (d := eB false) hS6 d_bl (fun v11 F7 H8 g9 hS10 hv12 => ?_)
    obtain rfl := sm m
    exact q _ _ _ (Gr.tr g5 g9) hS10 hv12
  · rw [if_neg (bf hc)] at m
    refine nxt ?_
    obtain ⟨x30, k31, m⟩ := bnd m
    obtain ⟨x34, k35, m⟩ := bnd m
    refine s_if (b := x34) hS16 (t_orM (r := x34) (t_not (t_B (K := K) (d_all (a_cons (EvC.dd (c_lcC (K := K) (f := (fun one_17 => (((f_is_box (one_17, (rooms_1.length : Int)))).bind fun x28 => some (some x28)))) (em := eB) (i_list (en := (eT3 eS eI eI)) (d_var rfl (Dt.gr g15 ha1))) k31 (fun one_17 o24 v25 F18 p19 us20 g21 hv22 ho23 => by obtain ⟨x28, k29, ho23⟩ := bnd ho23; obtain rfl := sm ho23; exact ⟨[some a0, some a1, some v25], fun H27 Q hS26 hq => (fun Q hq => hq) Q hq, rfl, t_yes, fun y hy => by obtain rfl := sm hy; exact (d_call (A := A_is_box) (B := eB) (x := (one_17, (rooms_1.length : Int))) (a_cons (d_var rfl hv22) (a_cons (d_len (e := eI) (a_cons (d_var rfl (Dt.gr (Gr.tr g15 g21) ha0)) a_nil)) a_nil)) k29)⟩))) a_nil)))) (fun hc => by rw [if_neg (bf hc)] at k35; obtain ⟨x32, k33, k35⟩ := bnd k35; obtain rfl := sm k35; exact (t_B (K := K) (d_call (A := A_has_names_twice) (B := eB) (x := thing_2) (a_cons (d_var rfl (Dt.gr g15 ha1)) a_nil) k33))) (fun hc => by rw [if_pos hc] at k35; exact (sm k35).symm)) (fun hc F36 H37 g38 hS39 => ?_) (fun hc F46 H47 g48 hS49 => ?_)
    · rw [if_pos hc] at m
      refine s_ret (K := K) (d := eB false) hS39 d_bl (fun v44 F40 H41 g42 hS43 hv45 => ?_)
      obtain rfl := sm m
      exact q _ _ _ (Gr.tr g15 (Gr.tr g38 g42)) hS43 hv45
    · rw [if_neg (bf hc)] at m
      refine nxt ?_
      obtain ⟨x50, k51, m⟩ := bnd m
      obtain ⟨x54, k55, m⟩ := bnd m
      refine s_ret (K := K) (d := eB x54) hS49 (d_andM (r := x54) (d_call (A := A_has_room) (B := eB) (x := (rooms_1, thing_2, (1 : Int))) (a_cons (d_var rfl (Dt.gr (Gr.tr g15 g48) ha0)) (a_cons (d_var rfl (Dt.gr (Gr.tr g15 g48) ha1)) (a_cons d_int a_nil))) k51) (fun hc => by rw [if_pos hc] at k55; obtain ⟨x52, k53, k55⟩ := bnd k55; obtain rfl := sm k55; exact (d_call (A := A_has_room) (B := eB) (x := (rooms_1, thing_2, (2 : Int))) (a_cons (d_var rfl (Dt.gr (Gr.tr g15 g48) ha0)) (a_cons (d_var rfl (Dt.gr (Gr.tr g15 g48) ha1)) (a_cons d_int a_nil))) k53)) (fun hc => by rw [if_neg (bf hc)] at k55; exact (sm k55).symm)) (fun v60 F56 H57 g58 hS59 hv61 => ?_)
      obtain rfl := sm m
      exact q _ _ _ (Gr.tr g15 (Gr.tr g48 g58)) hS59 hv61
theorem sc_are_boxes : FnScope N_are_boxes ["rooms", "thing"] (defScope s_are_boxes) := ⟨rfl, rfl, rfl, by decide +kernel, rfl, by decide +kernel, by decide +kernel⟩
theorem ok_are_boxes {P : Program} {w : World} {K : PySem.W.Frag} {mg : Str → Option Value} {base : Heap} (hF : Df K mg "are_boxes" s_are_boxes) (m_all : mg "all" = none) (m_isinstance : mg "isinstance" = none) (m_len : mg "len" = none) (m_list : mg "list" = none) (c_MOST_BOXES : ∃ t, mg "MOST_BOXES" = some (.int 60 t)) (o_has_room : Ok P w K mg base 1 "has_room" ["rooms", "boxes", "place"] (sp_has_room K)) (o_is_box : Ok P w K mg base 3 "is_box" ["thing", "many"] (sp_is_box K)) (o_has_names_twice : Ok P w K mg base 1 "has_names_twice" ["boxes"] (sp_has_names_twice K)) : Ok P w K mg base 4 "are_boxes" ["rooms", "thing"] (sp_are_boxes K) := by
  obtain ⟨_, c_MOST_BOXES⟩ := c_MOST_BOXES
  obtain ⟨⟨_, G_has_room, bd_has_room, _⟩, kp_has_room, gm_has_room⟩ := o_has_room
  obtain ⟨⟨_, G_is_box, bd_is_box, _⟩, kp_is_box, gm_is_box⟩ := o_is_box
  obtain ⟨⟨_, G_has_names_twice, bd_has_names_twice, _⟩, kp_has_names_twice, gm_has_names_twice⟩ := o_has_names_twice
  obtain ⟨⟨fd, F⟩, gm⟩ := hF
  refine ⟨⟨fd, F.ok sc_are_boxes (fun vs H Q E h => ?_) (fun cdv A outer s H vs Q E hr h => ⟨t_are_boxes K, PSs.nox ?_, w_are_boxes vs H Q E h⟩), F.bindsN fun _ _ _ _ _ _ us hl => match us, hl with | [_, _], _ => rfl, lk_of F⟩, F.kp, gm⟩
  · obtain ⟨F0, cs, x, y, h, _⟩ := h; exact Dts.len h
  · exact (pss_cons (ps_if (PW.pt (pw_or (pt_not (pt_val (pe_callB call_isi (by rfl) m_isinstance (by decide +kernel) (pa_cons (pv 1) (pa_cons (pe_bltn (v := .ty "list") (by rfl) m_list (by decide +kernel) rfl) pa_nil))))) (pw_or1 (pt_cmpR op_gt (pe_callB cr_lenL (by rfl) m_len PySem.boot_len (pa_cons (pv 1) pa_nil)) (pe_glob (v := .int 60) (by rfl) c_MOST_BOXES ⟨_, rfl⟩) (nomark _))))) (pss_one (ps_ret pe_bl)) pss_nil) (pss_cons (ps_if (PW.pt (pw_or (pt_not (pt_val (pe_callB (cr_all rfl) (by rfl) m_all (by decide +kernel) (pa_cons (pe_lc (own := [("one", 2)]) (g := (gName 2)) (tt := tYes) (te := (tCall (sp_is_box K) [] E0 (tCons (tVar 2) (tCons (tCB (rLenL K) (tCons (tVar 0) tNil)) tNil)))) (by rfl) sc_are_boxes.nd (pi_list (pv 1)) (blkOk_by (own := [("one", 2)]) (N := N_are_boxes) (sc := defScope s_are_boxes) (by decide +kernel)) (fun _ _ _ _ _ => (pg_name (i := 2) sc_are_boxes.nd rfl (Or.inl rfl))) (fun _ _ _ _ _ => pts_nil) (fun _ _ _ _ _ => (pe_call G_is_box (hr.mono (by decide)) (by rfl) gm_is_box kp_is_box bd_is_box .nil pass0 (pa_cons (pv 2) (pa_cons (pe_callB cr_lenL (by rfl) m_len PySem.boot_len (pa_cons (pv 0) pa_nil)) pa_nil))))) pa_nil)))) (pw_or1 (pt_val (pe_call G_has_names_twice (hr.mono (by decide)) (by rfl) gm_has_names_twice kp_has_names_twice bd_has_names_twice .nil pass0 (pa_cons (pv 1) pa_nil)))))) (pss_one (ps_ret pe_bl)) pss_nil) (pss_one (ps_ret (pe_and (pe_call G_has_room (hr.mono (by decide)) (by rfl) gm_has_room kp_has_room bd_has_room .nil pass0 (pa_cons (pv 0) (pa_cons (pv 1) (pa_cons pe_int pa_nil)))) (pe_one (pe_call G_has_room (hr.mono (by decide)) (by rfl) gm_has_room kp_has_room bd_has_room .nil pass0 (pa_cons (pv 0) (pa_cons (pv 1) (pa_cons pe_int pa_nil))))))))))
abbrev s_are_within : Stmt := (top 16)
def f_are_within : ((List Int) × Int × Int) → Option Bool := fun (thing_1, least_2, greatest_3) => (((if true = true then (((lcC (fun one_4 => (((f_is_within (one_4, least_2, greatest_3))).bind fun x15 => some (some x15))) thing_1)).bind fun x17 => some ((x17).all id)) else some false)).bind fun x19 => some x19)
abbrev A_are_within : ((List Int) × Int × Int) → List PyData := fun x => [(eL eI) x.1, eI x.2.1, eI x.2.2]
abbrev N_are_within : List Str := ["thing", "least", "greatest", "one"]
abbrev sp_are_within (K : PySem.W.Frag) : Sp := spP K A_are_within eB f_are_within
def t_are_within (K : PySem.W.Frag) : TS := (tRet (tAndV (tCB (rIsi K) (tCons (tVar 0) (tCons (tC (.ty "list")) tNil))) (tCB (rAll K) (tCons (tLc (iList K (tVar 0)) (gName 3) tYes (tCall (sp_is_within K) [] E0 (tCons (tVar 3) (tCons (tVar 1) (tCons (tVar 2) tNil)))) [3]) tNil))))
theorem w_are_within {K : PySem.W.Frag} (vs : List V) (H : Hp) (Q : VK) (E : XK) (h : sp_are_within K vs H Q E) : t_are_within K { nx := fun _ H' => Q .non H', rt := Q } (start N_are_within vs) H := by
  obtain ⟨F0, cs, ⟨thing_1, least_2, greatest_3⟩, y, h, hS0, m, q⟩ := h
  obtain ⟨a0, _, rfl, ha0, h⟩ := Dts.hd h
  obtain ⟨a1, _, rfl, ha1, h⟩ := Dts.hd h
  obtain ⟨a2, _, rfl, ha2, h⟩ := Dts.hd h
  obtain rfl := Dts.no h
  obtain rfl := Dt.toInt ha1
  obtain rfl := Dt.toInt ha2
  unfold f_are_within at m
  try dsimp only at m
  unfold t_are_within
  refine go (σ' := [some a0, some (.int least_2), some (.int greatest_3), none]) rfl ?_
  obtain ⟨x19, k20, m⟩ := bnd m
  refine s_ret (K := K) (d := eB x19) hS0 (d_andM (r := x19) (d_is (e := PyData.bool true) (d_isiD (c := "list") (by decide) (d_var rfl ha0)) (congrArg PyData.bool (by rfl))) (fun hc => by rw [if_pos hc] at k20; obtain ⟨x17, k18, k20⟩ := bnd k20; obtain rfl := sm k20; exact (d_all (a_cons (EvC.dd (c_lcC (K := K) (f := (fun one_4 => (((f_is_within (one_4, least_2, greatest_3))).bind fun x15 => some (some x15)))) (em := eB) (i_list (en := eI) (d_var rfl ha0)) k18 (fun one_4 o11 v12 F5 p6 us7 g8 hv9 ho10 => by obtain rfl := Dt.toInt hv9; obtain ⟨x15, k16, ho10⟩ := bnd ho10; obtain rfl := sm ho10; exact ⟨[some a0, some (.int least_2), some (.int greatest_3), some (.int one_4)], fun H14 Q hS13 hq => (fun Q hq => hq) Q hq, rfl, t_yes, fun y hy => by obtain rfl := sm hy; exact (d_call (A := A_is_within) (B := eB) (x := (one_4, least_2, greatest_3)) (a_cons (d_var rfl (.int _)) (a_cons (d_var rfl (.int _)) (a_cons (d_var rfl (.int _)) a_nil))) k16)⟩))) a_nil))) (fun hc => by rw [if_neg (bf hc)] at k20; exact (sm k20).symm)) (fun v25 F21 H22 g23 hS24 hv26 => ?_)
  obtain rfl := sm m
  exact q _ _ _ g23 hS24 hv26
theorem sc_are_within : FnScope N_are_within ["thing", "least", "greatest"] (defScope s_are_within) := ⟨rfl, rfl, rfl, by decide +kernel, rfl, by decide +kernel, by decide +kernel⟩
theorem ok_are_within {P : Program} {w : World} {K : PySem.W.Frag} {mg : Str → Option Value} {base : Heap} (hF : Df K mg "are_within" s_are_within) (m_all : mg "all" = none) (m_isinstance : mg "isinstance" = none) (m_list : mg "list" = none) (o_is_within : Ok P w K mg base 2 "is_within" ["thing", "least", "greatest"] (sp_is_within K)) : Ok P w K mg base 3 "are_within" ["thing", "least", "greatest"] (sp_are_within K) := by
  obtain ⟨⟨_, G_is_within, bd_is_within, _⟩, kp_is_within, gm_is_within⟩ := o_is_within
  obtain ⟨⟨fd, F⟩, gm⟩ := hF
  refine ⟨⟨fd, F.ok sc_are_within (fun vs H Q E h => ?_) (fun cdv A outer s H vs Q E hr h => ⟨t_are_within K, PSs.nox ?_, w_are_within vs H Q E h⟩), F.bindsN fun _ _ _ _ _ _ us hl => match us, hl with | [_, _, _], _ => rfl, lk_of F⟩, F.kp, gm⟩
  · obtain ⟨F0, cs, x, y, h, _⟩ := h; exact Dts.len h
  · exact (pss_one (ps_ret (pe_and (pe_callB call_isi (by rfl) m_isinstance (by decide +kernel) (pa_cons (pv 0) (pa_cons (pe_bltn (v := .ty "list") (by rfl) m_list (by decide +kernel) rfl) pa_nil))) (pe_one (pe_callB (cr_all rfl) (by rfl) m_all (by decide +kernel) (pa_cons (pe_lc (own := [("one", 3)]) (g := (gName 3)) (tt := tYes) (te := (tCall (sp_is_within K) [] E0 (tCons (tVar 3) (tCons (tVar 1) (tCons (tVar 2) tNil))))) (by rfl) sc_are_within.nd (pi_list (pv 0)) (blkOk_by (own := [("one", 3)]) (N := N_are_within) (sc := defScope s_are_within) (by decide +kernel)) (fun _ _ _ _ _ => (pg_name (i := 3) sc_are_within.nd rfl (Or.inl rfl))) (fun _ _ _ _ _ => pts_nil) (fun _ _ _ _ _ => (pe_call G_is_within (hr.mono (by decide)) (by rfl) gm_is_within kp_is_within bd_is_within .nil pass0 (pa_cons (pv 3) (pa_cons (pv 1) (pa_cons (pv 2) pa_nil)))))) pa_nil))))))
abbrev s_look_at_store : Stmt := (top 21)
def f_look_at_store : ((List Int) × (List Int) × Int × (List (Str × Int × Int))) → Option Unit := fun thing_1 => (if ((!true) || (!decide ((4 : Int) = (4 : Int)))) = true then none else (letM thing_1.1 fun rooms_16 => letM thing_1.2.1 fun gaps_18 => letM thing_1.2.2.1 fun most_20 => letM thing_1.2.2.2 fun boxes_22 => (((f_are_within (rooms_16, (1 : Int), (40 : Int)))).bind fun x34 => (if ((!x34) || (!(decide ((2 : Int) ≤ (rooms_16.length : Int)) && decide ((rooms_16.length : Int) ≤ (16 : Int))))) = true then none else (((f_are_within (gaps_18, (1 : Int), (1000000000 : Int)))).bind fun x44 => (if ((!x44) || (!decide ((gaps_18.length : Int) = ((rooms_16.length : Int) - (1 : Int))))) = true then none else (((f_is_within (most_20, (1 : Int), (20 : Int)))).bind fun x54 => (if (!x54) = true then none else (((f_are_boxes (rooms_16, boxes_22))).bind fun x64 => (if (!x64) = true then none else some ()))))))))))
abbrev A_look_at_store : ((List Int) × (List Int) × Int × (List (Str × Int × Int))) → List PyData := fun x => [(eT4 (eL eI) (eL eI) eI (eL (eT3 eS eI eI))) x]
abbrev N_look_at_store : List Str := ["thing", "rooms", "gaps", "most", "boxes"]
abbrev sp_look_at_store (K : PySem.W.Frag) : Sp := spP K A_look_at_store eN f_look_at_store
def t_look_at_store (K : PySem.W.Frag) : TS := (tSeq (tIfS (tOr (tNot (tB (tCB (rIsi K) (tCons (tVar 0) (tCons (tC (.ty "tuple")) tNil))))) (tTest (tOp rNe (tCB (rLenL K) (tCons (tVar 0) tNil)) (tC (.int 4))))) tNever tNext) (tSeq (tAsg (tVar 0) (gTup K 4 (gCons (gName 1) (gCons (gName 2) (gCons (gName 3) (gCons (gName 4) gNil)))))) (tSeq (tIfS (tOr (tNot (tB (tCall (sp_are_within K) [] E0 (tCons (tVar 1) (tCons (tC (.int 1)) (tCons (tC (.int 40)) tNil)))))) (tNot (tTest (tChain (rI0 fun i j => .bl (decide (i ≤ j))) (rI0 fun i j => .bl (decide (i ≤ j))) (tC (.int 2)) (tCB (rLenL K) (tCons (tVar 1) tNil)) (tC (.int 16)))))) tNever tNext) (tSeq (tIfS (tOr (tNot (tB (tCall (sp_are_within K) [] E0 (tCons (tVar 2) (tCons (tC (.int 1)) (tCons (tC (.int 1000000000)) tNil)))))) (tTest (tOp rNe (tCB (rLenL K) (tCons (tVar 2) tNil)) (tOp (rI0 fun i j => .int (i - j)) (tCB (rLenL K) (tCons (tVar 1) tNil)) (tC (.int 1)))))) tNever tNext) (tSeq (tIfS (tNot (tB (tCall (sp_is_within K) [] E0 (tCons (tVar 3) (tCons (tC (.int 1)) (tCons (tC (.int 20)) tNil)))))) tNever tNext) (tIfS (tNot (tB (tCall (sp_are_boxes K) [] E0 (tCons (tVar 1) (tCons (tVar 4) tNil))))) tNever tNext))))))
theorem w_look_at_store {K : PySem.W.Frag} (vs : List V) (H : Hp) (Q : VK) (E : XK) (h : sp_look_at_store K vs H Q E) : t_look_at_store K { nx := fun _ H' => Q .non H', rt := Q } (start N_look_at_store vs) H := by
  obtain ⟨F0, cs, thing_1, y, h, hS0, m, q⟩ := h
  obtain ⟨a0, _, rfl, ha0, h⟩ := Dts.hd h
  obtain rfl := Dts.no h
  unfold f_look_at_store at m
  try dsimp only at m
  unfold t_look_at_store
  refine go (σ' := [some a0, none, none, none, none]) rfl ?_
  refine s_if (b := ((!true) || (!decide ((4 : Int) = (4 : Int))))) hS0 (t_orP (t_not (t_B (K := K) (d_is (e := PyData.bool true) (d_isiD (c := "tuple") (by decide) (d_var rfl ha0)) (congrArg PyData.bool (by rfl))))) (fun hc => (t_test (K := K) (d_neI (d_is (e := PyData.int 4) (d_lenT (a_cons (d_var rfl ha0) a_nil)) (congrArg PyData.int (by rfl))) d_int)))) (fun hc F2 H3 g4 hS5 => ?_) (fun hc F6 H7 g8 hS9 => ?_)
  · rw [if_pos hc] at m
    cases m
  · rw [if_neg (bf hc)] at m
    refine nxt ?_
    refine s_asg (K := K) (d := (eT4 (eL eI) (eL eI) eI (eL (eT3 eS eI eI))) thing_1) hS9 (d_var rfl (Dt.gr g8 ha0)) (fun v14 F10 H11 g12 hS13 hv15 => ?_)
    obtain ⟨rooms_16, k17, m⟩ := lt m
    obtain ⟨gaps_18, k19, m⟩ := lt m
    obtain ⟨most_20, k21, m⟩ := lt m
    obtain ⟨boxes_22, k23, m⟩ := lt m
    obtain ⟨p24, w26, w27, w28, w29, rfl, hT25, hw30, hw31, hw32, hw33⟩ := u4 hv15
    rw [k17] at hw30
    rw [k19] at hw31
    rw [k21] at hw32
    obtain rfl := Dt.toInt hw32
    rw [k23] at hw33
    refine tg (σ' := [some a0, some w26, some w27, some (.int most_20), some w29]) (fun Q hq => ⟨p24, [_, _, _, _], rfl, gr_T hS13.fr hT25, rfl, _, _, rfl, _, _, rfl, _, _, rfl, _, _, rfl, rfl, hq⟩) ?_
    obtain ⟨x34, k35, m⟩ := bnd m
    refine s_if (b := ((!x34) || (!(decide ((2 : Int) ≤ (rooms_16.length : Int)) && decide ((rooms_16.length : Int) ≤ (16 : Int)))))) hS13 (t_orP (t_not (t_B (K := K) (d_call (A := A_are_within) (B := eB) (x := (rooms_16, (1 : Int), (40 : Int))) (a_cons (d_var rfl hw30) (a_cons d_int (a_cons d_int a_nil))) k35))) (fun hc => (t_not (t_test (K := K) (d_chain d_int (d_len (e := eI) (a_cons (d_var rfl hw30) a_nil)) d_int))))) (fun hc F36 H37 g38 hS39 => ?_) (fun hc F40 H41 g42 hS43 => ?_)
    · rw [if_pos hc] at m
      cases m
    · rw [if_neg (bf hc)] at m
      refine nxt ?_
      obtain ⟨x44, k45, m⟩ := bnd m
      refine s_if (b := ((!x44) || (!decide ((gaps_18.length : Int) = ((rooms_16.length : Int) - (1 : Int)))))) hS43 (t_orP (t_not (t_B (K := K) (d_call (A := A_are_within) (B := eB) (x := (gaps_18, (1 : Int), (1000000000 : Int))) (a_cons (d_var rfl (Dt.gr g42 hw31)) (a_cons d_int (a_cons d_int a_nil))) k45))) (fun hc => (t_test (K := K) (d_neI (d_len (e := eI) (a_cons (d_var rfl (Dt.gr g42 hw31)) a_nil)) (d_sub (d_len (e := eI) (a_cons (d_var rfl (Dt.gr g42 hw30)) a_nil)) d_int))))) (fun hc F46 H47 g48 hS49 => ?_) (fun hc F50 H51 g52 hS53 => ?_)
      · rw [if_pos hc] at m
        cases m
      · rw [if_neg (bf hc)] at m
        refine nxt ?_
        obtain ⟨x54, k55, m⟩ := bnd m
        refine s_if (b := (!x54)) hS53 (t_not (t_B (K := K) (d_call (A := A_is_within) (B := eB) (x := (most_20, (1 : Int), (20 : Int))) (a_cons (d_var rfl (.int _)) (a_cons d_int (a_cons d_int a_nil))) k55))) (fun hc F56 H57 g58 hS59 => ?_) (fun hc F60 H61 g62 hS63 => ?_)
        · rw [if_pos hc] at m
          cases m
        · rw [if_neg (bf hc)] at m
          refine nxt ?_
          obtain ⟨x64, k65, m⟩ := bnd m
          refine s_if (b := (!x64)) hS63 (t_not (t_B (K := K) (d_call (A := A_are_boxes) (B := eB) (x := (rooms_16, boxes_22)) (a_cons (d_var rfl (Dt.gr (Gr.tr g42 (Gr.tr g52 g62)) hw30)) (a_cons (d_var rfl (Dt.gr (Gr.tr g42 (Gr.tr g52 g62)) hw33)) a_nil)) k65))) (fun hc F66 H67 g68 hS69 => ?_) (fun hc F70 H71 g72 hS73 => ?_)
          · rw [if_pos hc] at m
            cases m
          · rw [if_neg (bf hc)] at m
            refine nxt ?_
            obtain rfl := sm m
            exact q _ _ _ (Gr.tr g8 (Gr.tr g12 (Gr.tr g42 (Gr.tr g52 (Gr.tr g62 g72))))) hS73 Dt.non
theorem sc_look_at_store : FnScope N_look_at_store ["thing"] (defScope s_look_at_store) := ⟨rfl, rfl, rfl, by decide +kernel, rfl, by decide +kernel, by decide +kernel⟩
theorem ok_look_at_store {P : Program} {w : World} {K : PySem.W.Frag} {mg : Str → Option Value} {base : Heap} (hF : Df K mg "look_at_store" s_look_at_store) (m_isinstance : mg "isinstance" = none) (m_len : mg "len" = none) (m_tuple : mg "tuple" = none) (c_FARTHEST : ∃ t, mg "FARTHEST" = some (.int 1000000000 t)) (c_FEWEST_BAYS : ∃ t, mg "FEWEST_BAYS" = some (.int 2 t)) (c_MOST_BAYS : ∃ t, mg "MOST_BAYS" = some (.int 16 t)) (c_MOST_LOAD : ∃ t, mg "MOST_LOAD" = some (.int 20 t)) (c_MOST_ROOM : ∃ t, mg "MOST_ROOM" = some (.int 40 t)) (o_are_boxes : Ok P w K mg base 4 "are_boxes" ["rooms", "thing"] (sp_are_boxes K)) (o_is_within : Ok P w K mg base 2 "is_within" ["thing", "least", "greatest"] (sp_is_within K)) (o_are_within : Ok P w K mg base 3 "are_within" ["thing", "least", "greatest"] (sp_are_within K)) : Ok P w K mg base 5 "look_at_store" ["thing"] (sp_look_at_store K) := by
  obtain ⟨_, c_FARTHEST⟩ := c_FARTHEST
  obtain ⟨_, c_FEWEST_BAYS⟩ := c_FEWEST_BAYS
  obtain ⟨_, c_MOST_BAYS⟩ := c_MOST_BAYS
  obtain ⟨_, c_MOST_LOAD⟩ := c_MOST_LOAD
  obtain ⟨_, c_MOST_ROOM⟩ := c_MOST_ROOM
  obtain ⟨⟨_, G_are_boxes, bd_are_boxes, _⟩, kp_are_boxes, gm_are_boxes⟩ := o_are_boxes
  obtain ⟨⟨_, G_is_within, bd_is_within, _⟩, kp_is_within, gm_is_within⟩ := o_is_within
  obtain ⟨⟨_, G_are_within, bd_are_within, _⟩, kp_are_within, gm_are_within⟩ := o_are_within
  obtain ⟨⟨fd, F⟩, gm⟩ := hF
  refine ⟨⟨fd, F.ok sc_look_at_store (fun vs H Q E h => ?_) (fun cdv A outer s H vs Q E hr h => ⟨t_look_at_store K, PSs.nox ?_, w_look_at_store vs H Q E h⟩), F.bindsN fun _ _ _ _ _ _ us hl => match us, hl with | [_], _ => rfl, lk_of F⟩, F.kp, gm⟩
  · obtain ⟨F0, cs, x, y, h, _⟩ := h; exact Dts.len h
  · exact (pss_cons (ps_if (PW.pt (pw_or (pt_not (pt_val (pe_callB call_isi (by rfl) m_isinstance (by decide +kernel) (pa_cons (pv 0) (pa_cons (pe_bltn (v := .ty "tuple") (by rfl) m_tuple (by decide +kernel) rfl) pa_nil))))) (pw_or1 (pt_cmpR op_ne (pe_callB cr_lenL (by rfl) m_len PySem.boot_len (pa_cons (pv 0) pa_nil)) pe_int (nomark _))))) (pss_one ps_never) pss_nil) (pss_cons (ps_asg (pv 0) (pg_tup rfl (pgs_cons (pg_name (i := 1) sc_look_at_store.nd rfl (Or.inl rfl)) (pgs_cons (pg_name (i := 2) sc_look_at_store.nd rfl (Or.inl rfl)) (pgs_cons (pg_name (i := 3) sc_look_at_store.nd rfl (Or.inl rfl)) (pgs_cons (pg_name (i := 4) sc_look_at_store.nd rfl (Or.inl rfl)) pgs_nil)))))) (pss_cons (ps_if (PW.pt (pw_or (pt_not (pt_val (pe_call G_are_within (hr.mono (by decide)) (by rfl) gm_are_within kp_are_within bd_are_within .nil pass0 (pa_cons (pv 1) (pa_cons pe_int (pa_cons (pe_glob (v := .int 40) (by rfl) c_MOST_ROOM ⟨_, rfl⟩) pa_nil)))))) (pw_or1 (pt_not (pt_chain op_le op_le (pe_glob (v := .int 2) (by rfl) c_FEWEST_BAYS ⟨_, rfl⟩) (pe_callB cr_lenL (by rfl) m_len PySem.boot_len (pa_cons (pv 1) pa_nil)) (pe_glob (v := .int 16) (by rfl) c_MOST_BAYS ⟨_, rfl⟩)))))) (pss_one ps_never) pss_nil) (pss_cons (ps_if (PW.pt (pw_or (pt_not (pt_val (pe_call G_are_within (hr.mono (by decide)) (by rfl) gm_are_within kp_are_within bd_are_within .nil pass0 (pa_cons (pv 2) (pa_cons pe_int (pa_cons (pe_glob (v := .int 1000000000) (by rfl) c_FARTHEST ⟨_, rfl⟩) pa_nil)))))) (pw_or1 (pt_cmpR op_ne (pe_callB cr_lenL (by rfl) m_len PySem.boot_len (pa_cons (pv 2) pa_nil)) (pe_op op_sub (pe_callB cr_lenL (by rfl) m_len PySem.boot_len (pa_cons (pv 1) pa_nil)) pe_int) (nomark _))))) (pss_one ps_never) pss_nil) (pss_cons (ps_if (pt_not (pt_val (pe_call G_is_within (hr.mono (by decide)) (by rfl) gm_is_within kp_is_within bd_is_within .nil pass0 (pa_cons (pv 3) (pa_cons pe_int (pa_cons (pe_glob (v := .int 20) (by rfl) c_MOST_LOAD ⟨_, rfl⟩) pa_nil)))))) (pss_one ps_never) pss_nil) (pss_one (ps_if (pt_not (pt_val (pe_call G_are_boxes (hr.mono (by decide)) (by rfl) gm_are_boxes kp_are_boxes bd_are_boxes .nil pass0 (pa_cons (pv 1) (pa_cons (pv 4) pa_nil))))) (pss_one ps_never) pss_nil)))))))
abbrev s_numbers_text : Stmt := (top 23)
def f_numbers_text : (List Int) → Option Str := fun numbers_1 => (((lcC (fun number_2 => (((strM number_2)).bind fun x13 => some (some x13))) numbers_1)).bind fun x15 => ((joinM (" " : Str) x15)).bind fun x17 => some x17)
abbrev A_numbers_text : (List Int) → List PyData := fun x => [(eL eI) x]
abbrev N_numbers_text : List Str := ["numbers", "number"]
abbrev sp_numbers_text (K : PySem.W.Frag) : Sp := spP K A_numbers_text eS f_numbers_text
def t_numbers_text (K : PySem.W.Frag) : TS := (tRet (tM1 (rJoin K) (tC (.str " ")) (tLc (iList K (tVar 0)) (gName 1) tYes (tCB rStrI (tCons (tVar 1) tNil)) [1])))
theorem w_numbers_text {K : PySem.W.Frag} (vs : List V) (H : Hp) (Q : VK) (E : XK) (h : sp_numbers_text K vs H Q E) : t_numbers_text K { nx := fun _ H' => Q .non H', rt := Q } (start N_numbers_text vs) H := by
  obtain ⟨F0, cs, numbers_1, y, h, hS0, m, q⟩ := h
  obtain ⟨a0, _, rfl, ha0, h⟩ := Dts.hd h
  obtain rfl := Dts.no h
  unfold f_numbers_text at m
  try dsimp only at m
  unfold t_numbers_text
  refine go (σ' := [some a0, none]) rfl ?_
  obtain ⟨x15, k16, m⟩ := bnd m
  obtain ⟨x17, k18, m⟩ := bnd m
  refine s_ret (K := K) (d := eS x17) hS0 (d_join d_str (EvC.dd (c_lcC (K := K) (f := (fun number_2 => (((strM number_2)).bind fun x13 => some (some x13)))) (em := eS) (i_list (en := eI) (d_var rfl ha0)) k16 (fun number_2 o9 v10 F3 p4 us5 g6 hv7 ho8 => by obtain rfl := Dt.toInt hv7; obtain ⟨x13, k14, ho8⟩ := bnd ho8; obtain rfl := sm ho8; exact ⟨[some a0, some (.int number_2)], fun H12 Q hS11 hq => (fun Q hq => hq) Q hq, rfl, t_yes, fun y hy => by obtain rfl := sm hy; exact (d_strI (a_cons (d_var rfl (.int _)) a_nil) k14)⟩))) k18) (fun v23 F19 H20 g21 hS22 hv24 => ?_)
  obtain rfl := sm m
  exact q _ _ _ g21 hS22 hv24
theorem sc_numbers_text : FnScope N_numbers_text ["numbers"] (defScope s_numbers_text) := ⟨rfl, rfl, rfl, by decide +kernel, rfl, by decide +kernel, by decide +kernel⟩
theorem ok_numbers_text {P : Program} {w : World} {K : PySem.W.Frag} {mg : Str → Option Value} {base : Heap} (hF : Df K mg "numbers_text" s_numbers_text) (m_str : mg "str" = none) : Ok P w K mg base 1 "numbers_text" ["numbers"] (sp_numbers_text K) := by
  obtain ⟨⟨fd, F⟩, gm⟩ := hF
  refine ⟨⟨fd, F.ok sc_numbers_text (fun vs H Q E h => ?_) (fun cdv A outer s H vs Q E hr h => ⟨t_numbers_text K, PSs.nox ?_, w_numbers_text vs H Q E h⟩), F.bindsN fun _ _ _ _ _ _ us hl => match us, hl with | [_], _ => rfl, lk_of F⟩, F.kp, gm⟩
  · obtain ⟨F0, cs, x, y, h, _⟩ := h; exact Dts.len h
  · exact (pss_one (ps_ret (pe_join pe_str (pe_lc (own := [("number", 1)]) (g := (gName 1)) (tt := tYes) (te := (tCB rStrI (tCons (tVar 1) tNil))) (by rfl) sc_numbers_text.nd (pi_list (pv 0)) (blkOk_by (own := [("number", 1)]) (N := N_numbers_text) (sc := defScope s_numbers_text) (by decide +kernel)) (fun _ _ _ _ _ => (pg_name (i := 1) sc_numbers_text.nd rfl (Or.inl rfl))) (fun _ _ _ _ _ => pts_nil) (fun _ _ _ _ _ => (pe_callTy cr_str (by rfl) m_str (by decide +kernel) (pa_cons (pv 1) pa_nil)))))))
abbrev s_show_store : Stmt := (top 24)
def f_show_store : ((List Int) × (List Int) × Int × (List (Str × Int × Int))) → Option Str := fun store_1 => (((f_look_at_store store_1)).bind fun x2 => (((lcC (fun (name_24, at_25, to_26) => (((lenS name_24)).bind fun x45 => ((strM at_25)).bind fun x47 => ((strM to_26)).bind fun x49 => ((scatM Str.empty name_24)).bind fun x51 => ((scatM x51 (" " : Str))).bind fun x53 => ((scatM x53 x47)).bind fun x55 => ((scatM x55 (" " : Str))).bind fun x57 => ((scatM x57 x49)).bind fun x59 => some (some x59))) store_1.2.2.2)).bind fun x61 => ((catM ([("boxes" : Str)] : (List Str)) x61)).bind fun x63 => (((f_numbers_text store_1.1)).bind fun x71 => ((scatM ("rooms " : Str) x71)).bind fun x73 => ((f_numbers_text store_1.2.1)).bind fun x75 => ((scatM ("gaps " : Str) x75)).bind fun x77 => ((strM store_1.2.2.1)).bind fun x79 => ((scatM Str.empty ("most " : Str))).bind fun x81 => ((scatM x81 x79)).bind fun x83 => ((joinM (" " : Str) x63)).bind fun x85 => letM ([x73, x77, x83, x85] : (List Str)) fun parts_91 => (((joinM ("; " : Str) parts_91)).bind fun x95 => some x95))))
abbrev A_show_store : ((List Int) × (List Int) × Int × (List (Str × Int × Int))) → List PyData := fun x => [(eT4 (eL eI) (eL eI) eI (eL (eT3 eS eI eI))) x]
abbrev N_show_store : List Str := ["store", "words", "parts", "rooms", "gaps", "most", "boxes", "name", "at", "to"]
abbrev sp_show_store (K : PySem.W.Frag) : Sp := spP K A_show_store eS f_show_store
def t_show_store (K : PySem.W.Frag) : TS := (tSeq (tDrop (tCall (sp_look_at_store K) [] E0 (tCons (tVar 0) tNil))) (tSeq (tAsg (tVar 0) (gTup K 4 (gCons (gName 3) (gCons (gName 4) (gCons (gName 5) (gCons (gName 6) gNil)))))) (tSeq (tAsg (tOp (rCatS K) (tLst (tCons (tC (.str "boxes")) tNil)) (tLc (iList K (tVar 6)) (gTup K 3 (gCons (gName 7) (gCons (gName 8) (gCons (gName 9) gNil)))) tYes (fun σ H Q => tJs [(tFmt (tVar 7)), (tC (.str " ")), (tFmt (tVar 8)), (tC (.str " ")), (tFmt (tVar 9))] Str.empty σ H fun out H1 => Q (.str out) H1) [7, 8, 9])) (gName 1)) (tSeq (tAsg (tLst (tCons (tOp rScat (tC (.str "rooms ")) (tCall (sp_numbers_text K) [] E0 (tCons (tVar 3) tNil))) (tCons (tOp rScat (tC (.str "gaps ")) (tCall (sp_numbers_text K) [] E0 (tCons (tVar 4) tNil))) (tCons (fun σ H Q => tJs [(tC (.str "most ")), (tFmt (tVar 5))] Str.empty σ H fun out H1 => Q (.str out) H1) (tCons (tM1 (rJoin K) (tC (.str " ")) (tVar 1)) tNil))))) (gName 2)) (tRet (tM1 (rJoin K) (tC (.str "; ")) (tVar 2)))))))
theorem w_show_store {K : PySem.W.Frag} (vs : List V) (H : Hp) (Q : VK) (E : XK) (h : sp_show_store K vs H Q E) : t_show_store K { nx := fun _ H' => Q .non H', rt := Q } (start N_show_store vs) H := by
  obtain ⟨F0, cs, store_1, y, h, hS0, m, q⟩ := h
  obtain ⟨a0, _, rfl, ha0, h⟩ := Dts.hd h
  obtain rfl := Dts.no h
  unfold f_show_store at m
  try dsimp only at m
  unfold t_show_store
  refine go (σ' := [some a0, none, none, none, none, none, none, none, none, none]) rfl ?_
  obtain ⟨x2, k3, m⟩ := bnd m
  refine s_drop (K := K) (d := eN x2) hS0 (d_call (A := A_look_at_store) (B := eN) (x := store_1) (a_cons (d_var rfl ha0) a_nil) k3) (fun F4 H5 g6 hS7 => ?_)
  refine s_asg (K := K) (d := (eT4 (eL eI) (eL eI) eI (eL (eT3 eS eI eI))) store_1) hS7 (d_var rfl (Dt.gr g6 ha0)) (fun v12 F8 H9 g10 hS11 hv13 => ?_)
  obtain ⟨p14, w16, w17, w18, w19, rfl, hT15, hw20, hw21, hw22, hw23⟩ := u4 hv13
  obtain rfl := Dt.toInt hw22
  refine tg (σ' := [some a0, none, none, some w16, some w17, some (.int store_1.2.2.1), some w19, none, none, none]) (fun Q hq => ⟨p14, [_, _, _, _], rfl, gr_T hS11.fr hT15, rfl, _, _, rfl, _, _, rfl, _, _, rfl, _, _, rfl, rfl, hq⟩) ?_
  obtain ⟨x61, k62, m⟩ := bnd m
  obtain ⟨x63, k64, m⟩ := bnd m
  refine s_set (K := K) (d := (eL eS) x63) (i := 1) (σ' := fun v69 => [some a0, some v69, none, some w16, some w17, some (.int store_1.2.2.1), some w19, none, none, none]) hS11 (EvC.dd (c_cat (en := eS) (d_lst (a_cons d_str a_nil) (Nat.le_of_ble_eq_true rfl)) (EvC.dd (c_lcC (K := K) (f := (fun (name_24, at_25, to_26) => (((lenS name_24)).bind fun x45 => ((strM at_25)).bind fun x47 => ((strM to_26)).bind fun x49 => ((scatM Str.empty name_24)).bind fun x51 => ((scatM x51 (" " : Str))).bind fun x53 => ((scatM x53 x47)).bind fun x55 => ((scatM x55 (" " : Str))).bind fun x57 => ((scatM x57 x49)).bind fun x59 => some (some x59)))) (em := eS) (i_list (en := (eT3 eS eI eI)) (d_var rfl hw23)) k62 (fun ⟨name_24, at_25, to_26⟩ o33 v34 F27 p28 us29 g30 hv31 ho32 => by obtain ⟨p37, w39, w40, w41, rfl, hT38, hw42, hw43, hw44⟩ := u3 hv31; obtain rfl := Dt.toStr hw42; obtain rfl := Dt.toInt hw43; obtain rfl := Dt.toInt hw44; obtain ⟨x45, k46, ho32⟩ := bnd ho32; obtain ⟨x47, k48, ho32⟩ := bnd ho32; obtain ⟨x49, k50, ho32⟩ := bnd ho32; obtain ⟨x51, k52, ho32⟩ := bnd ho32; obtain ⟨x53, k54, ho32⟩ := bnd ho32; obtain ⟨x55, k56, ho32⟩ := bnd ho32; obtain ⟨x57, k58, ho32⟩ := bnd ho32; obtain ⟨x59, k60, ho32⟩ := bnd ho32; obtain rfl := sm ho32; exact ⟨[some a0, none, none, some w16, some w17, some (.int store_1.2.2.1), some w19, some (.str name_24), some (.int at_25), some (.int to_26)], fun H36 Q hS35 hq => (fun Q hq => ⟨p37, [_, _, _], rfl, gr_T hS35.fr hT38, rfl, _, _, rfl, _, _, rfl, _, _, rfl, rfl, hq⟩) Q hq, rfl, t_yes, fun y hy => by obtain rfl := sm hy; exact (d_fstr (j_cons (d_fmtS (d_var rfl (.str _)) k46) k52 (j_cons d_str k54 (j_cons (d_fmtI (d_var rfl (.int _)) k48) k56 (j_cons d_str k58 (j_cons (d_fmtI (d_var rfl (.int _)) k50) k60 j_nil))))))⟩))) k64)) (fun _ => rfl) (fun v69 F65 H66 g67 hS68 hv70 => ?_)
  obtain ⟨x71, k72, m⟩ := bnd m
  obtain ⟨x73, k74, m⟩ := bnd m
  obtain ⟨x75, k76, m⟩ := bnd m
  obtain ⟨x77, k78, m⟩ := bnd m
  obtain ⟨x79, k80, m⟩ := bnd m
  obtain ⟨x81, k82, m⟩ := bnd m
  obtain ⟨x83, k84, m⟩ := bnd m
  obtain ⟨x85, k86, m⟩ := bnd m
  obtain ⟨parts_91, k92, m⟩ := lt m
  refine s_set (K := K) (d := (eL eS) parts_91) (i := 2) (σ' := fun v93 => [some a0, some v69, some v93, some w16, some w17, some (.int store_1.2.2.1), some w19, none, none, none]) hS68 (d_is (d_lst (a_cons (d_scat d_str (d_call (A := A_numbers_text) (B := eS) (x := store_1.1) (a_cons (d_var rfl (Dt.gr g67 hw20)) a_nil) k72) k74) (a_cons (d_scat d_str (d_call (A := A_numbers_text) (B := eS) (x := store_1.2.1) (a_cons (d_var rfl (Dt.gr g67 hw21)) a_nil) k76) k78) (a_cons (d_fstr (j_cons d_str k82 (j_cons (d_fmtI (d_var rfl (.int _)) k80) k84 j_nil))) (a_cons (d_join d_str (d_var rfl hv70) k86) a_nil)))) (Nat.le_of_ble_eq_true rfl)) (congrArg (eL eS) k92)) (fun _ => rfl) (fun v93 F87 H88 g89 hS90 hv94 => ?_)
  obtain ⟨x95, k96, m⟩ := bnd m
  refine s_ret (K := K) (d := eS x95) hS90 (d_join d_str (d_var rfl hv94) k96) (fun v101 F97 H98 g99 hS100 hv102 => ?_)
  obtain rfl := sm m
  exact q _ _ _ (Gr.tr g6 (Gr.tr g10 (Gr.tr g67 (Gr.tr g89 g99)))) hS100 hv102
theorem sc_show_store : FnScope N_show_store ["store"] (defScope s_show_store) := ⟨rfl, rfl, rfl, by decide +kernel, rfl, by decide +kernel, by decide +kernel⟩
theorem ok_show_store {P : Program} {w : World} {K : PySem.W.Frag} {mg : Str → Option Value} {base : Heap} (hF : Df K mg "show_store" s_show_store) (o_numbers_text : Ok P w K mg base 1 "numbers_text" ["numbers"] (sp_numbers_text K)) (o_look_at_store : Ok P w K mg base 5 "look_at_store" ["thing"] (sp_look_at_store K)) : Ok P w K mg base 6 "show_store" ["store"] (sp_show_store K) := by
  obtain ⟨⟨_, G_numbers_text, bd_numbers_text, _⟩, kp_numbers_text, gm_numbers_text⟩ := o_numbers_text
  obtain ⟨⟨_, G_look_at_store, bd_look_at_store, _⟩, kp_look_at_store, gm_look_at_store⟩ := o_look_at_store
  obtain ⟨⟨fd, F⟩, gm⟩ := hF
  refine ⟨⟨fd, F.ok sc_show_store (fun vs H Q E h => ?_) (fun cdv A outer s H vs Q E hr h => ⟨t_show_store K, PSs.nox ?_, w_show_store vs H Q E h⟩), F.bindsN fun _ _ _ _ _ _ us hl => match us, hl with | [_], _ => rfl, lk_of F⟩, F.kp, gm⟩
  · obtain ⟨F0, cs, x, y, h, _⟩ := h; exact Dts.len h
  · exact (pss_cons (ps_expr (pe_call G_look_at_store (hr.mono (by decide)) (by rfl) gm_look_at_store kp_look_at_store bd_look_at_store .nil pass0 (pa_cons (pv 0) pa_nil))) (pss_cons (ps_asg (pv 0) (pg_tup rfl (pgs_cons (pg_name (i := 3) sc_show_store.nd rfl (Or.inl rfl)) (pgs_cons (pg_name (i := 4) sc_show_store.nd rfl (Or.inl rfl)) (pgs_cons (pg_name (i := 5) sc_show_store.nd rfl (Or.inl rfl)) (pgs_cons (pg_name (i := 6) sc_show_store.nd rfl (Or.inl rfl)) pgs_nil)))))) (pss_cons (ps_set (i := 1) sc_show_store.nd rfl (Or.inl rfl) (pe_op op_catS (pe_lst (pa_cons pe_str pa_nil)) (pe_lc (own := [("name", 7), ("at", 8), ("to", 9)]) (g := (gTup K 3 (gCons (gName 7) (gCons (gName 8) (gCons (gName 9) gNil))))) (tt := tYes) (te := (fun σ H Q => tJs [(tFmt (tVar 7)), (tC (.str " ")), (tFmt (tVar 8)), (tC (.str " ")), (tFmt (tVar 9))] Str.empty σ H fun out H1 => Q (.str out) H1)) (by rfl) sc_show_store.nd (pi_list (pv 6)) (blkOk_by (own := [("name", 7), ("at", 8), ("to", 9)]) (N := N_show_store) (sc := defScope s_show_store) (by decide +kernel)) (fun _ _ _ _ _ => (pg_tup rfl (pgs_cons (pg_name (i := 7) sc_show_store.nd rfl (Or.inl rfl)) (pgs_cons (pg_name (i := 8) sc_show_store.nd rfl (Or.inl rfl)) (pgs_cons (pg_name (i := 9) sc_show_store.nd rfl (Or.inl rfl)) pgs_nil))))) (fun _ _ _ _ _ => pts_nil) (fun _ _ _ _ _ => (pe_joined (PJ.cons (pe_fmt (pv 7)) (PJ.cons pe_str (PJ.cons (pe_fmt (pv 8)) (PJ.cons pe_str (PJ.cons (pe_fmt (pv 9)) PJ.nil)))))))))) (pss_cons (ps_set (i := 2) sc_show_store.nd rfl (Or.inl rfl) (pe_lst (pa_cons (pe_op op_scatR pe_str (pe_call G_numbers_text (hr.mono (by decide)) (by rfl) gm_numbers_text kp_numbers_text bd_numbers_text .nil pass0 (pa_cons (pv 3) pa_nil))) (pa_cons (pe_op op_scatR pe_str (pe_call G_numbers_text (hr.mono (by decide)) (by rfl) gm_numbers_text kp_numbers_text bd_numbers_text .nil pass0 (pa_cons (pv 4) pa_nil))) (pa_cons (pe_joined (PJ.cons pe_str (PJ.cons (pe_fmt (pv 5)) PJ.nil))) (pa_cons (pe_join pe_str (pv 1)) pa_nil)))))) (pss_one (ps_ret (pe_join pe_str (pv 2))))))))
abbrev s_written : Stmt := (top 31)
def f_written_b28 : (List Str) → (Str × Int × Int) → Option (List Str) := fun words_31 (name_32, at_33, to_34) => (((strM at_33)).bind fun x68 => ((strM to_34)).bind fun x70 => ((catM words_31 ([name_32, x68, x70] : (List Str)))).bind fun x72 => some x72)
def f_written : ((List Int) × (List Int) × Int × (List (Str × Int × Int))) → Option Str := fun store_here_1 => (letM store_here_1.2.2.2 fun boxes_here_8 => (letM ([("boxes" : Str)] : (List Str)) fun words_24 => (boxes_here_8.foldlM (f_written_b28) words_24).bind fun words_86 => (((lcC (fun room_95 => (((strM room_95)).bind fun x106 => some (some x106))) store_here_1.1)).bind fun x108 => ((catM ([("rooms" : Str)] : (List Str)) x108)).bind fun x110 => ((joinM (" " : Str) x110)).bind fun x112 => ((lcC (fun gap_114 => (((strM gap_114)).bind fun x125 => some (some x125))) store_here_1.2.1)).bind fun x127 => ((catM ([("gaps" : Str)] : (List Str)) x127)).bind fun x129 => ((joinM (" " : Str) x129)).bind fun x131 => letM ([x112, x131] : (List Str)) fun parts_137 => (((strM store_here_1.2.2.1)).bind fun x141 => ((scatM ("most " : Str) x141)).bind fun x143 => ((joinM (" " : Str) words_86)).bind fun x145 => ((catM parts_137 ([x143, x145] : (List Str)))).bind fun x147 => ((joinM ("; " : Str) x147)).bind fun x149 => some x149))))
abbrev A_written : ((List Int) × (List Int) × Int × (List (Str × Int × Int))) → List PyData := fun x => [(eT4 (eL eI) (eL eI) eI (eL (eT3 eS eI eI))) x]
abbrev N_written : List Str := ["_law_store_here", "_law_words", "_law_parts", "_law_rooms", "_law_gaps", "_law_most", "_law_boxes_here", "_law_name", "_law_at", "_law_to", "_law_room", "_law_gap"]
abbrev sp_written (K : PySem.W.Frag) : Sp := spP K A_written eS f_written
def t_written (K : PySem.W.Frag) : TS := (tSeq (tAsg (tVar 0) (gTup K 4 (gCons (gName 3) (gCons (gName 4) (gCons (gName 5) (gCons (gName 6) gNil)))))) (tSeq (tAsg (tLst (tCons (tC (.str "boxes")) tNil)) (gName 1)) (tSeq (tFor (iList K (tVar 6)) (gTup K 3 (gCons (gName 7) (gCons (gName 8) (gCons (gName 9) gNil)))) (tAsg (tOp (rCatS K) (tVar 1) (tLst (tCons (tVar 7) (tCons (tCB rStrI (tCons (tVar 8) tNil)) (tCons (tCB rStrI (tCons (tVar 9) tNil)) tNil))))) (gName 1))) (tSeq (tAsg (tLst (tCons (tM1 (rJoin K) (tC (.str " ")) (tOp (rCatS K) (tLst (tCons (tC (.str "rooms")) tNil)) (tLc (iList K (tVar 3)) (gName 10) tYes (tCB rStrI (tCons (tVar 10) tNil)) [10]))) (tCons (tM1 (rJoin K) (tC (.str " ")) (tOp (rCatS K) (tLst (tCons (tC (.str "gaps")) tNil)) (tLc (iList K (tVar 4)) (gName 11) tYes (tCB rStrI (tCons (tVar 11) tNil)) [11]))) tNil))) (gName 2)) (tRet (tM1 (rJoin K) (tC (.str "; ")) (tOp (rCatS K) (tVar 2) (tLst (tCons (tOp rScat (tC (.str "most ")) (tCB rStrI (tCons (tVar 5) tNil))) (tCons (tM1 (rJoin K) (tC (.str " ")) (tVar 1)) tNil))))))))))
theorem w_written {K : PySem.W.Frag} (vs : List V) (H : Hp) (Q : VK) (E : XK) (h : sp_written K vs H Q E) : t_written K { nx := fun _ H' => Q .non H', rt := Q } (start N_written vs) H := by
  obtain ⟨F0, cs, store_here_1, y, h, hS0, m, q⟩ := h
  obtain ⟨a0, _, rfl, ha0, h⟩ := Dts.hd h
  obtain rfl := Dts.no h
  unfold f_written at m
  try dsimp only at m
  unfold t_written
  refine go (σ' := [some a0, none, none, none, none, none, none, none, none, none, none, none]) rfl ?_
  refine s_asg (K := K) (d := (eT4 (eL eI) (eL eI) eI (eL (eT3 eS eI eI))) store_here_1) hS0 (d_var rfl ha0) (fun v6 F2 H3 g4 hS5 hv7 => ?_)
  obtain ⟨boxes_here_8, k9, m⟩ := lt m
  obtain ⟨p10, w12, w13, w14, w15, rfl, hT11, hw16, hw17, hw18, hw19⟩ := u4 hv7
  obtain rfl := Dt.toInt hw18
  rw [k9] at hw19
  refine tg (σ' := [some a0, none, none, some w12, some w13, some (.int store_here_1.2.2.1), some w15, none, none, none, none, none]) (fun Q hq => ⟨p10, [_, _, _, _], rfl, gr_T hS5.fr hT11, rfl, _, _, rfl, _, _, rfl, _, _, rfl, _, _, rfl, rfl, hq⟩) ?_
  obtain ⟨words_24, k25, m⟩ := lt m
  refine s_set (K := K) (d := (eL eS) words_24) (i := 1) (σ' := fun v26 => [some a0, some v26, none, some w12, some w13, some (.int store_here_1.2.2.1), some w15, none, none, none, none, none]) hS5 (d_is (d_lst (a_cons d_str a_nil) (Nat.le_of_ble_eq_true rfl)) (congrArg (eL eS) k25)) (fun _ => rfl) (fun v26 F20 H21 g22 hS23 hv27 => ?_)
  obtain ⟨words_86, k30, m⟩ := bnd m
  refine s_for (K := K) (xs := boxes_here_8) (en := (eT3 eS eI eI)) (body := (f_written_b28)) (s0 := words_24) (r := words_86) (fun (a : (List Str)) F σ c => ∃ (j1 : V) (j2 : Option V) (j7 : Option V) (j8 : Option V) (j9 : Option V) (j10 : Option V) (j11 : Option V), σ = [some a0, some j1, j2, some w12, some w13, some (.int store_here_1.2.2.1), some w15, j7, j8, j9, j10, j11] ∧ cs = c ∧ Dt K F j1 ((eL eS) a)) hS23 (i_list (en := (eT3 eS eI eI)) (d_var rfl (Dt.gr g22 hw19))) (fun _ _ => ⟨_, _, _, _, _, _, _, rfl, rfl, (Dt.gr ‹_› hv27)⟩) k30 ?_ ?_
  · rintro ⟨name_32, at_33, to_34⟩ words_31 b43 F35 F36 σ49 c50 H37 v42 N44 g38 ⟨v52, u53, u54, u55, u56, u57, u58, rfl, rfl, h59⟩ g39 hS40 hv41 m51 hN46
    obtain ⟨p60, w62, w63, w64, rfl, hT61, hw65, hw66, hw67⟩ := u3 hv41
    obtain rfl := Dt.toStr hw65
    obtain rfl := Dt.toInt hw66
    obtain rfl := Dt.toInt hw67
    refine tg (σ' := [some a0, some v52, u53, some w12, some w13, some (.int store_here_1.2.2.1), some w15, some (.str name_32), some (.int at_33), some (.int to_34), u57, u58]) (fun Q hq => ⟨p60, [_, _, _], rfl, gr_T hS40.fr hT61, rfl, _, _, rfl, _, _, rfl, _, _, rfl, rfl, hq⟩) ?_
    unfold f_written_b28 at m51
    try dsimp only at m51
    obtain ⟨x68, k69, m51⟩ := bnd m51
    obtain ⟨x70, k71, m51⟩ := bnd m51
    obtain ⟨x72, k73, m51⟩ := bnd m51
    refine s_set (K := K) (d := (eL eS) x72) (i := 1) (σ' := fun v78 => [some a0, some v78, u53, some w12, some w13, some (.int store_here_1.2.2.1), some w15, some (.str name_32), some (.int at_33), some (.int to_34), u57, u58]) hS40 (EvC.dd (c_cat (en := eS) (d_var rfl (Dt.gr g39 h59)) (d_lst (a_cons (d_var rfl (.str _)) (a_cons (d_strI (a_cons (d_var rfl (.int _)) a_nil) k69) (a_cons (d_strI (a_cons (d_var rfl (.int _)) a_nil) k71) a_nil))) (Nat.le_of_ble_eq_true rfl)) k73)) (fun _ => rfl) (fun v78 F74 H75 g76 hS77 hv79 => ?_)
    obtain rfl := sm m51
    exact hN46 _ _ _ _ g76 hS77 ⟨_, _, _, _, _, _, _, rfl, rfl, hv79⟩
  · rintro F80 σ85 c84 H81 g82 hS83 ⟨v87, u88, u89, u90, u91, u92, u93, rfl, rfl, h94⟩
    obtain ⟨x108, k109, m⟩ := bnd m
    obtain ⟨x110, k111, m⟩ := bnd m
    obtain ⟨x112, k113, m⟩ := bnd m
    obtain ⟨x127, k128, m⟩ := bnd m
    obtain ⟨x129, k130, m⟩ := bnd m
    obtain ⟨x131, k132, m⟩ := bnd m
    obtain ⟨parts_137, k138, m⟩ := lt m
    refine s_set (K := K) (d := (eL eS) parts_137) (i := 2) (σ' := fun v139 => [some a0, some v87, some v139, some w12, some w13, some (.int store_here_1.2.2.1), some w15, u89, u90, u91, u92, u93]) hS83 (d_is (d_lst (a_cons (d_join d_str (EvC.dd (c_cat (en := eS) (d_lst (a_cons d_str a_nil) (Nat.le_of_ble_eq_true rfl)) (EvC.dd (c_lcC (K := K) (f := (fun room_95 => (((strM room_95)).bind fun x106 => some (some x106)))) (em := eS) (i_list (en := eI) (d_var rfl (Dt.gr (Gr.tr g22 g82) hw16))) k109 (fun room_95 o102 v103 F96 p97 us98 g99 hv100 ho101 => by obtain rfl := Dt.toInt hv100; obtain ⟨x106, k107, ho101⟩ := bnd ho101; obtain rfl := sm ho101; exact ⟨[some a0, some v87, u88, some w12, some w13, some (.int store_here_1.2.2.1), some w15, u89, u90, u91, some (.int room_95), u93], fun H105 Q hS104 hq => (fun Q hq => hq) Q hq, rfl, t_yes, fun y hy => by obtain rfl := sm hy; exact (d_strI (a_cons (d_var rfl (.int _)) a_nil) k107)⟩))) k111)) k113) (a_cons (d_join d_str (EvC.dd (c_cat (en := eS) (d_lst (a_cons d_str a_nil) (Nat.le_of_ble_eq_true rfl)) (EvC.dd (c_lcC (K := K) (f := (fun gap_114 => (((strM gap_114)).bind fun x125 => some (some x125)))) (em := eS) (i_list (en := eI) (d_var rfl (Dt.gr (Gr.tr g22 g82) hw17))) k128 (fun gap_114 o121 v122 F115 p116 us117 g118 hv119 ho120 => by obtain rfl := Dt.toInt hv119; obtain ⟨x125, k126, ho120⟩ := bnd ho120; obtain rfl := sm ho120; exact ⟨[some a0, some v87, u88, some w12, some w13, some (.int store_here_1.2.2.1), some w15, u89, u90, u91, u92, some (.int gap_114)], fun H124 Q hS123 hq => (fun Q hq => hq) Q hq, rfl, t_yes, fun y hy => by obtain rfl := sm hy; exact (d_strI (a_cons (d_var rfl (.int _)) a_nil) k126)⟩))) k130)) k132) a_nil)) (Nat.le_of_ble_eq_true rfl)) (congrArg (eL eS) k138)) (fun _ => rfl) (fun v139 F133 H134 g135 hS136 hv140 => ?_)
    obtain ⟨x141, k142, m⟩ := bnd m
    obtain ⟨x143, k144, m⟩ := bnd m
    obtain ⟨x145, k146, m⟩ := bnd m
    obtain ⟨x147, k148, m⟩ := bnd m
    obtain ⟨x149, k150, m⟩ := bnd m
    refine s_ret (K := K) (d := eS x149) hS136 (d_join d_str (EvC.dd (c_cat (en := eS) (d_var rfl hv140) (d_lst (a_cons (d_scat d_str (d_strI (a_cons (d_var rfl (.int _)) a_nil) k142) k144) (a_cons (d_join d_str (d_var rfl (Dt.gr g135 h94)) k146) a_nil)) (Nat.le_of_ble_eq_true rfl)) k148)) k150) (fun v155 F151 H152 g153 hS154 hv156 => ?_)
    obtain rfl := sm m
    exact q _ _ _ (Gr.tr g4 (Gr.tr g22 (Gr.tr g82 (Gr.tr g135 g153)))) hS154 hv156
theorem sc_written : FnScope N_written ["_law_store_here"] (defScope s_written) := ⟨rfl, rfl, rfl, by decide +kernel, rfl, by decide +kernel, by decide +kernel⟩
theorem ok_written {P : Program} {w : World} {K : PySem.W.Frag} {mg : Str → Option Value} {base : Heap} (hF : Df K mg "_law_written" s_written) (m_str : mg "str" = none) : Ok P w K mg base 1 "_law_written" ["_law_store_here"] (sp_written K) := by
  obtain ⟨⟨fd, F⟩, gm⟩ := hF
  refine ⟨⟨fd, F.ok sc_written (fun vs H Q E h => ?_) (fun cdv A outer s H vs Q E hr h => ⟨t_written K, PSs.nox ?_, w_written vs H Q E h⟩), F.bindsN fun _ _ _ _ _ _ us hl => match us, hl with | [_], _ => rfl, lk_of F⟩, F.kp, gm⟩
  · obtain ⟨F0, cs, x, y, h, _⟩ := h; exact Dts.len h
  · exact (pss_cons (ps_asg (pv 0) (pg_tup rfl (pgs_cons (pg_name (i := 3) sc_written.nd rfl (Or.inl rfl)) (pgs_cons (pg_name (i := 4) sc_written.nd rfl (Or.inl rfl)) (pgs_cons (pg_name (i := 5) sc_written.nd rfl (Or.inl rfl)) (pgs_cons (pg_name (i := 6) sc_written.nd rfl (Or.inl rfl)) pgs_nil)))))) (pss_cons (ps_set (i := 1) sc_written.nd rfl (Or.inl rfl) (pe_lst (pa_cons pe_str pa_nil))) (pss_cons (ps_for PassesOwn.never rfl (pi_list (pv 6)) (pg_tup rfl (pgs_cons (pg_name (i := 7) sc_written.nd rfl (Or.inl rfl)) (pgs_cons (pg_name (i := 8) sc_written.nd rfl (Or.inl rfl)) (pgs_cons (pg_name (i := 9) sc_written.nd rfl (Or.inl rfl)) pgs_nil)))) (pss_one (ps_set (i := 1) sc_written.nd rfl (Or.inl rfl) (pe_op op_catS (pv 1) (pe_lst (pa_cons (pv 7) (pa_cons (pe_callTy cr_str (by rfl) m_str (by decide +kernel) (pa_cons (pv 8) pa_nil)) (pa_cons (pe_callTy cr_str (by rfl) m_str (by decide +kernel) (pa_cons (pv 9) pa_nil)) pa_nil)))))))) (pss_cons (ps_set (i := 2) sc_written.nd rfl (Or.inl rfl) (pe_lst (pa_cons (pe_join pe_str (pe_op op_catS (pe_lst (pa_cons pe_str pa_nil)) (pe_lc (own := [("_law_room", 10)]) (g := (gName 10)) (tt := tYes) (te := (tCB rStrI (tCons (tVar 10) tNil))) (by rfl) sc_written.nd (pi_list (pv 3)) (blkOk_by (own := [("_law_room", 10)]) (N := N_written) (sc := defScope s_written) (by decide +kernel)) (fun _ _ _ _ _ => (pg_name (i := 10) sc_written.nd rfl (Or.inl rfl))) (fun _ _ _ _ _ => pts_nil) (fun _ _ _ _ _ => (pe_callTy cr_str (by rfl) m_str (by decide +kernel) (pa_cons (pv 10) pa_nil)))))) (pa_cons (pe_join pe_str (pe_op op_catS (pe_lst (pa_cons pe_str pa_nil)) (pe_lc (own := [("_law_gap", 11)]) (g := (gName 11)) (tt := tYes) (te := (tCB rStrI (tCons (tVar 11) tNil))) (by rfl) sc_written.nd (pi_list (pv 4)) (blkOk_by (own := [("_law_gap", 11)]) (N := N_written) (sc := defScope s_written) (by decide +kernel)) (fun _ _ _ _ _ => (pg_name (i := 11) sc_written.nd rfl (Or.inl rfl))) (fun _ _ _ _ _ => pts_nil) (fun _ _ _ _ _ => (pe_callTy cr_str (by rfl) m_str (by decide +kernel) (pa_cons (pv 11) pa_nil)))))) pa_nil)))) (pss_one (ps_ret (pe_join pe_str (pe_op op_catS (pv 2) (pe_lst (pa_cons (pe_op op_scatR pe_str (pe_callTy cr_str (by rfl) m_str (by decide +kernel) (pa_cons (pv 5) pa_nil))) (pa_cons (pe_join pe_str (pv 1)) pa_nil)))))))))))
abbrev s_law : Stmt := (top 32)
def f_law_b36 (rooms_10 : (List Int)) (most_14 : Int) : Unit → ((List (Str × Int × Int)) × (List Int)) → Option (Fl Unit Bool) := fun _ (some_39, lengths_40) => (letM (rooms_10, lengths_40, most_14, some_39) fun store_here_72 => (((f_show_store store_here_72)).bind fun x76 => (((if (!true) = true then some true else (((f_written store_here_72)).bind fun x82 => ((if (!decide (x76 = x82)) = true then some true else (((eqTM (eT4 (eL eI) (eL eI) eI (eL (eT3 eS eI eI))) store_here_72 (rooms_10, lengths_40, most_14, some_39))).bind fun x84 => some (!x84)))).bind fun x86 => some x86))).bind fun x88 => (if x88 = true then some (Fl.rt false) else some (Fl.nx ())))))
def f_law : (List Int) → Option Bool := fun script_1 => (((f_store script_1)).bind fun x2 => letM x2.1 fun rooms_10 => letM x2.2.1 fun gaps_12 => letM x2.2.2.1 fun most_14 => letM x2.2.2.2 fun boxes_here_16 => (((catM ([(1000000000 : Int)] : (List Int)) (cutL gaps_12 (some (1 : Int)) none))).bind fun x28 => (forF (f_law_b36 rooms_10 most_14) ([(boxes_here_16, gaps_12), ((boxes_here_16).reverse, gaps_12), (([] : (List (Str × Int × Int))), gaps_12), (boxes_here_16, x28), (boxes_here_16, (x28).reverse)] : (List ((List (Str × Int × Int)) × (List Int)))) ()).bind fun r37 => match r37 with | .nx _ => (((f_show_store (rooms_10, gaps_12, most_14, boxes_here_16))).bind fun x115 => ((f_written (rooms_10, gaps_12, most_14, boxes_here_16))).bind fun x117 => some (decide (x115 = x117))) | .br _ => none | .rt z125 => some z125))
abbrev A_law : (List Int) → List PyData := fun x => [(eL eI) x]
abbrev N_law : List Str := ["_law_script", "_law_far", "_law_rooms", "_law_gaps", "_law_most", "_law_boxes_here", "_law_some", "_law_lengths", "_law_store_here", "_law_found"]
abbrev sp_law (K : PySem.W.Frag) : Sp := spP K A_law eB f_law
def t_law (K : PySem.W.Frag) : TS := (tSeq (tAsg (tCall (sp_store K) [] E0 (tCons (tVar 0) tNil)) (gTup K 4 (gCons (gName 2) (gCons (gName 3) (gCons (gName 4) (gCons (gName 5) gNil)))))) (tSeq (tAsg (tOp (rCatS K) (tLst (tCons (tOp (rI CPow fun i j => .int (i ^ j.toNat)) (tC (.int 10)) (tC (.int 9))) tNil)) (tSl (rSlL K) (tVar 3) (tPart (tC (.int 1))) tNoPart)) (gName 1)) (tSeq (tFor (iList K (tLst (tCons (tTup (tCons (tVar 5) (tCons (tVar 3) tNil))) (tCons (tTup (tCons (tRevL K (tVar 5)) (tCons (tVar 3) tNil))) (tCons (tTup (tCons (tLst tNil) (tCons (tVar 3) tNil))) (tCons (tTup (tCons (tVar 5) (tCons (tVar 1) tNil))) (tCons (tTup (tCons (tVar 5) (tCons (tRevL K (tVar 1)) tNil))) tNil))))))) (gTup K 2 (gCons (gName 6) (gCons (gName 7) gNil))) (tSeq (tAsg (tTup (tCons (tCB (rListS K) (tCons (tVar 2) tNil)) (tCons (tCB (rListS K) (tCons (tVar 7) tNil)) (tCons (tVar 4) (tCons (tCB (rListS K) (tCons (tVar 6) tNil)) tNil))))) (gName 8)) (tSeq (tAsg (tCall (sp_show_store K) [] E0 (tCons (tVar 8) tNil)) (gName 9)) (tIfS (tOr (tNot (tB (tCB (rIsi K) (tCons (tVar 9) (tCons (tC (.ty "str")) tNil))))) (tOr (tTest (tOp rNe (tVar 9) (tCall (sp_written K) [] E0 (tCons (tVar 8) tNil)))) (tTest (tOp (rNeD K) (tVar 8) (tTup (tCons (tVar 2) (tCons (tVar 7) (tCons (tVar 4) (tCons (tVar 6) tNil))))))))) (tRet (tC (.bl false))) tNext)))) (tRet (tOp rEq (tCall (sp_show_store K) [] E0 (tCons (tTup (tCons (tVar 2) (tCons (tVar 3) (tCons (tVar 4) (tCons (tVar 5) tNil))))) tNil)) (tCall (sp_written K) [] E0 (tCons (tTup (tCons (tVar 2) (tCons (tVar 3) (tCons (tVar 4) (tCons (tVar 5) tNil))))) tNil)))))))
theorem w_law {K : PySem.W.Frag} (vs : List V) (H : Hp) (Q : VK) (E : XK) (h : sp_law K vs H Q E) : t_law K { nx := fun _ H' => Q .non H', rt := Q } (start N_law vs) H := by
  obtain ⟨F0, cs, script_1, y, h, hS0, m, q⟩ := h
  obtain ⟨a0, _, rfl, ha0, h⟩ := Dts.hd h
  obtain rfl := Dts.no h
  unfold f_law at m
  try dsimp only at m
  unfold t_law
  refine go (σ' := [some a0, none, none, none, none, none, none, none, none, none]) rfl ?_
  obtain ⟨x2, k3, m⟩ := bnd m
  refine s_asg (K := K) (d := (eT4 (eL eI) (eL eI) eI (eL (eT3 eS eI eI))) x2) hS0 (d_call (A := A_store) (B := (eT4 (eL eI) (eL eI) eI (eL (eT3 eS eI eI)))) (x := script_1) (a_cons (d_var rfl ha0) a_nil) k3) (fun v8 F4 H5 g6 hS7 hv9 => ?_)
  obtain ⟨rooms_10, k11, m⟩ := lt m
  obtain ⟨gaps_12, k13, m⟩ := lt m
  obtain ⟨most_14, k15, m⟩ := lt m
  obtain ⟨boxes_here_16, k17, m⟩ := lt m
  obtain ⟨p18, w20, w21, w22, w23, rfl, hT19, hw24, hw25, hw26, hw27⟩ := u4 hv9
  rw [k11] at hw24
  rw [k13] at hw25
  rw [k15] at hw26
  obtain rfl := Dt.toInt hw26
  rw [k17] at hw27
  refine tg (σ' := [some a0, none, some w20, some w21, some (.int most_14), some w23, none, none, none, none]) (fun Q hq => ⟨p18, [_, _, _, _], rfl, gr_T hS7.fr hT19, rfl, _, _, rfl, _, _, rfl, _, _, rfl, _, _, rfl, rfl, hq⟩) ?_
  obtain ⟨x28, k29, m⟩ := bnd m
  refine s_set (K := K) (d := (eL eI) x28) (i := 1) (σ' := fun v34 => [some a0, some v34, some w20, some w21, some (.int most_14), some w23, none, none, none, none]) hS7 (EvC.dd (c_cat (en := eI) (d_lst (a_cons (d_is (e := PyData.int 1000000000) (d_powC d_int d_int ⟨by decide, by decide, by decide⟩) (congrArg PyData.int (by decide))) a_nil) (Nat.le_of_ble_eq_true rfl)) (d_sl (d_var rfl hw25) (o_some (K := K) d_int) o_none) k29)) (fun _ => rfl) (fun v34 F30 H31 g32 hS33 hv35 => ?_)
  obtain ⟨r37, k38, m⟩ := bnd m
  refine s_forF (K := K) (xs := ([(boxes_here_16, gaps_12), ((boxes_here_16).reverse, gaps_12), (([] : (List (Str × Int × Int))), gaps_12), (boxes_here_16, x28), (boxes_here_16, (x28).reverse)] : (List ((List (Str × Int × Int)) × (List Int))))) (en := (eT2 (eL (eT3 eS eI eI)) (eL eI))) (body := (f_law_b36 rooms_10 most_14)) (s0 := ()) (r := r37) (fun (a : Unit) F σ c => ∃ (j6 : Option V) (j7 : Option V) (j8 : Option V) (j9 : Option V), σ = [some a0, some v34, some w20, some w21, some (.int most_14), some w23, j6, j7, j8, j9] ∧ cs = c) hS33 (i_list (en := (eT2 (eL (eT3 eS eI eI)) (eL eI))) (d_lst (a_cons (d_tup (a_cons (d_var rfl (Dt.gr g32 hw27)) (a_cons (d_var rfl (Dt.gr g32 hw25)) a_nil)) (Nat.le_of_ble_eq_true rfl)) (a_cons (d_tup (a_cons (EvC.dd (c_rev (d_var rfl (Dt.gr g32 hw27)))) (a_cons (d_var rfl (Dt.gr g32 hw25)) a_nil)) (Nat.le_of_ble_eq_true rfl)) (a_cons (d_tup (a_cons (d_lst a_nil (Nat.le_of_ble_eq_true rfl)) (a_cons (d_var rfl (Dt.gr g32 hw25)) a_nil)) (Nat.le_of_ble_eq_true rfl)) (a_cons (d_tup (a_cons (d_var rfl (Dt.gr g32 hw27)) (a_cons (d_var rfl hv35) a_nil)) (Nat.le_of_ble_eq_true rfl)) (a_cons (d_tup (a_cons (d_var rfl (Dt.gr g32 hw27)) (a_cons (EvC.dd (c_rev (d_var rfl hv35))) a_nil)) (Nat.le_of_ble_eq_true rfl)) a_nil))))) (Nat.le_of_ble_eq_true rfl))) (fun _ _ => ⟨_, _, _, _, rfl, rfl⟩) k38 ?_ ?_
  · rintro ⟨⟩ F105 σ110 c109 H106 hz126 g107 hS108 ⟨u111, u112, u113, u114, rfl, rfl⟩
    rcases hz126.symm with rfl | rfl
    · cases (show (none : Option _) = some _ from m)
    try dsimp only at m
    obtain ⟨x115, k116, m⟩ := bnd m
    obtain ⟨x117, k118, m⟩ := bnd m
    refine s_ret (K := K) (d := eB (decide (x115 = x117))) hS108 (d_eqS (d_call (A := A_show_store) (B := eS) (x := (rooms_10, gaps_12, most_14, boxes_here_16)) (a_cons (d_tup (a_cons (d_var rfl (Dt.gr (Gr.tr g32 g107) hw24)) (a_cons (d_var rfl (Dt.gr (Gr.tr g32 g107) hw25)) (a_cons (d_var rfl (.int _)) (a_cons (d_var rfl (Dt.gr (Gr.tr g32 g107) hw27)) a_nil)))) (Nat.le_of_ble_eq_true rfl)) a_nil) k116) (d_call (A := A_written) (B := eS) (x := (rooms_10, gaps_12, most_14, boxes_here_16)) (a_cons (d_tup (a_cons (d_var rfl (Dt.gr (Gr.tr g32 g107) hw24)) (a_cons (d_var rfl (Dt.gr (Gr.tr g32 g107) hw25)) (a_cons (d_var rfl (.int _)) (a_cons (d_var rfl (Dt.gr (Gr.tr g32 g107) hw27)) a_nil)))) (Nat.le_of_ble_eq_true rfl)) a_nil) k118)) (fun v123 F119 H120 g121 hS122 hv124 => ?_)
    obtain rfl := sm m
    exact q _ _ _ (Gr.tr g6 (Gr.tr g32 (Gr.tr g107 g121))) hS122 hv124
  · rintro ⟨some_39, lengths_40⟩ ⟨⟩ b49 F41 F42 σ55 c56 H43 v48 N50 B51 g44 ⟨u58, u59, u60, u61, rfl, rfl⟩ g45 hS46 hv47 m57 hN52 hB53 hR54
    obtain ⟨p62, w64, w65, rfl, hT63, hw66, hw67⟩ := u2 hv47
    refine tg (σ' := [some a0, some v34, some w20, some w21, some (.int most_14), some w23, some w64, some w65, u60, u61]) (fun Q hq => ⟨p62, [_, _], rfl, gr_T hS46.fr hT63, rfl, _, _, rfl, _, _, rfl, rfl, hq⟩) ?_
    unfold f_law_b36 at m57
    try dsimp only at m57
    obtain ⟨store_here_72, k73, m57⟩ := lt m57
    refine s_set (K := K) (d := (eT4 (eL eI) (eL eI) eI (eL (eT3 eS eI eI))) store_here_72) (i := 8) (σ' := fun v74 => [some a0, some v34, some w20, some w21, some (.int most_14), some w23, some w64, some w65, some v74, u61]) hS46 (d_is (d_tup (a_cons (d_listL (a_cons (d_var rfl (Dt.gr (Gr.tr g32 (Gr.tr g44 g45)) hw24)) a_nil)) (a_cons (d_listL (a_cons (d_var rfl hw67) a_nil)) (a_cons (d_var rfl (.int _)) (a_cons (d_listL (a_cons (d_var rfl hw66) a_nil)) a_nil)))) (Nat.le_of_ble_eq_true rfl)) (congrArg (eT4 (eL eI) (eL eI) eI (eL (eT3 eS eI eI))) k73)) (fun _ => rfl) (fun v74 F68 H69 g70 hS71 hv75 => ?_)
    obtain ⟨x76, k77, m57⟩ := bnd m57
    refine s_setV (K := K) (d := eS x76) (i := 9) (σ' := [some a0, some v34, some w20, some w21, some (.int most_14), some w23, some w64, some w65, some v74, some (.str x76)]) (fun _ _ h => Dt.toStr h) hS71 (d_call (A := A_show_store) (B := eS) (x := store_here_72) (a_cons (d_var rfl hv75) a_nil) k77) rfl (fun F78 H79 g80 hS81 => ?_)
    obtain ⟨x88, k89, m57⟩ := bnd m57
    refine s_if (b := x88) hS81 (t_orM (r := x88) (t_not (t_B (K := K) (d_is (e := PyData.bool true) (d_isiD (c := "str") (by decide) (d_var rfl (.str _))) (congrArg PyData.bool (by rfl))))) (fun hc => by rw [if_neg (bf hc)] at k89; obtain ⟨x82, k83, k89⟩ := bnd k89; obtain ⟨x86, k87, k89⟩ := bnd k89; obtain rfl := sm k89; exact (t_orM (r := x86) (t_test (K := K) (d_neS (d_var rfl (.str _)) (d_call (A := A_written) (B := eS) (x := store_here_72) (a_cons (d_var rfl (Dt.gr g80 hv75)) a_nil) k83))) (fun hc => by rw [if_neg (bf hc)] at k87; obtain ⟨x84, k85, k87⟩ := bnd k87; obtain rfl := sm k87; exact (t_test (K := K) (d_neTM (EqE.t4 (EqE.l eqE_I) (EqE.l eqE_I) eqE_I (EqE.l (EqE.t3 eqE_S eqE_I eqE_I))) (d_var rfl (Dt.gr g80 hv75)) (d_tup (a_cons (d_var rfl (Dt.gr (Gr.tr g32 (Gr.tr g44 (Gr.tr g45 (Gr.tr g70 g80)))) hw24)) (a_cons (d_var rfl (Dt.gr (Gr.tr g70 g80) hw67)) (a_cons (d_var rfl (.int _)) (a_cons (d_var rfl (Dt.gr (Gr.tr g70 g80) hw66)) a_nil)))) (Nat.le_of_ble_eq_true rfl)) k85))) (fun hc => by rw [if_pos hc] at k87; exact (sm k87).symm))) (fun hc => by rw [if_pos hc] at k89; exact (sm k89).symm)) (fun hc F90 H91 g92 hS93 => ?_) (fun hc F101 H102 g103 hS104 => ?_)
    · rw [if_pos hc] at m57
      refine s_ret (K := K) (d := eB false) hS93 d_bl (fun v98 F94 H95 g96 hS97 hv99 => ?_)
      obtain rfl := sm m57
      have hr100 := hR54 _ rfl
      subst hr100
      obtain rfl := sm m
      exact q _ _ _ (Gr.tr g6 (Gr.tr g32 (Gr.tr g44 (Gr.tr g45 (Gr.tr g70 (Gr.tr g80 (Gr.tr g92 g96))))))) hS97 hv99
    · rw [if_neg (bf hc)] at m57
      refine nxt ?_
      obtain rfl := sm m57
      exact hN52 _ _ _ _ _ rfl (Gr.tr g70 (Gr.tr g80 g103)) hS104 ⟨_, _, _, _, rfl, rfl⟩
theorem sc_law : FnScope N_law ["_law_script"] (defScope s_law) := ⟨rfl, rfl, rfl, by decide +kernel, rfl, by decide +kernel, by decide +kernel⟩
theorem ok_law {P : Program} {w : World} {K : PySem.W.Frag} {mg : Str → Option Value} {base : Heap} (hF : Df K mg "law" s_law) (m_isinstance : mg "isinstance" = none) (m_list : mg "list" = none) (m_str : mg "str" = none) (o_show_store : Ok P w K mg base 6 "show_store" ["store"] (sp_show_store K)) (o_written : Ok P w K mg base 1 "_law_written" ["_law_store_here"] (sp_written K)) (o_store : Ok P w K mg base 4 "_law_store" ["_law_script"] (sp_store K)) : Ok P w K mg base 7 "law" ["_law_script"] (sp_law K) := by
  obtain ⟨⟨_, G_show_store, bd_show_store, _⟩, kp_show_store, gm_show_store⟩ := o_show_store
  obtain ⟨⟨_, G_written, bd_written, _⟩, kp_written, gm_written⟩ := o_written
  obtain ⟨⟨_, G_store, bd_store, _⟩, kp_store, gm_store⟩ := o_store
  obtain ⟨⟨fd, F⟩, gm⟩ := hF
  refine ⟨⟨fd, F.ok sc_law (fun vs H Q E h => ?_) (fun cdv A outer s H vs Q E hr h => ⟨t_law K, PSs.nox ?_, w_law vs H Q E h⟩), F.bindsN fun _ _ _ _ _ _ us hl => match us, hl with | [_], _ => rfl, lk_of F⟩, F.kp, gm⟩
  · obtain ⟨F0, cs, x, y, h, _⟩ := h; exact Dts.len h
  · exact (pss_cons (ps_asg (pe_call G_store (hr.mono (by decide)) (by rfl) gm_store kp_store bd_store .nil pass0 (pa_cons (pv 0) pa_nil)) (pg_tup rfl (pgs_cons (pg_name (i := 2) sc_law.nd rfl (Or.inl rfl)) (pgs_cons (pg_name (i := 3) sc_law.nd rfl (Or.inl rfl)) (pgs_cons (pg_name (i := 4) sc_law.nd rfl (Or.inl rfl)) (pgs_cons (pg_name (i := 5) sc_law.nd rfl (Or.inl rfl)) pgs_nil)))))) (pss_cons (ps_set (i := 1) sc_law.nd rfl (Or.inl rfl) (pe_op op_catS (pe_lst (pa_cons (pe_op op_pow pe_int pe_int) pa_nil)) (pe_slice sl_list (pv 3) (po_some pe_int) po_none))) (pss_cons (ps_for PassesOwn.never rfl (pi_list (pe_lst (pa_cons (pe_tup (pa_cons (pv 5) (pa_cons (pv 3) pa_nil))) (pa_cons (pe_tup (pa_cons (pe_revL (pv 5)) (pa_cons (pv 3) pa_nil))) (pa_cons (pe_tup (pa_cons (pe_lst pa_nil) (pa_cons (pv 3) pa_nil))) (pa_cons (pe_tup (pa_cons (pv 5) (pa_cons (pv 1) pa_nil))) (pa_cons (pe_tup (pa_cons (pv 5) (pa_cons (pe_revL (pv 1)) pa_nil))) pa_nil))))))) (pg_tup rfl (pgs_cons (pg_name (i := 6) sc_law.nd rfl (Or.inl rfl)) (pgs_cons (pg_name (i := 7) sc_law.nd rfl (Or.inl rfl)) pgs_nil))) (pss_cons (ps_set (i := 8) sc_law.nd rfl (Or.inl rfl) (pe_tup (pa_cons (pe_callTy cr_list (by rfl) m_list (by decide +kernel) (pa_cons (pv 2) pa_nil)) (pa_cons (pe_callTy cr_list (by rfl) m_list (by decide +kernel) (pa_cons (pv 7) pa_nil)) (pa_cons (pv 4) (pa_cons (pe_callTy cr_list (by rfl) m_list (by decide +kernel) (pa_cons (pv 6) pa_nil)) pa_nil)))))) (pss_cons (ps_set (i := 9) sc_law.nd rfl (Or.inl rfl) (pe_call G_show_store (hr.mono (by decide)) (by rfl) gm_show_store kp_show_store bd_show_store .nil pass0 (pa_cons (pv 8) pa_nil))) (pss_one (ps_if (PW.pt (pw_or (pt_not (pt_val (pe_callB call_isi (by rfl) m_isinstance (by decide +kernel) (pa_cons (pv 9) (pa_cons (pe_bltn (v := .ty "str") (by rfl) m_str (by decide +kernel) rfl) pa_nil))))) (pw_or (pt_cmpR op_ne (pv 9) (pe_call G_written (hr.mono (by decide)) (by rfl) gm_written kp_written bd_written .nil pass0 (pa_cons (pv 8) pa_nil)) (nomark _)) (pw_or1 (pt_cmpR (op_neD hr.units) (pv 8) (pe_tup (pa_cons (pv 2) (pa_cons (pv 7) (pa_cons (pv 4) (pa_cons (pv 6) pa_nil))))) (nomark _)))))) (pss_one (ps_ret pe_bl)) pss_nil))))) (pss_one (ps_ret (pe_cmpR op_eq (pe_call G_show_store (hr.mono (by decide)) (by rfl) gm_show_store kp_show_store bd_show_store .nil pass0 (pa_cons (pe_tup (pa_cons (pv 2) (pa_cons (pv 3) (pa_cons (pv 4) (pa_cons (pv 5) pa_nil))))) pa_nil)) (pe_call G_written (hr.mono (by decide)) (by rfl) gm_written kp_written bd_written .nil pass0 (pa_cons (pe_tup (pa_cons (pv 2) (pa_cons (pv 3) (pa_cons (pv 4) (pa_cons (pv 5) pa_nil))))) pa_nil)) (nomark _)))))))
end Bw


namespace Bw
open PySem L2
theorem letM_eq {α β : Type} (x : α) (f : α → β) : letM x f = f x := Eq.trans rfl rfl
/-- step over a bind by the answer's equation (no unfolding left to the kernel) -/
theorem bo {α β : Type} {a : Option α} {x : α} (h : a = some x) (f : α → Option β) : a.bind f = f x := by subst h; rfl
/-! plain facts about what may fail -/
theorem atI_nn {α : Type} (xs : List α) (i : Nat) (h : i < xs.length) : atI xs (i : Int) = some xs[i] := by
  unfold atI ixN
  have h0 : (0 : Int) ≤ (i : Int) := by omega
  have h1 : (i : Int) < (xs.length : Int) := by omega
  rw [if_pos h0, if_pos h1]
  show xs[(i : Int).toNat]? = _
  rw [Int.toNat_natCast]
  exact List.getElem?_eq_getElem h
theorem atI_int {α : Type} (xs : List α) (i : Int) (h0 : 0 ≤ i) (h : i < xs.length) : ∃ x, atI xs i = some x ∧ xs[i.toNat]? = some x := by
  obtain ⟨n, rfl⟩ : ∃ n : Nat, i = n := ⟨i.toNat, by omega⟩
  have hn : n < xs.length := by omega
  refine ⟨xs[n], atI_nn xs n hn, ?_⟩
  rw [Int.toNat_natCast]
  exact List.getElem?_eq_getElem hn
theorem atI_mem {α : Type} {xs : List α} {i : Int} {x : α} (h : atI xs i = some x) : x ∈ xs := by
  unfold atI at h
  cases e : ixN xs.length i with
  | none => rw [e] at h; cases h
  | some j => rw [e] at h; exact List.mem_of_getElem? h
theorem appM_ok {α : Type} {xs : List α} {x : α} (h : xs.length < 100000) : appM xs x = some (xs ++ [x]) := by unfold appM; rw [if_pos h]
theorem catM_ok {α : Type} {xs ys : List α} (h : xs.length + ys.length ≤ 100000) : catM xs ys = some (xs ++ ys) := by unfold catM; rw [if_pos h]
theorem flat_one {α : Type} (x : α) : ∀ n : Nat, (List.replicate n [x]).flatten = List.replicate n x
  | 0 => rfl
  | n + 1 => by rw [List.replicate_succ, List.flatten_cons, flat_one x n]; rfl
theorem repM_one {α : Type} {x : α} {k : Int} (h0 : -(2 ^ 63) ≤ k) (h : k ≤ 100000) : repM [x] k = some (List.replicate k.toNat x) := by
  unfold repM
  rw [if_pos ⟨h0, by omega, by simp only [List.length_singleton]; omega⟩, flat_one]
theorem mulM_ok {a b : Int} (h1 : -(2 ^ 64) < a) (h2 : a < 2 ^ 64) : mulM a b = some (a * b) := by unfold mulM; rw [if_pos (.inl ⟨h1, h2⟩)]
theorem modM_ok {a b : Int} (h : 0 < b) : modM a b = some (a % b) := by unfold modM; rw [if_pos h]
theorem fdivM_ok {a b : Int} (h : 0 < b) (h2 : b < 1073741824) : fdivM a b = some (a / b) := by unfold fdivM; rw [if_pos ⟨h, h2⟩]
theorem rngM_ok {a b : Int} (h1 : -100000 ≤ a) (h2 : a ≤ 100000) (h3 : -100000 ≤ b) (h4 : b ≤ 100000) : rngM a b = some (rngL a b) := by unfold rngM; rw [if_pos ⟨by omega, by omega, by omega, by omega⟩]
theorem mapC_ok {α β : Type} {f : α → β} {xs : List α} (h : xs.length ≤ 100000) : mapC f xs = some (xs.map f) := by unfold mapC; rw [if_pos h]
theorem filC_ok {α β : Type} {p : α → Bool} {f : α → β} {xs : List α} (h : xs.length ≤ 100000) : filC p f xs = some ((xs.filter p).map f) := by unfold filC; rw [if_pos h]
theorem lcC_ok {α β : Type} {f : α → Option (Option β)} {xs : List α} (h : xs.length ≤ 100000) : lcC f xs = lcM f xs := by unfold lcC; rw [if_pos h]
theorem lcM_all {α β : Type} {f : α → Option (Option β)} {g : α → β} : ∀ {xs : List α}, (∀ x ∈ xs, f x = some (some (g x))) → lcM f xs = some (xs.map g)
  | [], _ => rfl
  | x :: xs, h => by
    show (f x).bind _ = _
    rw [h x List.mem_cons_self, lcM_all fun y hy => h y (List.mem_cons_of_mem _ hy)]
    rfl
theorem lcM_fil {α β : Type} {f : α → Option (Option β)} {p : α → Bool} {g : α → β} : ∀ {xs : List α}, (∀ x ∈ xs, f x = some (if p x = true then some (g x) else none)) → lcM f xs = some ((xs.filter p).map g)
  | [], _ => rfl
  | x :: xs, h => by
    show (f x).bind _ = _
    rw [h x List.mem_cons_self, lcM_fil fun y hy => h y (List.mem_cons_of_mem _ hy), List.filter_cons]
    cases p x <;> rfl
/-- a loop whose every turn goes on keeps what it keeps -/
theorem foldlM_inv {α S : Type} {body : S → α → Option S} (J : Nat → S → Prop) : ∀ (xs : List α) (i : Nat) (s : S), J i s → (∀ (k : Nat) (x : α) (s : S), xs[k]? = some x → J (i + k) s → ∃ t, body s x = some t ∧ J (i + k + 1) t) → ∃ r, xs.foldlM body s = some r ∧ J (i + xs.length) r
  | [], i, s, h, _ => ⟨s, rfl, h⟩
  | x :: xs, i, s, h, hb => by
    obtain ⟨t, h1, h2⟩ := hb 0 x s rfl h
    obtain ⟨r, h3, h4⟩ := foldlM_inv J xs (i + 1) t h2 fun k y u hy hu => by
      have e : i + 1 + k = i + (k + 1) := by omega
      rw [e] at hu ⊢
      exact hb (k + 1) y u (by simpa using hy) hu
    refine ⟨r, ?_, ?_⟩
    · rw [List.foldlM_cons, h1]; exact h3
    · have e : i + (x :: xs).length = i + 1 + xs.length := by rw [List.length_cons]; omega
      rw [e]; exact h4
theorem forF_nx {α S R : Type} {body : S → α → Option (Fl S R)} (J : S → Prop) : ∀ (xs : List α) (s : S), J s → (∀ x ∈ xs, ∀ s, J s → ∃ t, body s x = some (.nx t) ∧ J t) → ∃ r, forF body xs s = some (.nx r) ∧ J r
  | [], s, h, _ => ⟨s, rfl, h⟩
  | x :: xs, s, h, hb => by
    obtain ⟨t, h1, h2⟩ := hb x List.mem_cons_self s h
    obtain ⟨r, h3, h4⟩ := forF_nx J xs t h2 fun y hy => hb y (List.mem_cons_of_mem _ hy)
    refine ⟨r, ?_, h4⟩
    show (body s x).bind _ = _
    rw [h1]; exact h3
theorem enumM_get {α : Type} {xs : List α} {k : Nat} {p : Int × α} (h : (enumM xs)[k]? = some p) : ∃ x, xs[k]? = some x ∧ p = ((k : Int), x) := by
  unfold enumM at h
  rw [List.getElem?_mapIdx] at h
  cases e : xs[k]? with
  | none => rw [e] at h; cases h
  | some x => rw [e] at h; cases h; exact ⟨x, rfl, rfl⟩
theorem enumM_len {α : Type} (xs : List α) : (enumM xs).length = xs.length := by simp [enumM]
theorem rngL_len (a b : Int) : (rngL a b).length = (b - a).toNat := by simp [rngL]
theorem rngL_get {a b : Int} {k : Nat} {x : Int} (h : (rngL a b)[k]? = some x) : x = a + (k : Int) ∧ k < (b - a).toNat := by
  unfold rngL at h
  rw [List.getElem?_map] at h
  cases e : (List.range (b - a).toNat)[k]? with
  | none => rw [e] at h; cases h
  | some j =>
    rw [e] at h
    obtain ⟨h1, h2⟩ := List.getElem?_eq_some_iff.mp e
    rw [List.getElem_range] at h2
    cases h
    subst h2
    exact ⟨rfl, by simpa using h1⟩
/-- each thing below its size -/
inductive Bel : List Int → List Int → Prop
  | nil : Bel [] []
  | cons {x s : Int} {xs ss : List Int} : 0 ≤ x → x < s → Bel xs ss → Bel (x :: xs) (s :: ss)
theorem Bel.len : ∀ {xs ss : List Int}, Bel xs ss → xs.length = ss.length
  | _, _, .nil => rfl
  | _, _, .cons _ _ h => by rw [List.length_cons, List.length_cons, h.len]
theorem Bel.snoc : ∀ {xs ss : List Int} {x s : Int}, Bel xs ss → 0 ≤ x → x < s → Bel (xs ++ [x]) (ss ++ [s])
  | _, _, _, _, .nil, h1, h2 => .cons h1 h2 .nil
  | _, _, _, _, .cons a b h, h1, h2 => .cons a b (h.snoc h1 h2)
theorem Bel.get : ∀ {xs ss : List Int} {k : Nat} {s : Int}, Bel xs ss → ss[k]? = some s → ∃ x, xs[k]? = some x ∧ 0 ≤ x ∧ x < s
  | _, _, _, _, .nil, e => by simp at e
  | _, _, 0, _, .cons a b h, e => by simp at e; subst e; exact ⟨_, rfl, a, b⟩
  | _, _, k + 1, s, .cons a b h, e => by
    obtain ⟨x, h1, h2⟩ := h.get (k := k) (s := s) (by simpa using e)
    exact ⟨x, by simpa using h1, h2⟩
theorem Bel.at {xs ss : List Int} {k : Nat} {s : Int} (h : Bel xs ss) (e : ss[k]? = some s) : ∃ x, atI xs (k : Int) = some x ∧ 0 ≤ x ∧ x < s := by
  obtain ⟨x, h1, h2, h3⟩ := h.get e
  obtain ⟨hk, h4⟩ := List.getElem?_eq_some_iff.mp h1
  exact ⟨x, by rw [atI_nn xs k hk, h4], h2, h3⟩
theorem Bel.rep : ∀ {xs : List Int} {n : Nat} {s : Int}, Bel xs (List.replicate n s) → xs.length = n ∧ ∀ x ∈ xs, 0 ≤ x ∧ x < s
  | _, 0, _, h => by cases h; exact ⟨rfl, fun x hx => by cases hx⟩
  | _, n + 1, s, h => by
    rw [List.replicate_succ] at h
    cases h with
    | cons a b h =>
      obtain ⟨h1, h2⟩ := h.rep
      refine ⟨by rw [List.length_cons, h1], fun x hx => ?_⟩
      rcases List.mem_cons.mp hx with rfl | hx
      · exact ⟨a, b⟩
      · exact h2 x hx
theorem absI_nn (c : Int) : 0 ≤ absI c := by unfold absI; split <;> omega
end Bw

namespace Bw
open PySem L2
/-! what is told, and what is true of it -/
def Rt {α : Type} (o : Option α) (P : α → Prop) : Prop := ∃ x, o = some x ∧ P x
theorem Rt.mono {α : Type} {o : Option α} {P Q : α → Prop} (h : Rt o P) (k : ∀ x, P x → Q x) : Rt o Q := let ⟨x, h1, h2⟩ := h; ⟨x, h1, k x h2⟩
theorem Rt.mo {α : Type} {o : Option α} {P Q : α → Prop} (h : Rt o P) (k : ∀ x, o = some x → P x → Q x) : Rt o Q := let ⟨x, h1, h2⟩ := h; ⟨x, h1, k x h1 h2⟩
theorem Rt.eq {α : Type} {o : Option α} {y : α} (h : Rt o fun x => x = y) : o = some y := let ⟨x, h1, h2⟩ := h; h2 ▸ h1
theorem rt_of {α : Type} {o : Option α} {x : α} {P : α → Prop} (h : o = some x) (p : P x) : Rt o P := ⟨x, h, p⟩
theorem rt_some {α : Type} {x : α} {P : α → Prop} : Rt (some x) P ↔ P x := ⟨fun ⟨y, h1, h2⟩ => (Option.some.inj h1) ▸ h2, fun h => ⟨x, rfl, h⟩⟩
theorem rt_bind {α β : Type} {a : Option α} {f : α → Option β} {P : β → Prop} : Rt (a.bind f) P ↔ Rt a fun x => Rt (f x) P := by
  constructor
  · rintro ⟨y, h1, h2⟩
    obtain ⟨x, h3, h4⟩ := bnd h1
    exact ⟨x, h3, y, h4, h2⟩
  · rintro ⟨x, h3, y, h4, h2⟩
    exact ⟨y, by rw [h3]; exact h4, h2⟩
theorem rt_let {α β : Type} {x : α} {f : α → Option β} {P : β → Prop} : Rt (letM x f) P ↔ Rt (f x) P := Iff.rfl
theorem rt_ite {α : Type} {c : Prop} [Decidable c] {a b : Option α} {P : α → Prop} : Rt (if c then a else b) P ↔ (c → Rt a P) ∧ (¬ c → Rt b P) := by
  by_cases h : c
  · rw [if_pos h]; exact ⟨fun k => ⟨fun _ => k, fun z => absurd h z⟩, fun k => k.1 h⟩
  · rw [if_neg h]; exact ⟨fun k => ⟨fun z => absurd z h, fun _ => k⟩, fun k => k.2 h⟩
theorem rt_pos {α : Type} {c : Prop} [Decidable c] {a b : Option α} {P : α → Prop} (h : c) (k : Rt a P) : Rt (if c then a else b) P := by rw [if_pos h]; exact k
theorem rt_neg {α : Type} {c : Prop} [Decidable c] {a b : Option α} {P : α → Prop} (h : ¬ c) (k : Rt b P) : Rt (if c then a else b) P := by rw [if_neg h]; exact k
theorem rt_if {α : Type} {c : Prop} [Decidable c] {x : α} {P : Prop} [Decidable P] {Q : α → Prop} {o : Prop} (h : o) : o := h
theorem rt_g {α : Type} {p : Prop} [Decidable p] {x : α} {P : α → Prop} : Rt (if p then some x else none) P ↔ p ∧ P x := by
  by_cases h : p
  · rw [if_pos h, rt_some]; exact ⟨fun k => ⟨h, k⟩, fun k => k.2⟩
  · rw [if_neg h]; exact ⟨fun ⟨_, z, _⟩ => (nomatch z), fun k => absurd k.1 h⟩
theorem rt_app {α : Type} {xs : List α} {x : α} {P : List α → Prop} : Rt (appM xs x) P ↔ xs.length < 100000 ∧ P (xs ++ [x]) := by unfold appM; exact rt_g
theorem rt_cat {α : Type} {xs ys : List α} {P : List α → Prop} : Rt (catM xs ys) P ↔ xs.length + ys.length ≤ 100000 ∧ P (xs ++ ys) := by unfold catM; exact rt_g
theorem rt_mul {a b : Int} {P : Int → Prop} : Rt (mulM a b) P ↔ ((-(2 ^ 64) < a ∧ a < 2 ^ 64) ∨ (-(2 ^ 64) < b ∧ b < 2 ^ 64)) ∧ P (a * b) := by unfold mulM; exact rt_g
theorem rt_mod {a b : Int} {P : Int → Prop} : Rt (modM a b) P ↔ 0 < b ∧ P (a % b) := by unfold modM; exact rt_g
theorem rt_fdiv {a b : Int} {P : Int → Prop} : Rt (fdivM a b) P ↔ (0 < b ∧ b < 1073741824) ∧ P (a / b) := by unfold fdivM; exact rt_g
theorem rt_rng {a b : Int} {P : List Int → Prop} : Rt (rngM a b) P ↔ (-(2 ^ 62) ≤ a ∧ a < 2 ^ 62 ∧ -(2 ^ 62) ≤ b ∧ b < 2 ^ 62) ∧ P (rngL a b) := by unfold rngM; exact rt_g
theorem rt_scat {x y : Str} {P : Str → Prop} : Rt (scatM x y) P ↔ x.length + y.length ≤ 100000 ∧ P (x ++ y) := by unfold scatM; exact rt_g
theorem rt_lenS {x : Str} {P : Int → Prop} : Rt (lenS x) P ↔ x.length ≤ 100000 ∧ P (x.length : Int) := by unfold lenS; exact rt_g
theorem rt_str {x : Int} {P : Str → Prop} : Rt (strM x) P ↔ x.natAbs.log2 < 1920 ∧ P (toString x) := by unfold strM; exact rt_g
theorem rt_join {x : Str} {xs : List Str} {P : Str → Prop} : Rt (joinM x xs) P ↔ ((xs.map (·.length)).sum + x.length * xs.length) ≤ 100000 ∧ P (Txt.join x xs) := by unfold joinM; exact rt_g
theorem rt_mapC {α β : Type} {f : α → β} {xs : List α} {P : List β → Prop} : Rt (mapC f xs) P ↔ xs.length ≤ 100000 ∧ P (xs.map f) := by unfold mapC; exact rt_g
theorem rt_filC {α β : Type} {p : α → Bool} {f : α → β} {xs : List α} {P : List β → Prop} : Rt (filC p f xs) P ↔ xs.length ≤ 100000 ∧ P ((xs.filter p).map f) := by unfold filC; exact rt_g
theorem rt_lcC {α β : Type} {f : α → Option (Option β)} {xs : List α} {P : List β → Prop} : Rt (lcC f xs) P ↔ xs.length ≤ 100000 ∧ Rt (lcM f xs) P := by
  unfold lcC
  by_cases h : xs.length ≤ 100000
  · rw [if_pos h]; exact ⟨fun k => ⟨h, k⟩, fun k => k.2⟩
  · rw [if_neg h]; exact ⟨fun ⟨_, z, _⟩ => (nomatch z), fun k => absurd k.1 h⟩
theorem rt_rep {α : Type} {xs : List α} {k : Int} {P : List α → Prop} : Rt (repM xs k) P ↔ (-(2 ^ 63) ≤ k ∧ k < 2 ^ 63 ∧ xs.length * k.toNat ≤ 100000) ∧ P (List.replicate k.toNat xs).flatten := by unfold repM; exact rt_g
theorem rt_at {α : Type} {xs : List α} {i : Int} {P : α → Prop} (h0 : 0 ≤ i) (h : i < xs.length) (k : ∀ x, xs[i.toNat]? = some x → P x) : Rt (atI xs i) P := by
  obtain ⟨x, h1, h2⟩ := atI_int xs i h0 h
  exact ⟨x, h1, k x h2⟩
theorem rt_lc {α β : Type} {f : α → Option (Option β)} {R : α → β → Prop} : ∀ {xs : List α} {P : List β → Prop}, (∀ x ∈ xs, Rt (f x) fun o => ∃ y, o = some y ∧ R x y) → (∀ ys : List β, ys.length = xs.length → (∀ (i : Nat) x y, xs[i]? = some x → ys[i]? = some y → R x y) → P ys) → Rt (lcM f xs) P
  | [], P, _, k => ⟨[], rfl, k [] rfl fun i x y h => by simp at h⟩
  | x :: xs, P, h, k => by
    obtain ⟨o, h1, y, rfl, h2⟩ := h x List.mem_cons_self
    obtain ⟨ys, h3, h4, h5⟩ := rt_lc (xs := xs) (P := fun ys => ys.length = xs.length ∧ ∀ (i : Nat) x y, xs[i]? = some x → ys[i]? = some y → R x y) (fun z hz => h z (List.mem_cons_of_mem _ hz)) fun ys a b => ⟨a, b⟩
    refine ⟨y :: ys, ?_, k _ (by simp [h4]) fun i x' y' hx hy => ?_⟩
    · show (f x).bind _ = _
      rw [h1]
      show (lcM f xs).bind _ = _
      rw [h3]; rfl
    · cases i with
      | zero => simp at hx hy; subst hx; subst hy; exact h2
      | succ i => exact h5 i x' y' (by simpa using hx) (by simpa using hy)
/-- a loop by what it keeps: the turns so far -/
theorem rt_fold {α S : Type} {body : S → α → Option S} {xs : List α} {s : S} {P : S → Prop} (J : Nat → S → Prop) (h0 : J 0 s) (hb : ∀ (k : Nat) x s, xs[k]? = some x → J k s → Rt (body s x) (J (k + 1))) (hd : ∀ s, J xs.length s → P s) : Rt (xs.foldlM body s) P := by
  obtain ⟨r, h1, h2⟩ := foldlM_inv (body := body) J xs 0 s h0 fun k x t hx ht => by
    rw [Nat.zero_add] at ht ⊢
    exact hb k x t hx ht
  exact ⟨r, h1, hd r (by rwa [Nat.zero_add] at h2)⟩
/-- a loop that goes through -/
theorem rt_for {α S R : Type} {body : S → α → Option (Fl S R)} {xs : List α} {s : S} {P : Fl S R → Prop} (J : S → Prop) (h0 : J s) (hb : ∀ x ∈ xs, ∀ s, J s → Rt (body s x) fun f => ∃ t, f = .nx t ∧ J t) (hd : ∀ s, J s → P (.nx s)) : Rt (forF body xs s) P := by
  obtain ⟨r, h1, h2⟩ := forF_nx (body := body) J xs s h0 fun x hx t ht => by
    obtain ⟨f, h1, u, rfl, h2⟩ := hb x hx t ht
    exact ⟨u, h1, h2⟩
  exact ⟨_, h1, hd r h2⟩
end Bw

namespace Bw
open PySem L2 TL
/-! good stores -/
abbrev Bx := Str × Int × Int
abbrev Sto := List Int × List Int × Int × List Bx
theorem popM_ok {α : Type} {xs : List α} (i : Nat) (h : i < xs.length) (hl : xs.length < 1000000) : popM xs (i : Int) = some (xs[i], xs.eraseIdx i) := by
  unfold popM
  rw [if_pos ⟨by omega, by omega⟩]
  have e : seqIndex? (i : Int) xs.length = some i := by
    unfold seqIndex?
    have h0 : ¬ ((i : Int) < 0) := by omega
    simp only [if_neg h0, Int.toNat_natCast]
    rw [if_pos]
    simp; omega
  rw [bo e, List.getElem?_eq_getElem h]
  rfl
theorem erase_perm {α : Type} : ∀ (xs : List α) (i : Nat) (h : i < xs.length), xs.Perm (xs[i] :: xs.eraseIdx i)
  | x :: xs, 0, _ => .refl _
  | x :: xs, i + 1, h => by
    have h' : i < xs.length := by simpa using h
    exact ((erase_perm xs i h').cons x).trans (.swap _ _ _)
theorem remM_ok {xs : List Int} {x : Int} (h : x ∈ xs) : remM xs x = some (xs.erase x) := by
  unfold remM inL
  rw [if_pos]
  exact List.any_eq_true.mpr ⟨x, h, by simp⟩
theorem fold_arr (c : Nat) : ∀ (n : Nat) (a : Array Nat), ((List.replicate n #[c]).foldl (· ++ ·) a).toList = a.toList ++ List.replicate n c
  | 0, a => by simp
  | n + 1, a => by
    rw [List.replicate_succ, List.foldl_cons, fold_arr c n, List.replicate_succ]
    simp
theorem tl_mul1 (x : Str) (c : Nat) (hx : tl x = [c]) (n : Int) : tl (Txt.mul x n) = List.replicate n.toNat c := by
  have e : x = ⟨#[c]⟩ := ext_tl hx
  subst e
  unfold Txt.mul
  split
  · rename_i h
    have : n.toNat = 0 := by omega
    rw [this]; rfl
  · split
    · rename_i h1 h2
      simp [Str.length] at h2
      subst h2
      rfl
    · show ((List.replicate n.toNat #[c]).foldl (· ++ ·) #[]).toList = _
      rw [fold_arr]; rfl
theorem srepM_ok (x : Str) (c : Nat) (hx : tl x = [c]) (n : Int) (h0 : 0 ≤ n) (h : n ≤ 100) : srepM x n = some ⟨(List.replicate n.toNat c).toArray⟩ := by
  unfold srepM
  have hl : x.length = 1 := by rw [len_tl, hx]; rfl
  rw [if_pos ⟨by omega, by omega, by rw [hl]; omega⟩]
  exact congrArg some (ext_tl (by rw [tl_mul1 x c hx]))
theorem scatM_ok (x y : Str) (h : (tl x).length + (tl y).length ≤ 100000) : scatM x y = some ⟨(tl x ++ tl y).toArray⟩ := by
  unfold scatM
  rw [len_tl, len_tl, if_pos h]
  exact congrArg some (ext_tl (by rw [tl_append]))
abbrev abc : Str := "abcdefghijklmnopqrstuvwxyz"
theorem abc_ix : ∀ i : Fin 26, ixS abc ((i.val : Nat) : Int) = some ⟨#[97 + i.val]⟩ := by decide +kernel
theorem abc_at (i : Int) (h0 : 0 ≤ i) (h : i < 26) : ixS abc i = some ⟨#[97 + i.toNat]⟩ := by
  have := abc_ix ⟨i.toNat, by omega⟩
  simp only at this
  rw [← this]
  congr 1
  omega
def NmOk (s : Str) : Prop := 1 ≤ (tl s).length ∧ (tl s).length ≤ 8 ∧ ∀ c ∈ tl s, 97 ≤ c ∧ c ≤ 122
structure BxOk (rooms : List Int) (bs : List Bx) : Prop where
  len : bs.length ≤ 60
  nm : ∀ x ∈ bs, NmOk x.1
  nd : (bs.map (·.1)).Nodup
  ba : ∀ x ∈ bs, 0 ≤ x.2.1 ∧ x.2.1 < rooms.length
  bt : ∀ x ∈ bs, 0 ≤ x.2.2 ∧ x.2.2 < rooms.length
  ra : ∀ (b : Nat) (r : Int), rooms[b]? = some r → (bs.countP fun x => decide (x.2.1 = (b : Int))) ≤ r.toNat
  rt : ∀ (b : Nat) (r : Int), rooms[b]? = some r → (bs.countP fun x => decide (x.2.2 = (b : Int))) ≤ r.toNat
structure SOk (s : Sto) : Prop where
  n2 : 2 ≤ s.1.length
  n16 : s.1.length ≤ 16
  rm : ∀ r ∈ s.1, 1 ≤ r ∧ r ≤ 40
  gl : s.2.1.length + 1 = s.1.length
  gm : ∀ g ∈ s.2.1, 1 ≤ g ∧ g ≤ 1000000000
  mo : 1 ≤ s.2.2.1 ∧ s.2.2.1 ≤ 20
  bx : BxOk s.1 s.2.2.2
/-! equal to its copy -/
def Shp (n : Nat) (d : PyData) : Prop := d.canLay0 = true ∧ d.depth ≤ n
theorem Shp.mono {n m : Nat} {d : PyData} (h : Shp n d) (hm : n ≤ m) : Shp m d := ⟨h.1, Nat.le_trans h.2 hm⟩
theorem shp_int (i : Int) : Shp 0 (.int i) := ⟨rfl, Nat.le_refl _⟩
theorem shp_all {n : Nat} : ∀ {xs : List PyData}, (∀ x ∈ xs, Shp n x) → PyData.canLayAll0 xs = true ∧ PyData.depthAll xs ≤ n
  | [], _ => ⟨rfl, Nat.zero_le _⟩
  | x :: xs, h => by
    obtain ⟨a, b⟩ := shp_all fun y hy => h y (List.mem_cons_of_mem _ hy)
    obtain ⟨c, d⟩ := h x List.mem_cons_self
    unfold PyData.canLayAll0 PyData.depthAll
    rw [a, c]
    exact ⟨rfl, Nat.max_le.mpr ⟨d, b⟩⟩
theorem shp_list {n : Nat} {xs : List PyData} (h : ∀ x ∈ xs, Shp n x) : Shp (n + 1) (.list xs) := by
  obtain ⟨a, b⟩ := shp_all h
  exact ⟨by unfold PyData.canLay0; exact a, by unfold PyData.depth; omega⟩
theorem shp_tup {n : Nat} {xs : List PyData} (h : ∀ x ∈ xs, Shp n x) : Shp (n + 1) (.tuple xs) := by
  obtain ⟨a, b⟩ := shp_all h
  exact ⟨by unfold PyData.canLay0; exact a, by unfold PyData.depth; omega⟩
theorem shp_str {s : Str} (h : ∀ c ∈ tl s, c < 0x110000) : Shp 0 (.str s) := by
  refine ⟨?_, Nat.le_refl _⟩
  unfold PyData.canLay0 PyData.strOk
  rw [Array.all_eq_true']
  intro c hc
  exact decide_eq_true (h c (Array.mem_def.mp hc))
theorem shp_ints (xs : List Int) : Shp 1 (eL eI xs) := shp_list fun x hx => by
  obtain ⟨i, _, rfl⟩ := List.mem_map.mp hx
  exact shp_int i
theorem shp_box {x : Bx} (h : NmOk x.1) : Shp 1 (eT3 eS eI eI x) := shp_tup fun y hy => by
  have hs : Shp 0 (eS x.1) := shp_str fun c hc => by have := h.2.2 c hc; omega
  simp only [List.mem_cons, List.not_mem_nil, or_false] at hy
  rcases hy with rfl | rfl | rfl
  · exact hs
  · exact shp_int _
  · exact shp_int _
theorem shp_boxes {bs : List Bx} (h : ∀ x ∈ bs, NmOk x.1) : Shp 2 (eL (eT3 eS eI eI) bs) := shp_list fun x hx => by
  obtain ⟨y, hy, rfl⟩ := List.mem_map.mp hx
  exact shp_box (h y hy)
theorem shp_store {s : Sto} (h : SOk s) : Shp 3 (eT4 (eL eI) (eL eI) eI (eL (eT3 eS eI eI)) s) := shp_tup fun y hy => by
  simp only [List.mem_cons, List.not_mem_nil, or_false] at hy
  rcases hy with rfl | rfl | rfl | rfl
  · exact (shp_ints _).mono (by decide)
  · exact (shp_ints _).mono (by decide)
  · exact (shp_int _).mono (by decide)
  · exact shp_boxes h.bx.nm
theorem Shp.ok {n : Nat} {d : PyData} (h : Shp n d) (hn : n ≤ 64) : SeqAt.shaped d = true := by
  unfold SeqAt.shaped
  rw [h.1, decide_eq_true (Nat.le_trans h.2 hn)]; rfl
theorem eqT_self {α : Type} [DecidableEq α] {e : α → PyData} {x : α} {n : Nat} (h : Shp n (e x)) (hn : n ≤ 64) : eqTM e x x = some true := by
  unfold eqTM
  rw [if_pos ⟨h.ok hn, h.ok hn⟩, decide_eq_true rfl]
theorem setM_ok {α : Type} {xs : List α} {i : Int} (x : α) (h0 : 0 ≤ i) (h : i < xs.length) : setM xs i x = some (xs.set i.toNat x) := by
  unfold setM ixN
  rw [if_pos h0, if_pos h]
  rfl
theorem cut_take {α : Type} (xs : List α) (i : Int) (h0 : 0 ≤ i) : cutL xs none (some i) = xs.take i.toNat := by
  obtain ⟨k, rfl⟩ : ∃ k : Nat, i = k := ⟨i.toNat, by omega⟩
  unfold cutL
  rw [HT.sIx_none, HT.sIx_nat, Int.toNat_natCast, List.drop_zero, Nat.sub_zero]
  by_cases h : k ≤ xs.length
  · rw [Nat.min_eq_left h]
  · rw [Nat.min_eq_right (by omega), List.take_of_length_le (Nat.le_refl _), List.take_of_length_le (by omega)]
theorem bx_take {rooms : List Int} {bs : List Bx} (h : BxOk rooms bs) (n : Nat) : BxOk rooms (bs.take n) := by
  have sub := List.take_sublist n bs
  refine ⟨Nat.le_trans sub.length_le h.len, fun x hx => h.nm x (sub.mem hx), h.nd.sublist (sub.map _), fun x hx => h.ba x (sub.mem hx), fun x hx => h.bt x (sub.mem hx), fun b r e => Nat.le_trans (sub.countP_le) (h.ra b r e), fun b r e => Nat.le_trans (sub.countP_le) (h.rt b r e)⟩
theorem bx_room {rooms rooms' : List Int} {bs : List Bx} (h : BxOk rooms bs) (hl : rooms'.length = rooms.length) (hg : ∀ (b : Nat) (r' : Int), rooms'[b]? = some r' → ∃ r, rooms[b]? = some r ∧ r ≤ r') : BxOk rooms' bs := by
  refine ⟨h.len, h.nm, h.nd, by rw [hl]; exact h.ba, by rw [hl]; exact h.bt, fun b r' e => ?_, fun b r' e => ?_⟩
  · obtain ⟨r, e1, e2⟩ := hg b r' e
    have := h.ra b r e1; omega
  · obtain ⟨r, e1, e2⟩ := hg b r' e
    have := h.rt b r e1; omega
end Bw

namespace Bw
open PySem L2 TL
/-! a good store is looked at and nothing is said -/
theorem whole_ok (x : Int) : f_is_whole x = some true := rfl
theorem within_eq (x a b : Int) : f_is_within (x, a, b) = some (decide (a ≤ x) && decide (x ≤ b)) := by
  unfold f_is_within
  dsimp only
  rw [bo (whole_ok x), Bool.true_and]
theorem within_ok {x a b : Int} (h1 : a ≤ x) (h2 : x ≤ b) : f_is_within (x, a, b) = some true := by rw [within_eq, decide_eq_true h1, decide_eq_true h2]; rfl
theorem all_id : ∀ {α : Type} (xs : List α), (xs.map fun _ => true).all id = true
  | _, [] => rfl
  | _, _ :: xs => by rw [List.map_cons, List.all_cons, all_id xs]; rfl
theorem are_within_ok {xs : List Int} {a b : Int} (hl : xs.length ≤ 1000) (h : ∀ x ∈ xs, a ≤ x ∧ x ≤ b) : f_are_within (xs, a, b) = some true := by
  unfold f_are_within
  dsimp only
  have e : lcC (fun one_4 => (f_is_within (one_4, a, b)).bind fun x15 => some (some x15)) xs = some (xs.map fun _ => true) := by
    rw [lcC_ok (by omega)]
    exact lcM_all fun x hx => by rw [bo (within_ok (h x hx).1 (h x hx).2)]
  rw [if_pos rfl, bo e, all_id, bo rfl]
theorem inS_abc {c : Nat} (h1 : 97 ≤ c) (h2 : c ≤ 122) : inS ⟨#[c]⟩ "abcdefghijklmnopqrstuvwxyz" = true := by
  have h : ∀ i : Fin 26, 97 + i.val ∈ tl ("abcdefghijklmnopqrstuvwxyz" : Str) := by decide +kernel
  unfold inS
  rw [PySem.StrLaws.found_one, decide_eq_true_eq]
  have := h ⟨c - 97, by omega⟩
  have e : 97 + (c - 97) = c := by omega
  simpa [e] using this
theorem is_name_ok {s : Str} (h : NmOk s) : f_is_name s = some true := by
  obtain ⟨h1, h2, h3⟩ := h
  unfold f_is_name
  have hl : lenS s = some ((tl s).length : Int) := by unfold lenS; rw [len_tl, if_pos (by omega)]
  have e : mapC (fun sign_20 => inS sign_20 ("abcdefghijklmnopqrstuvwxyz" : Str)) (signs s) = some ((signs s).map fun _ => true) := by
    rw [mapC_ok (by simp [signs]; have := len_tl s; simp [tl, Str.length] at *; omega)]
    refine congrArg some (List.map_congr_left fun x hx => ?_)
    obtain ⟨c, hc, rfl⟩ := List.mem_map.mp hx
    exact inS_abc (h3 c hc).1 (h3 c hc).2
  rw [if_neg (by decide), bo hl]
  have g : (!(decide ((1 : Int) ≤ ((tl s).length : Int)) && decide (((tl s).length : Int) ≤ 8))) = false := by
    rw [decide_eq_true (by omega), decide_eq_true (by omega)]; rfl
  rw [g, bo rfl, if_neg (by decide), bo e, all_id]
theorem is_box_ok {x : Bx} {n : Int} (h : NmOk x.1) (ha : 0 ≤ x.2.1 ∧ x.2.1 < n) (ht : 0 ≤ x.2.2 ∧ x.2.2 < n) : f_is_box (x, n) = some true := by
  unfold f_is_box
  dsimp only
  rw [if_neg (by decide), if_neg (by decide), bo (is_name_ok h)]
  rw [show ((some (!true)).bind fun x5 => some x5) = some false from rfl, bo rfl, if_neg (by decide), bo (within_ok ha.1 (by omega)), if_pos rfl, bo (within_ok ht.1 (by omega)), bo rfl]
theorem dups_nodup : ∀ (xs acc : List Str), (∀ x ∈ xs, x ∉ acc) → xs.Nodup → (dups acc xs).length = acc.length + xs.length
  | [], acc, _, _ => rfl
  | x :: xs, acc, h, hn => by
    have h1 : acc.any (· == x) = false := by
      rw [List.any_eq_false]
      intro y hy e
      have : y = x := by simpa using e
      exact h x List.mem_cons_self (this ▸ hy)
    unfold dups
    rw [h1]
    obtain ⟨n1, n2⟩ := List.nodup_cons.mp hn
    show (dups (acc ++ [x]) xs).length = _
    rw [dups_nodup xs (acc ++ [x]) (fun y hy hm => by
      rcases List.mem_append.mp hm with hm | hm
      · exact h y (List.mem_cons_of_mem _ hy) hm
      · have := List.mem_singleton.mp hm; subst this; exact n1 hy) n2]
    simp only [List.length_append, List.length_cons, List.length_nil]
    omega
theorem names_twice_ok {bs : List Bx} (hl : bs.length ≤ 60) (hn : (bs.map (·.1)).Nodup) : f_has_names_twice bs = some false := by
  unfold f_has_names_twice
  have e : setLenM (bs.map fun b => b.1) = some (bs.length : Int) := by
    unfold setLenM
    rw [if_pos (by rw [List.length_map]; omega), dups_nodup _ _ (fun _ _ h => by cases h) hn, List.length_map, List.length_nil, Nat.zero_add]
  rw [bo (mapC_ok (by omega)), bo e, decide_eq_true rfl]
  rfl
theorem eqD_int (a b : Int) : eqDM (.int a) (.int b) = some (decide (a = b)) := by
  unfold eqDM
  rw [if_pos ⟨rfl, rfl⟩]
  refine congrArg some ?_
  show (a == b) = decide (a = b)
  rfl
theorem has_room_ok {rooms : List Int} {bs : List Bx} {place : Int} {g : Bx → Int} (hl : bs.length ≤ 60) (hg : ∀ x : Bx, atI [eS x.1, eI x.2.1, eI x.2.2] place = some (eI (g x))) (h : ∀ (b : Nat) (r : Int), rooms[b]? = some r → 0 ≤ r ∧ (bs.countP fun x => decide (g x = (b : Int))) ≤ r.toNat) : f_has_room (rooms, bs, place) = some true := by
  unfold f_has_room
  dsimp only
  obtain ⟨r, e, _⟩ := forF_nx (body := f_has_room_b4 bs place) (fun _ => True) (enumM rooms) () trivial (by
    intro x hx s _
    obtain ⟨k, hk⟩ := List.mem_iff_getElem?.mp hx
    obtain ⟨room, hr, rfl⟩ := enumM_get hk
    obtain ⟨h0, h1⟩ := h k room hr
    unfold f_has_room_b4
    dsimp only
    have e : lcC (fun (box_35 : Bx) => (((atI [eS box_35.1, eI box_35.2.1, eI box_35.2.2] place)).bind fun x46 => ((eqDM x46 (eI (k : Int)))).bind fun x48 => if (x48) = true then (some (some box_35)) else some none)) bs = some ((bs.filter fun x => decide (g x = (k : Int))).map fun x => x) := by
      rw [lcC_ok (by omega)]
      refine lcM_fil fun x hx => ?_
      rw [bo (hg x), bo (eqD_int _ _)]
      split <;> rfl
    rw [bo e, if_neg]
    · exact ⟨(), rfl, trivial⟩
    · rw [List.map_id', ← List.countP_eq_length_filter, decide_eq_true_eq]
      omega)
  rw [bo e]
theorem are_boxes_ok {rooms : List Int} {bs : List Bx} (hr : ∀ r ∈ rooms, 1 ≤ r ∧ r ≤ 40) (h : BxOk rooms bs) : f_are_boxes (rooms, bs) = some true := by
  unfold f_are_boxes
  dsimp only
  have hl := h.len
  have e : lcC (fun (one_17 : Bx) => (((f_is_box (one_17, (rooms.length : Int)))).bind fun x28 => some (some x28))) bs = some (bs.map fun _ => true) := by
    rw [lcC_ok (by omega)]
    exact lcM_all fun x hx => by rw [bo (is_box_ok (h.nm x hx) (h.ba x hx) (h.bt x hx))]
  have g1 : ((!true) || decide ((60 : Int) < (bs.length : Int))) = false := by rw [decide_eq_false (by omega)]; rfl
  have pos : ∀ (b : Nat) (r : Int), rooms[b]? = some r → 0 ≤ r := fun b r e => by have := hr r (List.mem_of_getElem? e); omega
  rw [g1, if_neg (by decide), bo e, all_id, if_neg (by decide), bo (names_twice_ok hl h.nd), bo rfl, if_neg (by decide)]
  rw [bo (has_room_ok (g := fun x => x.2.1) hl (fun _ => rfl) fun b r e => ⟨pos b r e, h.ra b r e⟩), if_pos rfl, bo (has_room_ok (g := fun x => x.2.2) hl (fun _ => rfl) fun b r e => ⟨pos b r e, h.rt b r e⟩), bo rfl]
theorem look_ok {s : Sto} (h : SOk s) : f_look_at_store s = some () := by
  obtain ⟨rooms, gaps, most, bs⟩ := s
  obtain ⟨h1, h2, h3, h4, h5, h6, h7⟩ := h
  dsimp only at h1 h2 h3 h4 h5 h6 h7
  unfold f_look_at_store
  dsimp only
  rw [if_neg (by decide)]
  simp only [letM_eq]
  rw [bo (are_within_ok (by omega) h3)]
  rw [show ((!true) || !(decide ((2 : Int) ≤ (rooms.length : Int)) && decide ((rooms.length : Int) ≤ 16))) = false by rw [decide_eq_true (by omega), decide_eq_true (by omega)]; rfl]
  rw [if_neg (by decide), bo (are_within_ok (by omega) h5)]
  rw [show ((!true) || !decide ((gaps.length : Int) = (rooms.length : Int) - 1)) = false by rw [decide_eq_true (by omega)]; rfl]
  rw [if_neg (by decide), bo (within_ok h6.1 h6.2), if_neg (by decide), bo (are_boxes_ok h3 h7), if_neg (by decide)]
end Bw

namespace Bw
open PySem L2 TL
theorem cell_ok (s : List Int) (k : Int) (h : 0 ≤ k) : ∃ c, f_cell (s, k) = some c := by
  unfold f_cell
  dsimp only
  by_cases q : k < (s.length : Int)
  · rw [if_pos (decide_eq_true q)]
    obtain ⟨x, h1, _⟩ := atI_int s k h q
    rw [h1]
    exact ⟨x, rfl⟩
  · rw [if_neg (by simpa using q)]
    exact ⟨0, rfl⟩
end Bw

namespace Bw
open PySem L2
/-! the law's draws: each below its size -/
def SzOk (ss : List Int) : Prop := ∀ s ∈ ss, 0 < s ∧ s < 1073741824
theorem draws_turn (k : Int) (great : Bool) (number mixed : Int) (found : List Int) (turn size : Int) (hn : 0 ≤ number) (hm : 0 ≤ mixed) (hm2 : mixed < 2147483629) (hs : 0 < size) (hs2 : size < 1073741824) (hf : found.length < 100000) :
    ∃ number' mixed' x, f_draws_b31 k great (number, mixed, found) (turn, size) = some (number', mixed', found ++ [x]) ∧ 0 ≤ number' ∧ 0 ≤ mixed' ∧ mixed' < 2147483629 ∧ 0 ≤ x ∧ x < size := by
  unfold f_draws_b31
  dsimp only
  by_cases g : great = true
  · rw [if_pos g, modM_ok hs]
    dsimp only [Option.bind_some]
    rw [appM_ok hf]
    dsimp only [Option.bind_some]
    rw [fdivM_ok hs hs2]
    exact ⟨number / size, mixed, number % size, rfl, Int.ediv_nonneg hn (Int.le_of_lt hs), hm, hm2, Int.emod_nonneg _ (by omega), Int.emod_lt_of_pos _ hs⟩
  · rw [if_neg g, mulM_ok (by omega) (by omega)]
    dsimp only [Option.bind_some, letM]
    rw [modM_ok hs]
    dsimp only [Option.bind_some]
    rw [appM_ok hf]
    refine ⟨number, _, _, rfl, hn, Int.emod_nonneg _ (by decide), ?_, Int.emod_nonneg _ (by omega), Int.emod_lt_of_pos _ hs⟩
    have := Int.emod_lt_of_pos (mixed * mixed + 104729 * (k + turn) + 11) (show (0 : Int) < 2147483587 by decide)
    omega
theorem draws_ok (c k : Int) (ss : List Int) (h : SzOk ss) (hl : ss.length ≤ 1000) : ∃ r, f_draws (c, k, ss) = some r ∧ Bel r ss := by
  unfold f_draws
  dsimp only [letM]
  generalize hg : decide ((1000000000000000000 : Int) ≤ absI c) = great
  have hm := Int.emod_nonneg ((absI c % 1000000007 + 7919 * k + 1) * 48271) (show (2147483629 : Int) ≠ 0 by decide)
  have hm2 := Int.emod_lt_of_pos ((absI c % 1000000007 + 7919 * k + 1) * 48271) (show (0 : Int) < 2147483629 by decide)
  generalize (absI c % 1000000007 + 7919 * k + 1) * 48271 % 2147483629 = mixed at hm hm2 ⊢
  have step : ∀ (i : Nat) (x : Int × Int) (s : Int × Int × List Int), (enumM ss)[i]? = some x → (0 ≤ s.1 ∧ 0 ≤ s.2.1 ∧ s.2.1 < 2147483629 ∧ Bel s.2.2 (ss.take (0 + i))) → ∃ t, f_draws_b31 k great s x = some t ∧ (0 ≤ t.1 ∧ 0 ≤ t.2.1 ∧ t.2.1 < 2147483629 ∧ Bel t.2.2 (ss.take (0 + i + 1))) := by
    rintro i ⟨t, s⟩ ⟨n, m, f⟩ hi ⟨h1, h2, h3, h4⟩
    obtain ⟨s', hs, e⟩ := enumM_get hi
    cases e
    rw [Nat.zero_add] at h4 ⊢
    have hlt := (List.getElem?_eq_some_iff.mp hs).1
    have hfl : f.length < 100000 := by
      have := h4.len
      rw [List.length_take] at this
      have e : f.length = min i ss.length := this
      omega
    obtain ⟨p1, p2⟩ := h s (List.mem_of_getElem? hs)
    obtain ⟨n', m', x, e1, e2, e3, e4, e5, e6⟩ := draws_turn k great n m f (i : Int) s h1 h2 h3 p1 p2 hfl
    refine ⟨_, e1, e2, e3, e4, ?_⟩
    rw [List.take_add_one, hs]
    exact h4.snoc e5 e6
  obtain ⟨⟨n, m, f⟩, h1, h2⟩ := foldlM_inv (body := f_draws_b31 k great) (fun i (s : Int × Int × List Int) => 0 ≤ s.1 ∧ 0 ≤ s.2.1 ∧ s.2.1 < 2147483629 ∧ Bel s.2.2 (ss.take i)) (enumM ss) 0 (absI c, mixed, []) ⟨absI_nn c, hm, hm2, .nil⟩ step
  rw [h1]
  obtain ⟨_, _, _, hb⟩ := h2
  rw [enumM_len, Nat.zero_add, List.take_length] at hb
  exact ⟨f, rfl, hb⟩
end Bw

namespace Bw
open PySem L2 TL
/-! the law's names -/
def gnm (r1 m a b : Nat) : List Nat := List.replicate r1 120 ++ [97 + a, 97 + b] ++ List.replicate m 113
def gn (r1 m a b : Nat) : Str := ⟨(gnm r1 m a b).toArray⟩
def nmv (ws : List Str) (r1 r2 r3 : Int) (k : Nat) : Str := if h : k < ws.length then ws[k] else gn r1.toNat (minI r2 (6 - r1)).toNat ((r3 + k) % 26).toNat ((k : Int) / 26).toNat
theorem rep_at {x : Str} {m k : Nat} {ws : List Str} (h : k < m) : atI (ws ++ List.replicate m x) (k : Int) = some (if h : k < ws.length then ws[k] else x) := by
  have hk : k < (ws ++ List.replicate m x).length := by rw [List.length_append, List.length_replicate]; omega
  rw [atI_nn _ k hk, List.getElem_append]
  split
  · rfl
  · rw [List.getElem_replicate]
theorem names_turn (m k : Nat) (row : List Int) (ws found : List Str) (r1 r2 r3 : Int) (h1 : atI row 1 = some r1) (h2 : atI row 2 = some r2) (h3 : atI row 3 = some r3) (p1 : 0 ≤ r1) (q1 : r1 < 4) (p2 : 0 ≤ r2) (q2 : r2 < 5) (p3 : 0 ≤ r3) (q3 : r3 < 26)
    (hk : k < m) (hm : m ≤ 60) (hw : ws.length ≤ 1000) (hf : found.length < 1000) : f_names_b53 (m : Int) row abc ws found (k : Int) = some (found ++ [nmv ws r1 r2 r3 k]) := by
  unfold f_names_b53
  have hb : 0 ≤ ((k : Int) / 26) ∧ ((k : Int) / 26) < 26 := by omega
  have ha : 0 ≤ ((r3 + (k : Int)) % 26) ∧ ((r3 + (k : Int)) % 26) < 26 := by omega
  have hmin : 0 ≤ minI r2 (6 - r1) ∧ minI r2 (6 - r1) ≤ 5 := by unfold minI; split <;> omega
  rw [bo h3, bo (abc_at _ ha.1 ha.2), bo (abc_at _ hb.1 hb.2), bo (scatM_ok _ _ (by simp [tl])), bo h1, bo (srepM_ok "x" 120 (by decide) r1 p1 (by omega)), bo (scatM_ok _ _ (by simp [tl]; omega)), bo h2, bo h1, bo (srepM_ok "q" 113 (by decide) _ hmin.1 (by omega)), bo (scatM_ok _ _ (by simp [tl]; omega))]
  rw [bo (repM_one (by omega) (by omega)), bo (catM_ok (by rw [List.length_replicate]; omega))]
  rw [Int.toNat_natCast]
  rw [bo (rep_at hk), bo (appM_ok (by omega)), nmv]
  congr 4
abbrev wds : List Str := ["rooms", "gaps", "most", "boxes", "go", "swap", "box", "room", "swaps", "a", "b"]
def WsOk (ws : List Str) : Prop := ws.length ≤ 11 ∧ ws.Nodup ∧ ∀ w ∈ ws, NmOk w ∧ ((tl w).length < 2 ∨ (∀ c, (tl w).getLast? = some c → c ≠ 97 ∧ c ≠ 98 ∧ c ≠ 99 ∧ c ≠ 113))
theorem wds_ok : WsOk wds := by
  refine ⟨by decide, by decide +kernel, ?_⟩
  have h : ∀ w ∈ wds, (1 ≤ (tl w).length ∧ (tl w).length ≤ 8 ∧ (tl w).all (fun c => decide (97 ≤ c ∧ c ≤ 122)) = true) ∧ ((tl w).length < 2 ∨ ((tl w).getLast?.all fun c => decide (c ≠ 97 ∧ c ≠ 98 ∧ c ≠ 99 ∧ c ≠ 113)) = true) := by decide +kernel
  intro w hw
  obtain ⟨⟨a, b, c⟩, d⟩ := h w hw
  refine ⟨⟨a, b, fun x hx => of_decide_eq_true (List.all_eq_true.mp c x hx)⟩, ?_⟩
  rcases d with d | d
  · exact .inl d
  · refine .inr fun c hc => ?_
    rw [hc] at d
    exact of_decide_eq_true d
theorem nil_ok : WsOk [] := ⟨by decide, by decide, fun w hw => by cases hw⟩
theorem gnm_len (r1 m a b : Nat) : (gnm r1 m a b).length = r1 + 2 + m := by simp [gnm]; omega
theorem gnm_last (r1 m a b : Nat) (hb : b < 3) : ∃ c, (gnm r1 m a b).getLast? = some c ∧ (c = 97 ∨ c = 98 ∨ c = 99 ∨ c = 113) := by
  unfold gnm
  cases m with
  | zero =>
    refine ⟨97 + b, by simp, by omega⟩
  | succ m => exact ⟨113, by rw [List.replicate_succ', ← List.append_assoc, List.getLast?_append]; rfl, by omega⟩
theorem nmv_ok (ws : List Str) (hw : WsOk ws) (r1 r2 r3 : Int) (p1 : 0 ≤ r1) (q1 : r1 < 4) (p2 : 0 ≤ r2) (q2 : r2 < 5) (p3 : 0 ≤ r3) (q3 : r3 < 26) (k : Nat) (hk : k < 60) : NmOk (nmv ws r1 r2 r3 k) := by
  unfold nmv
  split
  · exact (hw.2.2 _ (List.getElem_mem _)).1
  · have hmin : 0 ≤ minI r2 (6 - r1) ∧ minI r2 (6 - r1) ≤ 6 - r1 := by unfold minI; split <;> omega
    have hb : 0 ≤ ((k : Int) / 26) ∧ ((k : Int) / 26) < 26 := by omega
    have ha : 0 ≤ ((r3 + (k : Int)) % 26) ∧ ((r3 + (k : Int)) % 26) < 26 := by omega
    refine ⟨?_, ?_, fun c hc => ?_⟩
    · show 1 ≤ (gnm _ _ _ _).length; rw [gnm_len]; omega
    · show (gnm _ _ _ _).length ≤ 8; rw [gnm_len]; omega
    · have hc : c ∈ gnm _ _ _ _ := hc
      unfold gnm at hc
      simp only [List.mem_append, List.mem_replicate, List.mem_cons, List.not_mem_nil, or_false] at hc
      omega
theorem nmv_ne (ws : List Str) (hw : WsOk ws) (r1 r2 r3 : Int) (i j : Nat) (hij : i < j) (hj : j < 60) : nmv ws r1 r2 r3 i ≠ nmv ws r1 r2 r3 j := by
  have word : ∀ (n : Nat) (hn : n < ws.length) (m k : Nat), k < 60 → ws[n] = gn r1.toNat m ((r3 + k) % 26).toNat ((k : Int) / 26).toNat → False := by
    intro n hn m k hk e
    have h1 := (hw.2.2 _ (List.getElem_mem hn)).2
    rw [e] at h1
    have e1 : tl (gn r1.toNat m ((r3 + k) % 26).toNat ((k : Int) / 26).toNat) = gnm r1.toNat m ((r3 + k) % 26).toNat ((k : Int) / 26).toNat := rfl
    rw [e1, gnm_len] at h1
    obtain ⟨c, hc, hd⟩ := gnm_last r1.toNat m ((r3 + k) % 26).toNat ((k : Int) / 26).toNat (by omega)
    rcases h1 with h1 | h1
    · omega
    · have := h1 c hc; omega
  unfold nmv
  split
  · split
    · exact List.nodup_iff_pairwise_ne.mp hw.2.1 |> fun p => List.pairwise_iff_getElem.mp p i j _ _ hij
    · rename_i h1 h2
      exact fun e => word i h1 _ j hj e
  · split
    · omega
    · intro e
      have e1 : gnm r1.toNat (minI r2 (6 - r1)).toNat ((r3 + i) % 26).toNat ((i : Int) / 26).toNat = gnm r1.toNat (minI r2 (6 - r1)).toNat ((r3 + j) % 26).toNat ((j : Int) / 26).toNat := congrArg tl e
      unfold gnm at e1
      have e2 := List.append_cancel_left (List.append_cancel_right e1)
      simp only [List.cons.injEq, and_true] at e2
      omega
theorem names_fin (m : Nat) (hm : m ≤ 60) (row : List Int) (r1 r2 r3 : Int) (h1 : atI row 1 = some r1) (h2 : atI row 2 = some r2) (h3 : atI row 3 = some r3) (p1 : 0 ≤ r1) (q1 : r1 < 4) (p2 : 0 ≤ r2) (q2 : r2 < 5) (p3 : 0 ≤ r3) (q3 : r3 < 26) (ws : List Str) (hw : WsOk ws) :
    ∃ l, ((rngM 0 (m : Int)).bind fun x51 => (x51.foldlM (f_names_b53 (m : Int) row abc ws) []).bind fun f => some f) = some l ∧ l.length = m ∧ (∀ s ∈ l, NmOk s) ∧ l.Nodup := by
  rw [bo (rngM_ok (by omega) (by omega) (by omega) (by omega))]
  obtain ⟨r, e1, e2⟩ := foldlM_inv (body := f_names_b53 (m : Int) row abc ws) (fun i (s : List Str) => s = (List.range i).map (nmv ws r1 r2 r3)) (rngL 0 m) 0 [] rfl (by
    intro k x s hx hs
    obtain ⟨hx, hk⟩ := rngL_get hx
    have hx : x = (k : Int) := by omega
    have hk : k < m := by omega
    subst hx
    rw [Nat.zero_add] at hs ⊢
    have hl : s.length = k := by rw [hs]; simp
    refine ⟨_, names_turn m k row ws s r1 r2 r3 h1 h2 h3 p1 q1 p2 q2 p3 q3 hk hm (by have := hw.1; omega) (by omega), ?_⟩
    rw [List.range_succ, List.map_append, hs]
    rfl)
  rw [bo e1]
  rw [rngL_len] at e2
  have em : 0 + ((m : Int) - 0).toNat = m := by omega
  rw [em] at e2
  refine ⟨r, rfl, by rw [e2]; simp, ?_, ?_⟩
  · intro s hs
    rw [e2] at hs
    obtain ⟨k, hk, rfl⟩ := List.mem_map.mp hs
    exact nmv_ok ws hw r1 r2 r3 p1 q1 p2 q2 p3 q3 k (by have := List.mem_range.mp hk; omega)
  · rw [e2, List.nodup_iff_pairwise_ne, List.pairwise_map]
    refine List.Pairwise.imp_of_mem (fun {a b} ha hb hab => ?_) (List.pairwise_lt_range (n := m))
    exact nmv_ne ws hw r1 r2 r3 a b hab (by have := List.mem_range.mp hb; omega)
theorem names_ok (c : Int) (m : Nat) (hm : m ≤ 60) : ∃ l, f_names (c, (m : Int)) = some l ∧ l.length = m ∧ (∀ s ∈ l, NmOk s) ∧ l.Nodup := by
  obtain ⟨row, hr, hB⟩ := draws_ok c 5 [4, 4, 5, 26] (by intro s hs; simp at hs; omega) (by simp)
  obtain ⟨r0, h0, p0, q0⟩ := hB.at (k := 0) (s := 4) rfl
  obtain ⟨r1, h1, p1, q1⟩ := hB.at (k := 1) (s := 4) rfl
  obtain ⟨r2, h2, p2, q2⟩ := hB.at (k := 2) (s := 5) rfl
  obtain ⟨r3, h3, p3, q3⟩ := hB.at (k := 3) (s := 26) rfl
  have h0 : atI row 0 = some r0 := h0
  have fin := names_fin m hm row r1 r2 r3 h1 h2 h3 p1 q1 p2 q2 p3 q3
  unfold f_names
  dsimp only
  rw [bo hr]
  simp only [letM_eq]
  rw [bo h0]
  by_cases q : r0 = 1
  · rw [if_pos (decide_eq_true q), bo rfl]
    exact fin wds wds_ok
  · rw [if_neg (by simpa using q), bo rfl]
    exact fin [] nil_ok
end Bw

namespace Bw
open PySem L2 TL
/-! the law's boxes and stores -/
structure FullOk (rooms : List Int) (n : Nat) (full : List Int) : Prop where
  mem : ∀ x ∈ full, 0 ≤ x ∧ x < n
  cnt : ∀ (b : Nat) (r : Int), rooms[b]? = some r → full.count (b : Int) ≤ r.toNat
  len : full.length ≤ 40 * n
theorem full_ok (rooms : List Int) (hr : ∀ r ∈ rooms, 1 ≤ r ∧ r ≤ 40) (hn : rooms.length ≤ 16) : ∃ full, (enumM rooms).foldlM f_boxes_b13 [] = some full ∧ FullOk rooms rooms.length full := by
  obtain ⟨r, h1, h2⟩ := foldlM_inv (body := f_boxes_b13) (fun i s => FullOk rooms i s) (enumM rooms) 0 [] ⟨fun x hx => (by cases hx), fun b r _ => by simp, by simp⟩ (by
    intro k x s hx hs
    obtain ⟨room, hk, rfl⟩ := enumM_get hx
    rw [Nat.zero_add] at hs ⊢
    have hroom := hr room (List.mem_of_getElem? hk)
    have hkl := (List.getElem?_eq_some_iff.mp hk).1
    unfold f_boxes_b13
    dsimp only
    have hlen := hs.len
    rw [bo (repM_one (by omega) (by omega)), bo (catM_ok (by rw [List.length_replicate]; omega))]
    refine ⟨_, rfl, ?_, ?_, ?_⟩
    · intro x hx
      rcases List.mem_append.mp hx with hx | hx
      · have := hs.mem x hx; omega
      · have := (List.mem_replicate.mp hx).2; omega
    · intro b r hb
      rw [List.count_append, List.count_replicate]
      split
      · rename_i e
        have e : (k : Int) = (b : Int) := by simpa using e
        have e : k = b := by omega
        subst e
        have : s.count (k : Int) = 0 := List.count_eq_zero.mpr fun hm => by have := hs.mem _ hm; omega
        rw [hk] at hb
        cases hb
        omega
      · have := hs.cnt b r hb; omega
    · rw [List.length_append, List.length_replicate]; omega)
  rw [enumM_len, Nat.zero_add] at h2
  exact ⟨r, h1, h2⟩
structure BJ (n L : Nat) (full : List Int) (nms : List Str) (k : Nat) (here there : List Int) (bs : List Bx) : Prop where
  hm : ∀ x ∈ here, 0 ≤ x ∧ x < n
  tm : ∀ x ∈ there, 0 ≤ x ∧ x < n
  hl : here.length + k = L
  tl : there.length + k = L
  bl : bs.length = k
  bn : bs.map (·.1) = nms.take k
  ba : ∀ x ∈ bs, 0 ≤ x.2.1 ∧ x.2.1 < n
  bt : ∀ x ∈ bs, 0 ≤ x.2.2 ∧ x.2.2 < n
  ca : ∀ b : Int, (bs.countP fun x => decide (x.2.1 = b)) + here.count b = full.count b
  ct : ∀ b : Int, (bs.countP fun x => decide (x.2.2 = b)) + there.count b = full.count b
theorem boxes_step {n L : Nat} {full : List Int} {nms : List Str} {k : Nat} {here there : List Int} {bs : List Bx} (J : BJ n L full nms k here there bs) {a t : Int} {here' : List Int} (ha : here.Perm (a :: here')) (ht : t ∈ there) {nm : Str} (hn : nms[k]? = some nm) : BJ n L full nms (k + 1) here' (there.erase t) (bs ++ [(nm, a, t)]) := by
  have hp := List.perm_cons_erase ht
  refine ⟨fun x hx => J.hm x (ha.mem_iff.mpr (List.mem_cons_of_mem _ hx)), fun x hx => J.tm x (List.mem_of_mem_erase hx), ?_, ?_, ?_, ?_, ?_, ?_, ?_, ?_⟩
  · have := J.hl; have := ha.length_eq; rw [List.length_cons] at this; omega
  · have := J.tl; have := hp.length_eq; rw [List.length_cons] at this; omega
  · rw [List.length_append, J.bl]; rfl
  · rw [List.map_append, J.bn, List.take_add_one, hn]; rfl
  · intro x hx
    rcases List.mem_append.mp hx with hx | hx
    · exact J.ba x hx
    · rw [List.mem_singleton.mp hx]; exact J.hm a (ha.mem_iff.mpr List.mem_cons_self)
  · intro x hx
    rcases List.mem_append.mp hx with hx | hx
    · exact J.bt x hx
    · rw [List.mem_singleton.mp hx]; exact J.tm t ht
  · intro b
    have h1 := J.ca b
    have h2 := ha.count_eq b
    rw [List.count_cons] at h2
    rw [List.countP_append, List.countP_singleton]
    by_cases e : a = b
    · subst e; simp at h2 ⊢; omega
    · simp [e] at h2 ⊢; omega
  · intro b
    have h1 := J.ct b
    have h2 := hp.count_eq b
    rw [List.count_cons] at h2
    rw [List.countP_append, List.countP_singleton]
    by_cases e : t = b
    · subst e; simp at h2 ⊢; omega
    · simp [e] at h2 ⊢; omega
theorem boxes_turn {n L : Nat} {full : List Int} {nms : List Str} {k : Nat} {here there : List Int} {bs : List Bx} (sc : List Int) (J : BJ n L full nms k here there bs) (hk : k < L) (hkn : k < nms.length) (hL : L ≤ 1000) :
    ∃ h' t' b', f_boxes_b112 sc nms (here, there, bs) (k : Int) = some (h', t', b') ∧ BJ n L full nms (k + 1) h' t' b' := by
  obtain ⟨c, hc⟩ := cell_ok sc (4 + (k : Int)) (by omega)
  have l1 := J.hl
  have l2 := J.tl
  obtain ⟨row, hr, hB⟩ := draws_ok c (4 + (k : Int)) [(here.length : Int), (there.length : Int), 5] (by intro s hs; simp at hs; omega) (by simp)
  obtain ⟨r0, h0, p0, q0⟩ := hB.at (k := 0) (s := here.length) rfl
  obtain ⟨r1, h1, p1, q1⟩ := hB.at (k := 1) (s := there.length) rfl
  obtain ⟨r2, h2, p2, q2⟩ := hB.at (k := 2) (s := 5) rfl
  have h0 : atI row 0 = some r0 := h0
  have h1 : atI row 1 = some r1 := h1
  have h2 : atI row 2 = some r2 := h2
  obtain ⟨i, rfl⟩ : ∃ i : Nat, r0 = i := ⟨r0.toNat, by omega⟩
  obtain ⟨j, rfl⟩ : ∃ j : Nat, r1 = j := ⟨r1.toNat, by omega⟩
  have hi : i < here.length := by omega
  have hj : j < there.length := by omega
  unfold f_boxes_b112
  dsimp only
  rw [bo hc, bo hr, bo h0, bo (popM_ok i hi (by omega))]
  dsimp only
  rw [bo h1, bo (atI_nn there j hj), bo h2]
  have hperm : here.Perm (here[i] :: here.eraseIdx i) := erase_perm here i hi
  have fin : ∀ t ∈ there, ∃ h' t' b', ((remM there t).bind fun there_196 => (atI nms (k : Int)).bind fun x202 => (appM bs (x202, here[i], t)).bind fun b => some (here.eraseIdx i, there_196, b)) = some (h', t', b') ∧ BJ n L full nms (k + 1) h' t' b' := by
    intro t ht
    have hbl := J.bl
    rw [bo (remM_ok ht), bo (atI_nn nms k hkn), bo (appM_ok (by omega))]
    exact ⟨_, _, _, rfl, boxes_step J hperm ht (List.getElem?_eq_getElem hkn)⟩
  by_cases q : (decide (r2 = 0) && inL here[i] there) = true
  · rw [if_pos q, bo rfl]
    have hin : here[i] ∈ there := by
      have := (Bool.and_eq_true_iff.mp q).2
      obtain ⟨y, hy, e⟩ := List.any_eq_true.mp this
      have : y = here[i] := by simpa using e
      rw [← this]; exact hy
    exact fin _ hin
  · rw [if_neg q, bo rfl]
    exact fin _ (List.getElem_mem hj)
theorem boxes_ok (sc rooms : List Int) (m : Nat) (hm : m ≤ 60) (hr : ∀ r ∈ rooms, 1 ≤ r ∧ r ≤ 40) (hn : rooms.length ≤ 16) : ∃ bs, f_boxes (sc, rooms, (m : Int)) = some bs ∧ BxOk rooms bs := by
  obtain ⟨full, hf, hF⟩ := full_ok rooms hr hn
  obtain ⟨c, hc⟩ := cell_ok sc 3 (by omega)
  obtain ⟨nms, hnm, nl, nok, nnd⟩ := names_ok c m hm
  unfold f_boxes
  dsimp only
  rw [letM_eq, bo hf, bo hc, bo hnm, letM_eq]
  have hmin : minI (m : Int) (full.length : Int) = ((min m full.length : Nat) : Int) := by unfold minI; split <;> omega
  have hfl := hF.len
  rw [hmin, bo (rngM_ok (by omega) (by omega) (by omega) (by omega))]
  obtain ⟨⟨h', t', bs⟩, e1, e2⟩ := foldlM_inv (body := f_boxes_b112 sc nms) (fun i (s : List Int × List Int × List Bx) => BJ rooms.length full.length full nms i s.1 s.2.1 s.2.2) (rngL 0 ((min m full.length : Nat) : Int)) 0 (full, full, []) ⟨hF.mem, hF.mem, by simp, by simp, rfl, rfl, fun x hx => (by cases hx), fun x hx => (by cases hx), fun b => by simp, fun b => by simp⟩ (by
    rintro k x ⟨h, t, b⟩ hx hs
    obtain ⟨hx, hk⟩ := rngL_get hx
    have hx : x = (k : Int) := by omega
    subst hx
    rw [Nat.zero_add] at hs ⊢
    obtain ⟨h', t', b', e, J⟩ := boxes_turn sc hs (by omega) (by omega) (by omega)
    exact ⟨_, e, J⟩)
  rw [bo e1]
  rw [rngL_len, Nat.zero_add] at e2
  have em : (((min m full.length : Nat) : Int) - 0).toNat = min m full.length := by omega
  rw [em] at e2
  dsimp only at e2 ⊢
  refine ⟨bs, rfl, by have := e2.bl; omega, ?_, ?_, e2.ba, e2.bt, ?_, ?_⟩
  · intro x hx
    have : x.1 ∈ bs.map (·.1) := List.mem_map.mpr ⟨x, hx, rfl⟩
    rw [e2.bn] at this
    exact nok _ (List.mem_of_mem_take this)
  · rw [e2.bn]; exact nnd.sublist (List.take_sublist _ _)
  · intro b r hb
    have := e2.ca b; have := hF.cnt b r hb; omega
  · intro b r hb
    have := e2.ct b; have := hF.cnt b r hb; omega
theorem one_plus {xs : List Int} {n : Nat} {s : Int} (h : Bel xs (List.replicate n s)) : (xs.map fun x => 1 + x).length = n ∧ ∀ x ∈ (xs.map fun x => 1 + x), 1 ≤ x ∧ x ≤ s := by
  obtain ⟨h1, h2⟩ := h.rep
  refine ⟨by rw [List.length_map, h1], fun x hx => ?_⟩
  obtain ⟨y, hy, rfl⟩ := List.mem_map.mp hx
  have := h2 y hy
  omega
theorem store_ok (sc : List Int) : ∃ s, f_store sc = some s ∧ SOk s := by
  obtain ⟨c0, hc0⟩ := cell_ok sc 0 (by omega)
  obtain ⟨c1, hc1⟩ := cell_ok sc 1 (by omega)
  obtain ⟨c2, hc2⟩ := cell_ok sc 2 (by omega)
  obtain ⟨row, hr, hB⟩ := draws_ok c0 0 [15, 6, 4, 20, 4, 61, 12] (by intro s hs; simp at hs; omega) (by simp)
  obtain ⟨r0, h0, p0, q0⟩ := hB.at (k := 0) (s := 15) rfl
  obtain ⟨r1, h1, p1, q1⟩ := hB.at (k := 1) (s := 6) rfl
  obtain ⟨r2, h2, p2, q2⟩ := hB.at (k := 2) (s := 4) rfl
  obtain ⟨r3, h3, p3, q3⟩ := hB.at (k := 3) (s := 20) rfl
  obtain ⟨r4, h4, p4, q4⟩ := hB.at (k := 4) (s := 4) rfl
  obtain ⟨r5, h5, p5, q5⟩ := hB.at (k := 5) (s := 61) rfl
  obtain ⟨r6, h6, p6, q6⟩ := hB.at (k := 6) (s := 12) rfl
  have h0 : atI row 0 = some r0 := h0
  have h1 : atI row 1 = some r1 := h1
  have h2 : atI row 2 = some r2 := h2
  have h3 : atI row 3 = some r3 := h3
  have h4 : atI row 4 = some r4 := h4
  have h5 : atI row 5 = some r5 := h5
  have h6 : atI row 6 = some r6 := h6
  have hwide : ∃ w, atI [(1 : Int), 3, 40, 6] r2 = some w ∧ 1 ≤ w ∧ w ≤ 40 := by
    obtain ⟨w, e, _⟩ := atI_int [(1 : Int), 3, 40, 6] r2 p2 q2
    refine ⟨w, e, ?_⟩
    have := atI_mem e
    simp at this
    omega
  have hfar : ∃ w, atI [(5 : Int), 1000000000] (b2I (decide (r4 = 1))) = some w ∧ 1 ≤ w ∧ w ≤ 1000000000 := by
    obtain ⟨w, e, _⟩ := atI_int [(5 : Int), 1000000000] (b2I (decide (r4 = 1))) (by unfold b2I; split <;> omega) (by unfold b2I; simp; split <;> omega)
    refine ⟨w, e, ?_⟩
    have := atI_mem e
    simp at this
    omega
  have hmost : ∃ w, atI [(1 : Int), 2, 3, 1 + r3] r4 = some w ∧ 1 ≤ w ∧ w ≤ 20 := by
    obtain ⟨w, e, _⟩ := atI_int [(1 : Int), 2, 3, 1 + r3] r4 p4 q4
    refine ⟨w, e, ?_⟩
    have := atI_mem e
    simp at this
    omega
  have hbm : ∃ w, atI [r5, r6] (b2I (decide ((1 : Int) < r1))) = some w ∧ 0 ≤ w ∧ w ≤ 60 := by
    obtain ⟨w, e, _⟩ := atI_int [r5, r6] (b2I (decide ((1 : Int) < r1))) (by unfold b2I; split <;> omega) (by unfold b2I; simp; split <;> omega)
    refine ⟨w, e, ?_⟩
    have := atI_mem e
    simp at this
    omega
  obtain ⟨wide, ew, w1, w2⟩ := hwide
  obtain ⟨far, ef, f1, f2⟩ := hfar
  obtain ⟨most, em, m1, m2⟩ := hmost
  obtain ⟨bm, eb, b1, b2⟩ := hbm
  have hmany : ∃ many : Nat, (if decide ((0 : Int) < r1) = true then (atI row 0).bind fun x140 => letM (2 + x140 % 4) fun m => some m else some (2 + r0)) = some (many : Int) ∧ 2 ≤ many ∧ many ≤ 16 := by
    by_cases q : (0 : Int) < r1
    · rw [if_pos (decide_eq_true q), bo h0, letM_eq]
      exact ⟨(2 + r0 % 4).toNat, congrArg some (by omega), by omega, by omega⟩
    · rw [if_neg (by simpa using q)]
      exact ⟨(2 + r0).toNat, congrArg some (by omega), by omega, by omega⟩
  obtain ⟨many, eM, M1, M2⟩ := hmany
  obtain ⟨ra, era, Bra⟩ := draws_ok c1 1 (List.replicate many wide) (by intro s hs; have := (List.mem_replicate.mp hs).2; omega) (by rw [List.length_replicate]; omega)
  obtain ⟨ga, ega, Bga⟩ := draws_ok c2 2 (List.replicate (many - 1) far) (by intro s hs; have := (List.mem_replicate.mp hs).2; omega) (by rw [List.length_replicate]; omega)
  have R := one_plus Bra
  have G := one_plus Bga
  obtain ⟨rl, _⟩ := Bra.rep
  obtain ⟨gl, _⟩ := Bga.rep
  obtain ⟨m, rfl⟩ : ∃ m : Nat, bm = m := ⟨bm.toNat, by omega⟩
  obtain ⟨bs, ebs, B⟩ := boxes_ok sc (ra.map fun x => 1 + x) m (by omega) (fun r hr => by have := R.2 r hr; omega) (by rw [R.1]; omega)
  have e1 : ((many : Int) - 1).toNat = many - 1 := by omega
  unfold f_store
  rw [bo hc0, bo hr, bo h0, letM_eq, bo h1, bo eM, bo h2, bo ew, bo hc1, bo (repM_one (by omega) (by omega)), Int.toNat_natCast, bo era, bo (mapC_ok (by rw [rl]; omega)), bo h4, bo ef, bo hc2, bo (repM_one (by omega) (by omega)), e1, bo ega, bo (mapC_ok (by rw [gl]; omega)), bo h3, bo h4, bo em, bo h5, bo h6, bo h1, bo eb, bo ebs]
  refine ⟨_, rfl, ?_, ?_, ?_, ?_, ?_, ⟨m1, m2⟩, B⟩
  · show 2 ≤ (ra.map fun x => 1 + x).length; rw [R.1]; exact M1
  · show (ra.map fun x => 1 + x).length ≤ 16; rw [R.1]; exact M2
  · intro r hr; have := R.2 r hr; omega
  · show (ga.map fun x => 1 + x).length + 1 = (ra.map fun x => 1 + x).length; rw [R.1, G.1]; omega
  · intro g hg; have := G.2 g hg; omega
end Bw

namespace Bw
open PySem L2 TL
/-! texts: lengths, joins -/
theorem log2_small {n : Nat} (h : n < 2 ^ 64) : n.log2 < 1920 := by
  by_cases h0 : n = 0
  · subst h0; decide
  · exact (Nat.log2_lt h0).mpr (Nat.lt_of_lt_of_le h (Nat.pow_le_pow_right (by decide) (by decide)))
theorem joinL_len (S : List Nat) : ∀ ps : List (List Nat), (joinL S ps).length ≤ (ps.map List.length).sum + S.length * ps.length
  | [] => by simp [joinL]
  | [p] => by simp [joinL]
  | p :: q :: ps => by
    have h := joinL_len S (q :: ps)
    simp only [joinL, List.length_append, List.map_cons, List.sum_cons, List.length_cons, Nat.mul_add, Nat.mul_one] at h ⊢
    omega
theorem join_len (x : Str) (xs : List Str) : (Txt.join x xs).length ≤ (xs.map (·.length)).sum + x.length * xs.length := by
  rw [join_eq, len_tl, tl_join]
  have h := joinL_len (tl x) (xs.map tl)
  rw [List.map_map, List.length_map] at h
  have e : xs.map (·.length) = xs.map (List.length ∘ tl) := List.map_congr_left fun s _ => by rw [len_tl]; rfl
  rw [e, len_tl]
  exact h
theorem sum_le (n : Nat) : ∀ {xs : List Str}, (∀ x ∈ xs, x.length ≤ n) → (xs.map (·.length)).sum ≤ n * xs.length
  | [], _ => by simp
  | x :: xs, h => by
    have h1 := sum_le n fun y hy => h y (List.mem_cons_of_mem _ hy)
    have h2 := h x List.mem_cons_self
    simp only [List.map_cons, List.sum_cons, List.length_cons, Nat.mul_add, Nat.mul_one]
    omega
/-- the text of a number -/
def nt (n : Int) : Str := Str.ofString (toString n)
theorem nt_len {n : Int} (h0 : 0 ≤ n) (h : n ≤ 1000000000) : (nt n).length ≤ 10 := PyProof.Rows.toString_length_le h0 (by decide) (by omega)
theorem strM_ok {n : Int} (h0 : 0 ≤ n) (h : n ≤ 1000000000) : strM n = some (nt n) := by unfold strM; rw [if_pos (log2_small (by omega))]; rfl
theorem scat_ok {x y : Str} (h : x.length + y.length ≤ 100000) : scatM x y = some (x ++ y) := by unfold scatM; rw [if_pos h]
theorem app_len (x y : Str) : (x ++ y).length = x.length + y.length := by rw [len_tl, tl_append, List.length_append, ← len_tl, ← len_tl]
theorem join_ok {x : Str} {xs : List Str} (h : (xs.map (·.length)).sum + x.length * xs.length ≤ 100000) : joinM x xs = some (Txt.join x xs) := by unfold joinM; rw [if_pos h]
theorem join_few {x : Str} {xs : List Str} {n : Nat} (h : ∀ y ∈ xs, y.length ≤ n) (hn : (n + x.length) * xs.length ≤ 100000) : joinM x xs = some (Txt.join x xs) ∧ (Txt.join x xs).length ≤ (n + x.length) * xs.length := by
  have := sum_le n h
  have e : (n + x.length) * xs.length = n * xs.length + x.length * xs.length := Nat.add_mul _ _ _
  exact ⟨join_ok (by omega), Nat.le_trans (join_len x xs) (by omega)⟩
theorem joinL_cons (S p : List Nat) : ∀ ps : List (List Nat), joinL S (p :: ps) = p ++ (ps.map (S ++ ·)).flatten
  | [] => by simp [joinL]
  | q :: ps => by
    show p ++ (S ++ joinL S (q :: ps)) = _
    rw [joinL_cons S q ps]
    simp
theorem tl_join_cons (S x : Str) (xs : List Str) : tl (Txt.join S (x :: xs)) = tl x ++ (xs.map fun y => tl S ++ tl y).flatten := by
  rw [join_eq, tl_join, List.map_cons, joinL_cons, List.map_map]
  rfl
theorem empty_app (x : Str) : Str.empty ++ x = x := ext_tl (by rw [tl_append]; rfl)
/-- " ".join of a word and words is the word, a blank, and the words joined -/
theorem join_front (S x : Str) {xs : List Str} (h : xs ≠ []) : Txt.join S (x :: xs) = x ++ S ++ Txt.join S xs := by
  cases xs with
  | nil => exact absurd rfl h
  | cons y ys =>
    apply ext_tl
    rw [tl_append, tl_append, tl_join_cons, tl_join_cons]
    simp
end Bw

namespace Bw
open PySem L2 TL
/-! the text of a store -/
theorem lc_nums {ns : List Int} (h : ∀ n ∈ ns, 0 ≤ n ∧ n ≤ 1000000000) {f : Int → Option (Option Str)} (hf : ∀ n, f n = (strM n).bind fun t => some (some t)) (hl : ns.length ≤ 1000) : lcC f ns = some (ns.map nt) := by
  rw [lcC_ok (by omega)]
  exact lcM_all fun n hn => by rw [hf, bo (strM_ok (h n hn).1 (h n hn).2)]
def boxT (b : Bx) : Str := b.1 ++ (" " : Str) ++ nt b.2.1 ++ (" " : Str) ++ nt b.2.2
def storeT (s : Sto) : Str := Txt.join "; " [("rooms " : Str) ++ Txt.join " " (s.1.map nt), ("gaps " : Str) ++ Txt.join " " (s.2.1.map nt), ("most " : Str) ++ nt s.2.2.1, Txt.join " " ((["boxes"] : List Str) ++ s.2.2.2.map boxT)]
theorem l_blank : (" " : Str).length = 1 := by decide +kernel
theorem nums_joined {ns : List Int} (h : ∀ n ∈ ns, 0 ≤ n ∧ n ≤ 1000000000) (hl : ns.length ≤ 100) : joinM " " (ns.map nt) = some (Txt.join " " (ns.map nt)) ∧ (Txt.join " " (ns.map nt)).length ≤ 11 * ns.length := by
  obtain ⟨a, b⟩ := join_few (x := " ") (xs := ns.map nt) (n := 10) (fun y hy => by
    obtain ⟨n, hn, rfl⟩ := List.mem_map.mp hy
    exact nt_len (h n hn).1 (h n hn).2) (by rw [l_blank, List.length_map]; omega)
  rw [l_blank, List.length_map] at b
  exact ⟨a, b⟩
theorem boxT_len {rooms : List Int} {bs : List Bx} (h : BxOk rooms bs) (hr : rooms.length ≤ 16) : ∀ b ∈ bs, 0 ≤ b.2.1 ∧ b.2.1 ≤ 1000000000 ∧ 0 ≤ b.2.2 ∧ b.2.2 ≤ 1000000000 ∧ b.1.length ≤ 8 ∧ (boxT b).length ≤ 30 := by
  intro b hb
  have h1 := h.ba b hb
  have h2 := h.bt b hb
  have h3 := (h.nm b hb).2.1
  rw [← len_tl] at h3
  have h4 := nt_len h1.1 (show b.2.1 ≤ 1000000000 by omega)
  have h5 := nt_len h2.1 (show b.2.2 ≤ 1000000000 by omega)
  refine ⟨h1.1, by omega, h2.1, by omega, h3, ?_⟩
  unfold boxT
  rw [app_len, app_len, app_len, app_len, l_blank]
  omega
theorem numbers_text_ok {ns : List Int} (h : ∀ n ∈ ns, 0 ≤ n ∧ n ≤ 1000000000) (hl : ns.length ≤ 100) : f_numbers_text ns = some (Txt.join " " (ns.map nt)) := by
  unfold f_numbers_text
  rw [bo (lc_nums h (fun n => rfl) (by omega)), bo (nums_joined h hl).1]
theorem l_rooms : ("rooms " : Str).length = 6 := by decide +kernel
theorem l_gaps : ("gaps " : Str).length = 5 := by decide +kernel
theorem l_most : ("most " : Str).length = 5 := by decide +kernel
theorem l_boxes : ("boxes" : Str).length = 5 := by decide +kernel
theorem l_semi : ("; " : Str).length = 2 := by decide +kernel
theorem boxes_joined {s : Sto} (h : SOk s) : joinM " " ((["boxes"] : List Str) ++ s.2.2.2.map boxT) = some (Txt.join " " ((["boxes"] : List Str) ++ s.2.2.2.map boxT)) ∧ (Txt.join " " ((["boxes"] : List Str) ++ s.2.2.2.map boxT)).length ≤ 31 * 61 := by
  have hb := boxT_len h.bx h.n16
  have hl := h.bx.len
  obtain ⟨a, b⟩ := join_few (x := " ") (xs := (["boxes"] : List Str) ++ s.2.2.2.map boxT) (n := 30) (fun y hy => by
    rcases List.mem_append.mp hy with hy | hy
    · rw [List.mem_singleton.mp hy, l_boxes]; omega
    · obtain ⟨x, hx, rfl⟩ := List.mem_map.mp hy
      exact (hb x hx).2.2.2.2.2) (by rw [l_blank, List.length_append, List.length_map, List.length_singleton]; omega)
  rw [l_blank, List.length_append, List.length_map, List.length_singleton] at b
  exact ⟨a, by omega⟩
theorem rm_big {s : Sto} (h : SOk s) : ∀ n ∈ s.1, 0 ≤ n ∧ n ≤ 1000000000 := fun n hn => by have := h.rm n hn; omega
theorem gp_big {s : Sto} (h : SOk s) : ∀ n ∈ s.2.1, 0 ≤ n ∧ n ≤ 1000000000 := fun n hn => by have := h.gm n hn; omega
theorem show_ok {s : Sto} (h : SOk s) : f_show_store s = some (storeT s) := by
  have hb := boxT_len h.bx h.n16
  have hl := h.bx.len
  obtain ⟨n1, n2⟩ := nums_joined (rm_big h) (by have := h.n16; omega)
  obtain ⟨g1, g2⟩ := nums_joined (gp_big h) (by have := h.n16; have := h.gl; omega)
  obtain ⟨b1, b2⟩ := boxes_joined h
  have m1 := h.mo
  have m2 := nt_len (n := s.2.2.1) (by omega) (by omega)
  have hn16 := h.n16
  have hgl := h.gl
  unfold f_show_store
  dsimp only
  rw [bo (look_ok h), bo (show lcC _ s.2.2.2 = some (s.2.2.2.map boxT) from by
    rw [lcC_ok (by omega)]
    exact lcM_all fun b hb' => by
      obtain ⟨x1, x2, x3, x4, x5, x6⟩ := hb b hb'
      obtain ⟨nm, a, t⟩ := b
      dsimp only at x1 x2 x3 x4 x5
      have y1 := nt_len x1 x2
      have y2 := nt_len x3 x4
      dsimp only
      rw [bo (show lenS nm = some _ from by unfold lenS; rw [if_pos (by omega)]), bo (strM_ok x1 x2), bo (strM_ok x3 x4), bo (scat_ok (x := Str.empty) (y := nm) (by rw [show Str.empty.length = 0 from rfl]; omega)), empty_app, bo (scat_ok (by rw [l_blank]; omega)),
        bo (scat_ok (by rw [app_len, l_blank]; omega)), bo (scat_ok (by rw [app_len, app_len, l_blank]; omega)), bo (scat_ok (by rw [app_len, app_len, app_len, l_blank]; omega))]
      rfl), bo (catM_ok (by rw [List.length_map, List.length_singleton]; omega)), bo (numbers_text_ok (rm_big h) (by omega)), bo (scat_ok (by rw [l_rooms]; omega)), bo (numbers_text_ok (gp_big h) (by omega)), bo (scat_ok (by rw [l_gaps]; omega)),
    bo (strM_ok (by omega) (by omega)), bo (scat_ok (x := Str.empty) (y := "most ") (by rw [l_most]; show 0 + 5 ≤ 100000; omega)), empty_app, bo (scat_ok (by rw [l_most]; omega)), bo b1, letM_eq,
    bo (join_ok (x := "; ") (by simp only [List.map_cons, List.map_nil, List.sum_cons, List.sum_nil, List.length_cons, List.length_nil, app_len, l_rooms, l_gaps, l_most, l_semi]; omega))]
  rfl
/-! .. as the law writes it -/
def triT (b : Bx) : List Str := [b.1, nt b.2.1, nt b.2.2]
theorem fold_tri {rooms : List Int} : ∀ (bs : List Bx) (words : List Str), (∀ b ∈ bs, 0 ≤ b.2.1 ∧ b.2.1 ≤ 1000000000 ∧ 0 ≤ b.2.2 ∧ b.2.2 ≤ 1000000000) → words.length + 3 * bs.length ≤ 100000 → bs.foldlM f_written_b28 words = some (words ++ bs.flatMap triT)
  | [], words, _, _ => by simp
  | b :: bs, words, h, hl => by
    simp only [List.length_cons] at hl
    obtain ⟨h1, h2, h3, h4⟩ := h b List.mem_cons_self
    rw [List.foldlM_cons]
    have e : f_written_b28 words b = some (words ++ triT b) := by
      obtain ⟨nm, a, t⟩ := b
      unfold f_written_b28
      dsimp only at h1 h2 h3 h4 ⊢
      rw [bo (strM_ok h1 h2), bo (strM_ok h3 h4), bo (catM_ok (by simp only [List.length_cons, List.length_nil]; omega))]
      rfl
    rw [e]
    show bs.foldlM f_written_b28 (words ++ triT b) = _
    rw [fold_tri (rooms := rooms) bs _ (fun x hx => h x (List.mem_cons_of_mem _ hx)) (by rw [List.length_append, show (triT b).length = 3 from rfl]; omega)]
    simp
theorem tri_join (bs : List Bx) : Txt.join " " ((["boxes"] : List Str) ++ bs.flatMap triT) = Txt.join " " ((["boxes"] : List Str) ++ bs.map boxT) := by
  apply ext_tl
  show tl (Txt.join " " (("boxes" : Str) :: bs.flatMap triT)) = tl (Txt.join " " (("boxes" : Str) :: bs.map boxT))
  rw [tl_join_cons, tl_join_cons]
  congr 1
  induction bs with
  | nil => rfl
  | cons b bs ih =>
    simp only [List.flatMap_cons, List.map_append, List.flatten_append, List.map_cons, List.flatten_cons]
    rw [ih]
    congr 1
    unfold triT boxT
    simp only [List.map_cons, List.map_nil, List.flatten_cons, List.flatten_nil, tl_append, List.append_nil, List.append_assoc]
theorem tri_sum {rooms : List Int} {bs : List Bx} (h : BxOk rooms bs) (hr : rooms.length ≤ 16) : ∀ w ∈ bs.flatMap triT, w.length ≤ 10 := by
  intro w hw
  obtain ⟨b, hb, hw⟩ := List.mem_flatMap.mp hw
  obtain ⟨x1, x2, x3, x4, x5, x6⟩ := boxT_len h hr b hb
  unfold triT at hw
  simp only [List.mem_cons, List.not_mem_nil, or_false] at hw
  rcases hw with rfl | rfl | rfl
  · omega
  · exact nt_len x1 x2
  · exact nt_len x3 x4
theorem w_rooms (w w2 : Str) (e : w ++ (" " : Str) = w2) {ns : List Int} (hn : ns ≠ []) : Txt.join " " ([w] ++ ns.map nt) = w2 ++ Txt.join " " (ns.map nt) := by
  show Txt.join " " (w :: ns.map nt) = _
  rw [join_front " " w (by simpa using hn), e]
theorem written_ok {s : Sto} (h : SOk s) : f_written s = some (storeT s) := by
  have hb := boxT_len h.bx h.n16
  have hl := h.bx.len
  obtain ⟨n1, n2⟩ := nums_joined (rm_big h) (by have := h.n16; omega)
  obtain ⟨g1, g2⟩ := nums_joined (gp_big h) (by have := h.n16; have := h.gl; omega)
  obtain ⟨b1, b2⟩ := boxes_joined h
  have m1 := h.mo
  have m2 := nt_len (n := s.2.2.1) (by omega) (by omega)
  have hn16 := h.n16
  have hn2 := h.n2
  have hgl := h.gl
  have lw : ("rooms" : Str).length = 5 := by decide +kernel
  have lg : ("gaps" : Str).length = 4 := by decide +kernel
  have e1 : (s.1 : List Int) ≠ [] := by intro z; rw [z] at hn2; simp at hn2
  have e2 : (s.2.1 : List Int) ≠ [] := by intro z; rw [z] at hgl; simp at hgl; omega
  have ft : (s.2.2.2.flatMap triT).length = 3 * s.2.2.2.length := by
    rw [List.length_flatMap]
    generalize s.2.2.2 = bs
    induction bs with
    | nil => rfl
    | cons b bs ih => rw [List.map_cons, List.sum_cons, ih, List.length_cons, show (triT b).length = 3 from rfl]; omega
  have j1 := (join_few (x := " ") (xs := (["rooms"] : List Str) ++ s.1.map nt) (n := 10) (fun y hy => by
    rcases List.mem_append.mp hy with hy | hy
    · rw [List.mem_singleton.mp hy, lw]; omega
    · obtain ⟨x, hx, rfl⟩ := List.mem_map.mp hy
      exact nt_len (rm_big h x hx).1 (rm_big h x hx).2) (by rw [l_blank, List.length_append, List.length_map, List.length_singleton]; omega)).1
  have j2 := (join_few (x := " ") (xs := (["gaps"] : List Str) ++ s.2.1.map nt) (n := 10) (fun y hy => by
    rcases List.mem_append.mp hy with hy | hy
    · rw [List.mem_singleton.mp hy, lg]; omega
    · obtain ⟨x, hx, rfl⟩ := List.mem_map.mp hy
      exact nt_len (gp_big h x hx).1 (gp_big h x hx).2) (by rw [l_blank, List.length_append, List.length_map, List.length_singleton]; omega)).1
  have j3 := (join_few (x := " ") (xs := (["boxes"] : List Str) ++ s.2.2.2.flatMap triT) (n := 10) (fun y hy => by
    rcases List.mem_append.mp hy with hy | hy
    · rw [List.mem_singleton.mp hy, l_boxes]; omega
    · exact tri_sum h.bx hn16 y hy) (by rw [l_blank, List.length_append, ft, List.length_singleton]; omega)).1
  unfold f_written
  rw [letM_eq, letM_eq, bo (fold_tri (rooms := s.1) s.2.2.2 (["boxes"] : List Str) (fun b hb' => by obtain ⟨x1, x2, x3, x4, _⟩ := hb b hb'; exact ⟨x1, x2, x3, x4⟩) (by rw [List.length_singleton]; omega)), bo (lc_nums (rm_big h) (fun n => rfl) (by omega)),
    bo (catM_ok (by rw [List.length_map, List.length_singleton]; omega)), bo j1, bo (lc_nums (gp_big h) (fun n => rfl) (by omega)), bo (catM_ok (by rw [List.length_map, List.length_singleton]; omega)), bo j2, letM_eq, bo (strM_ok (by omega) (by omega)), bo (scat_ok (by rw [l_most]; omega)), bo j3,
    bo (catM_ok (by simp only [List.length_cons, List.length_nil]; omega)), tri_join, w_rooms "rooms" "rooms " (by decide +kernel) e1, w_rooms "gaps" "gaps " (by decide +kernel) e2]
  rw [bo (join_ok (x := "; ") (by
    simp only [List.cons_append, List.nil_append, List.map_cons, List.map_nil, List.sum_cons, List.sum_nil, List.length_cons, List.length_nil, app_len, l_rooms, l_gaps, l_most, l_semi]
    simp only [List.cons_append, List.nil_append] at b2
    omega))]
  rfl
end Bw

namespace Bw
open PySem L2 TL
theorem bx_rev {rooms : List Int} {bs : List Bx} (h : BxOk rooms bs) : BxOk rooms bs.reverse where
  len := by rw [List.length_reverse]; exact h.len
  nm := fun x hx => h.nm x (List.mem_reverse.mp hx)
  nd := by rw [List.map_reverse]; exact (List.reverse_perm _).nodup_iff.mpr h.nd
  ba := fun x hx => h.ba x (List.mem_reverse.mp hx)
  bt := fun x hx => h.bt x (List.mem_reverse.mp hx)
  ra := fun b r e => by rw [List.countP_reverse]; exact h.ra b r e
  rt := fun b r e => by rw [List.countP_reverse]; exact h.rt b r e
theorem bx_nil (rooms : List Int) : BxOk rooms [] := ⟨by simp, by simp, by simp, by simp, by simp, by simp, by simp⟩
theorem law_true (ns : List Int) (h : ns.length ≤ 63) : f_law ns = some true := by
  obtain ⟨s, hs, S⟩ := store_ok ns
  obtain ⟨rooms, gaps, most, bs⟩ := s
  unfold f_law
  rw [bo hs]
  simp only [letM_eq]
  have hg : gaps.length + 1 = rooms.length := S.gl
  have h16 : rooms.length ≤ 16 := S.n16
  have h2 : 2 ≤ rooms.length := S.n2
  have cg : cutL gaps (some 1) none = gaps.drop 1 := by
    unfold cutL
    have e1 : HT.sIx gaps.length 0 (some 1) = 1 := by unfold HT.sIx; simp; omega
    have e2 : HT.sIx gaps.length gaps.length none = gaps.length := rfl
    rw [e1, e2]
    exact List.take_of_length_le (by rw [List.length_drop]; exact Nat.le_refl _)
  rw [cg, bo (catM_ok (by rw [List.length_drop, List.length_singleton]; omega))]
  have good : ∀ (b : List Bx) (g : List Int), BxOk rooms b → g.length = gaps.length → (∀ x ∈ g, 1 ≤ x ∧ x ≤ 1000000000) → SOk (rooms, g, most, b) := fun b g hb hl hg' => ⟨h2, h16, S.rm, by show g.length + 1 = rooms.length; omega, hg', S.mo, hb⟩
  have hlg : ([1000000000] ++ gaps.drop 1 : List Int).length = gaps.length := by rw [List.length_append, List.length_drop, List.length_singleton]; omega
  have hmg : ∀ x ∈ ([1000000000] ++ gaps.drop 1 : List Int), 1 ≤ x ∧ x ≤ 1000000000 := fun x hx => by
    rcases List.mem_append.mp hx with hx | hx
    · rw [List.mem_singleton.mp hx]; decide
    · exact S.gm x (List.mem_of_mem_drop hx)
  refine Rt.eq ?_
  rw [rt_bind]
  refine rt_for (fun _ => True) trivial (fun x hx u _ => ?_) fun _ _ => ?_
  · have ok : SOk (rooms, x.2, most, x.1) := by
      simp only [List.mem_cons, List.not_mem_nil, or_false] at hx
      rcases hx with rfl | rfl | rfl | rfl | rfl
      · exact good _ _ S.bx rfl S.gm
      · exact good _ _ (bx_rev S.bx) rfl S.gm
      · exact good _ _ (bx_nil rooms) rfl S.gm
      · exact good _ _ S.bx hlg hmg
      · exact good _ _ S.bx (by rw [List.length_reverse]; exact hlg) fun z hz => hmg z (List.mem_reverse.mp hz)
    obtain ⟨b, g⟩ := x
    unfold f_law_b36
    dsimp only at ok ⊢
    have e1 : (!decide (storeT (rooms, g, most, b) = storeT (rooms, g, most, b))) = false := by simp
    rw [letM_eq, bo (show_ok ok), if_neg (by decide), bo (written_ok ok), e1, if_neg (by decide), bo (eqT_self (shp_store ok) (by decide))]
    exact ⟨_, rfl, (), rfl, trivial⟩
  · show Rt ((f_show_store (rooms, gaps, most, bs)).bind _) _
    rw [bo (show_ok S), bo (written_ok S)]
    exact rt_some.mpr (decide_eq_true rfl)
end Bw

set_option maxHeartbeats 0
namespace Bw
open PySem L2
def de0 : He.DefD := ⟨("is_whole", none), "is_whole", "is_whole", defArgs s_is_whole, defBody s_is_whole, defScope s_is_whole, [], []⟩
def de1 : He.DefD := ⟨("is_within", none), "is_within", "is_within", defArgs s_is_within, defBody s_is_within, defScope s_is_within, [], []⟩
def de2 : He.DefD := ⟨("is_name", none), "is_name", "is_name", defArgs s_is_name, defBody s_is_name, defScope s_is_name, [], []⟩
def de3 : He.DefD := ⟨("are_within", none), "are_within", "are_within", defArgs s_are_within, defBody s_are_within, defScope s_are_within, [], []⟩
def de4 : He.DefD := ⟨("is_box", none), "is_box", "is_box", defArgs s_is_box, defBody s_is_box, defScope s_is_box, [], []⟩
def de5 : He.DefD := ⟨("has_names_twice", none), "has_names_twice", "has_names_twice", defArgs s_has_names_twice, defBody s_has_names_twice, defScope s_has_names_twice, [], []⟩
def de6 : He.DefD := ⟨("has_room", none), "has_room", "has_room", defArgs s_has_room, defBody s_has_room, defScope s_has_room, [], []⟩
def de7 : He.DefD := ⟨("are_boxes", none), "are_boxes", "are_boxes", defArgs s_are_boxes, defBody s_are_boxes, defScope s_are_boxes, [], []⟩
def de8 : He.DefD := ⟨("look_at_store", none), "look_at_store", "look_at_store", defArgs s_look_at_store, defBody s_look_at_store, defScope s_look_at_store, [], []⟩
def de9 : He.DefD := ⟨("numbers_text", none), "numbers_text", "numbers_text", defArgs s_numbers_text, defBody s_numbers_text, defScope s_numbers_text, [], []⟩
def de10 : He.DefD := ⟨("show_store", none), "show_store", "show_store", defArgs s_show_store, defBody s_show_store, defScope s_show_store, [], []⟩
def de11 : He.DefD := ⟨("_law_cell", none), "_law_cell", "_law_cell", defArgs s_cell, defBody s_cell, defScope s_cell, [], []⟩
def de12 : He.DefD := ⟨("_law_draws", none), "_law_draws", "_law_draws", defArgs s_draws, defBody s_draws, defScope s_draws, [], []⟩
def de13 : He.DefD := ⟨("_law_names", none), "_law_names", "_law_names", defArgs s_names, defBody s_names, defScope s_names, [], []⟩
def de14 : He.DefD := ⟨("_law_boxes", none), "_law_boxes", "_law_boxes", defArgs s_boxes, defBody s_boxes, defScope s_boxes, [], []⟩
def de15 : He.DefD := ⟨("_law_store", none), "_law_store", "_law_store", defArgs s_store, defBody s_store, defScope s_store, [], []⟩
def de16 : He.DefD := ⟨("_law_written", none), "_law_written", "_law_written", defArgs s_written, defBody s_written, defScope s_written, [], []⟩
def de17 : He.DefD := ⟨("law", none), "law", "law", defArgs s_law, defBody s_law, defScope s_law, [], []⟩
def fnL : List He.DefD := [de0, de1, de2, de3, de4, de5, de6, de7, de8, de9, de10, de11, de12, de13, de14, de15, de16, de17]
def faL : List He.Fa := [.glo "is_whole", .glo "is_within", .glo "is_name", .glo "are_within", .glo "is_box", .glo "has_names_twice", .glo "has_room", .glo "are_boxes", .glo "look_at_store", .glo "numbers_text", .glo "show_store", .glo "_law_cell", .glo "_law_draws", .glo "_law_names", .glo "_law_boxes", .glo "_law_store", .glo "_law_written", .glo "law", .free "abs", .free "all", .free "bool", .free "enumerate", .free "int", .free "isinstance", .free "len", .free "list", .free "min", .free "range", .free "set", .free "str", .free "tuple", .int "FARTHEST" 1000000000, .int "FEWEST_BAYS" 2, .str "LETTERS" "abcdefghijklmnopqrstuvwxyz", .int "LONGEST" 8, .int "MOST_BAYS" 16, .int "MOST_BOXES" 60, .int "MOST_LOAD" 20, .int "MOST_ROOM" 40]
def lo0 : List Str := ["CartError", "NoStore", "LETTERS", "LONGEST", "is_whole", "is_within", "is_name", "FEWEST_BAYS", "MOST_BAYS", "MOST_ROOM", "FARTHEST", "MOST_LOAD", "MOST_BOXES", "are_within", "is_box", "has_names_twice", "has_room", "are_boxes", "look_at_store", "numbers_text", "show_store", "_law_cell", "_law_draws", "_law_names", "_law_boxes", "_law_store", "_law_written"]
def looseL : List Str := lo0
abbrev RowL : PySem.W.OpenRow := PySem.W.OpenLaw.row PySem.Challenge.rw_baycart_k05_stores_shown
abbrev hkL : PySem.W.Hook := He.hookD 4 faL fnL
def obL (s : PySem.W.SharedT) : He.AlD := He.obsDG 4 faL fnL (HandSHeadRun.getT s)
theorem obL_eq (s : PySem.W.SharedT) : obL s = hkL.obs s.abs := He.obsDG_eq (HandSHeadRun.getT_eq s)
theorem runL (w : World) : HandSHeadRun.RunEq RowL (PySem.W.view RowL.prog [32]) hkL obL 20000 looseL w := by
  intro os
  kernel_rfl
theorem all_ok {P : Program} {w : World} {K : PySem.W.Frag} {h : Heap} {mg : Str → Option Value} {base : Heap} (X : K.In h) (G : h.Ns mainGlobals mg) (c : He.SaysD faL fnL K) : Ok P w K mg base 7 "law" ["_law_script"] (sp_law K) := by
  have m_abs : mg "abs" = none := He.free_ok X G (c.fact 18 (f := .free "abs") rfl)
  have m_all : mg "all" = none := He.free_ok X G (c.fact 19 (f := .free "all") rfl)
  have m_bool : mg "bool" = none := He.free_ok X G (c.fact 20 (f := .free "bool") rfl)
  have m_enumerate : mg "enumerate" = none := He.free_ok X G (c.fact 21 (f := .free "enumerate") rfl)
  have m_int : mg "int" = none := He.free_ok X G (c.fact 22 (f := .free "int") rfl)
  have m_isinstance : mg "isinstance" = none := He.free_ok X G (c.fact 23 (f := .free "isinstance") rfl)
  have m_len : mg "len" = none := He.free_ok X G (c.fact 24 (f := .free "len") rfl)
  have m_list : mg "list" = none := He.free_ok X G (c.fact 25 (f := .free "list") rfl)
  have m_min : mg "min" = none := He.free_ok X G (c.fact 26 (f := .free "min") rfl)
  have m_range : mg "range" = none := He.free_ok X G (c.fact 27 (f := .free "range") rfl)
  have m_set : mg "set" = none := He.free_ok X G (c.fact 28 (f := .free "set") rfl)
  have m_str : mg "str" = none := He.free_ok X G (c.fact 29 (f := .free "str") rfl)
  have m_tuple : mg "tuple" = none := He.free_ok X G (c.fact 30 (f := .free "tuple") rfl)
  have c_FARTHEST : ∃ t, mg "FARTHEST" = some (.int 1000000000 t) := He.int_ok X G (c.fact 31 (f := .int "FARTHEST" 1000000000) rfl)
  have c_FEWEST_BAYS : ∃ t, mg "FEWEST_BAYS" = some (.int 2 t) := He.int_ok X G (c.fact 32 (f := .int "FEWEST_BAYS" 2) rfl)
  have c_LETTERS : ∃ t, mg "LETTERS" = some (.str "abcdefghijklmnopqrstuvwxyz" t) := He.str_ok X G (c.fact 33 (f := .str "LETTERS" "abcdefghijklmnopqrstuvwxyz") rfl)
  have c_LONGEST : ∃ t, mg "LONGEST" = some (.int 8 t) := He.int_ok X G (c.fact 34 (f := .int "LONGEST" 8) rfl)
  have c_MOST_BAYS : ∃ t, mg "MOST_BAYS" = some (.int 16 t) := He.int_ok X G (c.fact 35 (f := .int "MOST_BAYS" 16) rfl)
  have c_MOST_BOXES : ∃ t, mg "MOST_BOXES" = some (.int 60 t) := He.int_ok X G (c.fact 36 (f := .int "MOST_BOXES" 60) rfl)
  have c_MOST_LOAD : ∃ t, mg "MOST_LOAD" = some (.int 20 t) := He.int_ok X G (c.fact 37 (f := .int "MOST_LOAD" 20) rfl)
  have c_MOST_ROOM : ∃ t, mg "MOST_ROOM" = some (.int 40 t) := He.int_ok X G (c.fact 38 (f := .int "MOST_ROOM" 40) rfl)
  have d_is_whole : Df K mg "is_whole" s_is_whole := ⟨c.def_ 0 (d := de0) rfl, He.glo_ok X G (c.fact 0 (f := .glo "is_whole") rfl)⟩
  have d_is_within : Df K mg "is_within" s_is_within := ⟨c.def_ 1 (d := de1) rfl, He.glo_ok X G (c.fact 1 (f := .glo "is_within") rfl)⟩
  have d_is_name : Df K mg "is_name" s_is_name := ⟨c.def_ 2 (d := de2) rfl, He.glo_ok X G (c.fact 2 (f := .glo "is_name") rfl)⟩
  have d_are_within : Df K mg "are_within" s_are_within := ⟨c.def_ 3 (d := de3) rfl, He.glo_ok X G (c.fact 3 (f := .glo "are_within") rfl)⟩
  have d_is_box : Df K mg "is_box" s_is_box := ⟨c.def_ 4 (d := de4) rfl, He.glo_ok X G (c.fact 4 (f := .glo "is_box") rfl)⟩
  have d_has_names_twice : Df K mg "has_names_twice" s_has_names_twice := ⟨c.def_ 5 (d := de5) rfl, He.glo_ok X G (c.fact 5 (f := .glo "has_names_twice") rfl)⟩
  have d_has_room : Df K mg "has_room" s_has_room := ⟨c.def_ 6 (d := de6) rfl, He.glo_ok X G (c.fact 6 (f := .glo "has_room") rfl)⟩
  have d_are_boxes : Df K mg "are_boxes" s_are_boxes := ⟨c.def_ 7 (d := de7) rfl, He.glo_ok X G (c.fact 7 (f := .glo "are_boxes") rfl)⟩
  have d_look_at_store : Df K mg "look_at_store" s_look_at_store := ⟨c.def_ 8 (d := de8) rfl, He.glo_ok X G (c.fact 8 (f := .glo "look_at_store") rfl)⟩
  have d_numbers_text : Df K mg "numbers_text" s_numbers_text := ⟨c.def_ 9 (d := de9) rfl, He.glo_ok X G (c.fact 9 (f := .glo "numbers_text") rfl)⟩
  have d_show_store : Df K mg "show_store" s_show_store := ⟨c.def_ 10 (d := de10) rfl, He.glo_ok X G (c.fact 10 (f := .glo "show_store") rfl)⟩
  have d_cell : Df K mg "_law_cell" s_cell := ⟨c.def_ 11 (d := de11) rfl, He.glo_ok X G (c.fact 11 (f := .glo "_law_cell") rfl)⟩
  have d_draws : Df K mg "_law_draws" s_draws := ⟨c.def_ 12 (d := de12) rfl, He.glo_ok X G (c.fact 12 (f := .glo "_law_draws") rfl)⟩
  have d_names : Df K mg "_law_names" s_names := ⟨c.def_ 13 (d := de13) rfl, He.glo_ok X G (c.fact 13 (f := .glo "_law_names") rfl)⟩
  have d_boxes : Df K mg "_law_boxes" s_boxes := ⟨c.def_ 14 (d := de14) rfl, He.glo_ok X G (c.fact 14 (f := .glo "_law_boxes") rfl)⟩
  have d_store : Df K mg "_law_store" s_store := ⟨c.def_ 15 (d := de15) rfl, He.glo_ok X G (c.fact 15 (f := .glo "_law_store") rfl)⟩
  have d_written : Df K mg "_law_written" s_written := ⟨c.def_ 16 (d := de16) rfl, He.glo_ok X G (c.fact 16 (f := .glo "_law_written") rfl)⟩
  have d_law : Df K mg "law" s_law := ⟨c.def_ 17 (d := de17) rfl, He.glo_ok X G (c.fact 17 (f := .glo "law") rfl)⟩
  have o_draws := ok_draws (P := P) (w := w) (base := base) d_draws m_abs m_enumerate
  have o_names := ok_names (P := P) (w := w) (base := base) d_names m_min m_range o_draws
  have o_cell := ok_cell (P := P) (w := w) (base := base) d_cell m_len
  have o_boxes := ok_boxes (P := P) (w := w) (base := base) d_boxes m_enumerate m_len m_list m_min m_range o_draws o_cell o_names
  have o_store := ok_store (P := P) (w := w) (base := base) d_store m_int o_boxes o_draws o_cell
  have o_is_whole := ok_is_whole (P := P) (w := w) (base := base) d_is_whole m_bool m_int m_isinstance
  have o_is_within := ok_is_within (P := P) (w := w) (base := base) d_is_within o_is_whole
  have o_has_names_twice := ok_has_names_twice (P := P) (w := w) (base := base) d_has_names_twice m_len m_set
  have o_has_room := ok_has_room (P := P) (w := w) (base := base) d_has_room m_enumerate m_len
  have o_is_name := ok_is_name (P := P) (w := w) (base := base) d_is_name m_all m_isinstance m_len m_str c_LETTERS c_LONGEST
  have o_is_box := ok_is_box (P := P) (w := w) (base := base) d_is_box m_isinstance m_len m_tuple o_is_within o_is_name
  have o_are_boxes := ok_are_boxes (P := P) (w := w) (base := base) d_are_boxes m_all m_isinstance m_len m_list c_MOST_BOXES o_has_room o_is_box o_has_names_twice
  have o_are_within := ok_are_within (P := P) (w := w) (base := base) d_are_within m_all m_isinstance m_list o_is_within
  have o_look_at_store := ok_look_at_store (P := P) (w := w) (base := base) d_look_at_store m_isinstance m_len m_tuple c_FARTHEST c_FEWEST_BAYS c_MOST_BAYS c_MOST_LOAD c_MOST_ROOM o_are_boxes o_is_within o_are_within
  have o_numbers_text := ok_numbers_text (P := P) (w := w) (base := base) d_numbers_text m_str
  have o_show_store := ok_show_store (P := P) (w := w) (base := base) d_show_store o_numbers_text o_look_at_store
  have o_written := ok_written (P := P) (w := w) (base := base) d_written m_str
  have o_law := ok_law (P := P) (w := w) (base := base) d_law m_isinstance m_list m_str o_show_store o_written o_store
  exact o_law
end Bw
open PySem PySem.W PySem.Calls PyProof.Rows
theorem PySem.Challenge.cw_baycart_k05_stores_shown_holds : PySem.Challenge.rw_baycart_k05_stores_shown.Holds := by
  w_on; o_law
  refine HandSHeadRun.head_any (r := Bw.RowL) (q := view Bw.RowL.prog [32]) (H := Bw.hkL) (ob := Bw.obL) (M := 20000) (loose := Bw.looseL) (d := HandSHeadRun.topDef Bw.RowL.prog 32) (kwd := []) Bw.obL_eq
    (by kernel_rfl) (fun s => by kernel_rfl) Bw.runL (by kernel_rfl) (by kernel_rfl) (by kernel_rfl) (by rfl) (by first | assumption | decide +kernel) (by decide +kernel) ⟨rfl, rfl, rfl, rfl, rfl, by decide +kernel⟩ ?hw ?hc
  case hw => w_witness2
  case hc =>
    refine L2.walk_ofE (l := PySem.Challenge.rw_baycart_k05_stores_shown) (n := 63) (k := 7) (x := "_law_script") (CX := L2.CX0) rfl (by decide) (by kernel_rfl) ⟨rfl, by decide, by decide⟩ ?F (fun _ _ _ _ z => z)
    intro w mg fa h Y G hmg0
    obtain ⟨K, KX, c⟩ := Y
    have hmg : mg ("law" : PySem.Str) = some (.ref fa) := by
      have e : (HandSHeadRun.topDef Bw.RowL.prog 32).name = ("law" : PySem.Str) := by kernel_rfl
      rw [← e]
      exact hmg0
    have ok0 : ∀ base : Heap, Bw.Ok (PySem.Challenge.rw_baycart_k05_stores_shown).prog w K mg base 7 "law" ["_law_script"] (Bw.sp_law K) := fun base => Bw.all_ok KX G c
    have ef : fa = He.ga K "law" := by
      have q := hmg.symm.trans (ok0 h).gm
      injection q with q
      injection q
    obtain ⟨fd, FF⟩ := c.def_ 17 (d := Bw.de17) rfl
    have bnd : ∀ (s : Shared) (u : Value), BindsTo s fd ⟨[u], []⟩ [("_law_script", u)] := fun s u => (L2.FunD.bindsA (ps := ["_law_script"]) FF fun _ _ _ _ _ _ us hl => match us, hl with | [_], _ => rfl) s [u] rfl
    refine ⟨K, fd, Bw.sp_law K, KX, bnd, fun H a ns hl _ hS => ⟨H, [], ns, true, .cons (.lst hS (Bw.Dts.of_ints ns)) .nil, Bw.sta0, Bw.law_true ns hl, fun v F2 H2 _ _ hv => hv.toBl⟩, fun base hb1 hb2 => ?_⟩
    obtain ⟨⟨fd2, F2, _, lk⟩, _, _⟩ := ok0 base
    rw [ef, (Bw.lk_of FF).one lk]
    exact F2
