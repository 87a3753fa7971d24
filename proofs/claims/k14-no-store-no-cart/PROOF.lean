import PyProof.Rows.All
import KE.KTupTabMore
import HandS.SortKw
import Wide.All
import OpenK.AllK
import Wide.FinOn
import HandS.ForMost
import HandS.IsInst
import HandS.Zip
import HandS.FStr
import HandS.Flow
import HandS.Style
import HandS.Defaults
import HandS.HeadHook2
import HandS.Strs
import HandS.SetFor
import KE.KStateDown
import HandS.Head0
import HandS.Head1
import HandS.Head2
import HandS.TupAny
import HandS.Sort
import HandS.SortInts
import HandS.TryOnly
import KE.KDictItemsList
import KE.KDictZip
import HandS.ExcValue
import HandS.ExcInit
import HandS.TryElse
import KE.KExcIs
import KE.KTryMore
import HandS.HeadEnd
import HandS.HeadHook1
import HandS.ExcField
import HandS.Walk
import HandS.Conv
import HandS.Deep
import PySem.Challenge.RW_baycart_k14_no_store_no_cart
set_option Elab.async false
set_option linter.all false
set_option maxRecDepth 100000
set_option maxHeartbeats 8000000
set_option synthInstance.maxHeartbeats 400000
set_option synthInstance.maxSize 2000

namespace Bw
open PySem L2

/-! the state: F what stands for good, cs the objects that may change -/
abbrev Cs := List (Addr × HO)
def Gr (F F' : Hp) : Prop := ∀ a o, F a = some o → F' a = some o
theorem Gr.rfl {F : Hp} : Gr F F := fun _ _ h => h
theorem Gr.tr {F F1 F2 : Hp} (a : Gr F F1) (b : Gr F1 F2) : Gr F F2 := fun x o h => b x o (a x o h)
theorem Gr.new {F : Hp} {p : Addr} {o : HO} (h : F p = none) : Gr F (upd F p o) := fun a u e => by
  rw [upd_ne (ne_of_none e h)]; exact e
structure Sta (F : Hp) (cs : Cs) (H : Hp) : Prop where
  fr : Gr F H
  sep : ∀ p ∈ cs, F p.1 = none
  has : ∀ p ∈ cs, H p.1 = some p.2
  nd : (cs.map (·.1)).Nodup
theorem Gr.back {F F' : Hp} {p : Addr} (e : Gr F F') (h : F' p = none) : F p = none := by
  cases h1 : F p with
  | none => rfl
  | some o => rw [e p o h1] at h; cases h
/-- a new thing that stays -/
theorem Sta.lay {F : Hp} {cs : Cs} {H : Hp} {p : Addr} {o : HO} (s : Sta F cs H) (h : H p = none) : Sta (upd F p o) cs (upd H p o) where
  fr := fun a u e => by
    by_cases q : a = p
    · subst q; rw [upd_same] at e ⊢; exact e
    · rw [upd_ne q] at e ⊢; exact s.fr a u e
  sep := fun c hc => by
    have q : c.1 ≠ p := fun z => by have := s.has c hc; rw [z, h] at this; cases this
    rw [upd_ne q]; exact s.sep c hc
  has := fun c hc => by
    have q : c.1 ≠ p := fun z => by have := s.has c hc; rw [z, h] at this; cases this
    rw [upd_ne q]; exact s.has c hc
  nd := s.nd
/-- a new thing that may change -/
theorem Sta.cell {F : Hp} {cs : Cs} {H : Hp} {p : Addr} {o : HO} (s : Sta F cs H) (h : H p = none) : Sta F ((p, o) :: cs) (upd H p o) where
  fr := fun a u e => by
    have q : a ≠ p := ne_of_none (s.fr a u e) h
    rw [upd_ne q]; exact s.fr a u e
  sep := fun c hc => by
    rcases List.mem_cons.mp hc with rfl | hc
    · exact s.fr.back h
    · exact s.sep c hc
  has := fun c hc => by
    rcases List.mem_cons.mp hc with rfl | hc
    · exact upd_same
    · have q : c.1 ≠ p := fun z => by have := s.has c hc; rw [z, h] at this; cases this
      rw [upd_ne q]; exact s.has c hc
  nd := by
    rw [List.map_cons, List.nodup_cons]
    refine ⟨fun hm => ?_, s.nd⟩
    obtain ⟨c, hc, e⟩ := List.mem_map.mp hm
    have := s.has c hc
    rw [e, h] at this; cases this
/-- the first changing thing is changed -/
theorem Sta.put {F : Hp} {cs : Cs} {H : Hp} {p : Addr} {o o' : HO} (s : Sta F ((p, o) :: cs) H) : Sta F ((p, o') :: cs) (upd H p o') where
  fr := fun a u e => by
    have q : a ≠ p := fun z => by have := s.sep (p, o) List.mem_cons_self; subst z; rw [e] at this; cases this
    rw [upd_ne q]; exact s.fr a u e
  sep := fun c hc => by
    rcases List.mem_cons.mp hc with rfl | hc
    · exact s.sep (p, o) List.mem_cons_self
    · exact s.sep c (List.mem_cons_of_mem _ hc)
  has := fun c hc => by
    rcases List.mem_cons.mp hc with rfl | hc
    · exact upd_same
    · have nd := s.nd
      rw [List.map_cons, List.nodup_cons] at nd
      have q : c.1 ≠ p := fun z => nd.1 (List.mem_map.mpr ⟨c, hc, z⟩)
      rw [upd_ne q]; exact s.has c (List.mem_cons_of_mem _ hc)
  nd := s.nd
/-- the order of the changing things is free -/
theorem Sta.perm {F : Hp} {cs cs' : Cs} {H : Hp} (s : Sta F cs H) (p : cs.Perm cs') : Sta F cs' H where
  fr := s.fr
  sep := fun c hc => s.sep c (p.mem_iff.mpr hc)
  has := fun c hc => s.has c (p.mem_iff.mpr hc)
  nd := (p.map (·.1)).nodup_iff.mp s.nd
theorem Sta.at {F : Hp} {cs : Cs} {H : Hp} {p : Addr} {o : HO} (s : Sta F cs H) (m : (p, o) ∈ cs) : H p = some o := s.has _ m
/-- the first changing thing changes no more -/
theorem Sta.froze {F : Hp} {cs : Cs} {H : Hp} {p : Addr} {o : HO} (s : Sta F ((p, o) :: cs) H) : Sta (upd F p o) cs H where
  fr := fun a u e => by
    by_cases q : a = p
    · subst q; rw [upd_same] at e; rw [← e]; exact s.has (a, o) List.mem_cons_self
    · rw [upd_ne q] at e; exact s.fr a u e
  sep := fun c hc => by
    have nd := s.nd
    rw [List.map_cons, List.nodup_cons] at nd
    have q : c.1 ≠ p := fun z => nd.1 (List.mem_map.mpr ⟨c, hc, z⟩)
    rw [upd_ne q]; exact s.sep c (List.mem_cons_of_mem _ hc)
  has := fun c hc => s.has c (List.mem_cons_of_mem _ hc)
  nd := by
    have nd := s.nd
    rw [List.map_cons, List.nodup_cons] at nd
    exact nd.2
theorem Sta.free {F : Hp} {cs : Cs} {H : Hp} {p : Addr} {o : HO} (s : Sta F ((p, o) :: cs) H) : F p = none := s.sep (p, o) List.mem_cons_self
theorem Sta.gfr {F : Hp} {cs : Cs} {H : Hp} {p : Addr} {o : HO} (s : Sta F ((p, o) :: cs) H) : Gr F (upd F p o) := Gr.new s.free


theorem mem_mid {α : Type} {l1 l2 : List α} {a : α} : a ∈ l1 ++ a :: l2 := by simp
/-- a changing thing is changed -/
theorem Sta.putAt {F : Hp} {l1 l2 : Cs} {H : Hp} {p : Addr} {o o' : HO} (s : Sta F (l1 ++ (p, o) :: l2) H) : Sta F (l1 ++ (p, o') :: l2) (upd H p o') :=
  ((s.perm List.perm_middle).put (o' := o')).perm List.perm_middle.symm
theorem Sta.frozeAt {F : Hp} {l1 l2 : Cs} {H : Hp} {p : Addr} {o : HO} (s : Sta F (l1 ++ (p, o) :: l2) H) : Sta (upd F p o) (l1 ++ l2) H := (s.perm List.perm_middle).froze
theorem Sta.freeAt {F : Hp} {l1 l2 : Cs} {H : Hp} {p : Addr} {o : HO} (s : Sta F (l1 ++ (p, o) :: l2) H) : F p = none := s.sep (p, o) mem_mid
theorem Sta.getAt {F : Hp} {l1 l2 : Cs} {H : Hp} {p : Addr} {o : HO} (s : Sta F (l1 ++ (p, o) :: l2) H) : H p = some o := s.has (p, o) mem_mid
theorem Gr.upd2 {F F' : Hp} {p : Addr} {o : HO} (g : Gr F F') : Gr (upd F p o) (upd F' p o) := fun a u e => by
  by_cases q : a = p
  · subst q; rw [upd_same] at e ⊢; exact e
  · rw [upd_ne q] at e ⊢; exact g a u e
def cut (F : Hp) (p : Addr) : Hp := fun a => if a = p then none else F a
theorem cut_same {F : Hp} {p : Addr} : cut F p p = none := by unfold cut; rw [if_pos rfl]
theorem cut_ne {F : Hp} {p a : Addr} (h : a ≠ p) : cut F p a = F a := by unfold cut; rw [if_neg h]
/-- what was lent comes back -/
theorem Sta.lent {F F2 : Hp} {l1 l2 : Cs} {H2 : Hp} {p : Addr} {o : HO} (g : Gr (upd F p o) F2) (s : Sta F2 (l1 ++ l2) H2) : Sta (cut F2 p) (l1 ++ (p, o) :: l2) H2 := by
  have hp : F2 p = some o := g p o upd_same
  have hn : ∀ c ∈ l1 ++ l2, c.1 ≠ p := fun c hc z => by
    have := s.sep c hc
    rw [z, hp] at this; cases this
  refine Sta.perm (cs := (p, o) :: (l1 ++ l2)) ⟨fun a u e => ?_, fun c hc => ?_, fun c hc => ?_, ?_⟩ List.perm_middle.symm
  · have q : a ≠ p := fun z => by rw [z, cut_same] at e; cases e
    rw [cut_ne q] at e; exact s.fr a u e
  · rcases List.mem_cons.mp hc with rfl | hc
    · exact cut_same
    · rw [cut_ne (hn c hc)]; exact s.sep c hc
  · rcases List.mem_cons.mp hc with rfl | hc
    · exact s.fr p o hp
    · exact s.has c hc
  · rw [List.map_cons, List.nodup_cons]
    refine ⟨fun hm => ?_, s.nd⟩
    obtain ⟨c, hc, e⟩ := List.mem_map.mp hm
    exact hn c hc e
theorem gr_cut {F F2 : Hp} {p : Addr} {o : HO} (h : F p = none) (g : Gr (upd F p o) F2) : Gr F (cut F2 p) := fun a u e => by
  have q : a ≠ p := ne_of_none e h
  rw [cut_ne q]
  exact g a u (by rw [upd_ne q]; exact e)

/-! data -/
mutual
inductive Dt (K : PySem.W.Frag) (F : Hp) : V → PyData → Prop
  | non : Dt K F .non .none
  | bl (b : Bool) : Dt K F (.bl b) (.bool b)
  | int (i : Int) : Dt K F (.int i) (.int i)
  | str (x : Str) : Dt K F (.str x) (.str x)
  | lst {a : Addr} {xs : List V} {ds : List PyData} : SqL K F a xs → Dts K F xs ds → Dt K F (.ref a) (.list ds)
  | tup {a : Addr} {xs : List V} {ds : List PyData} : SqT K F a xs → Dts K F xs ds → Dt K F (.ref a) (.tuple ds)
  | dct {a : Addr} {kvs : List (Key × V)} : F a = some (.dK kvs) → Dt K F (.ref a) (.dict [])
inductive Dts (K : PySem.W.Frag) (F : Hp) : List V → List PyData → Prop
  | nil : Dts K F [] []
  | cons {v : V} {vs : List V} {d : PyData} {ds : List PyData} : Dt K F v d → Dts K F vs ds → Dts K F (v :: vs) (d :: ds)
end
section
variable {K : PySem.W.Frag} {F F' H : Hp}
theorem gr_R {a : Addr} {u : HO} (e : Gr F F') (h : Rd F a u) : Rd F' a u := by
  rcases h with h | ⟨o, h⟩
  · exact .inl (e a _ h)
  · exact .inr ⟨o, e a _ h⟩
theorem gr_T {a : Addr} {xs : List V} (e : Gr F F') (h : SqT K F a xs) : SqT K F' a xs := by
  rcases h with h | h
  · exact .inl (gr_R e h)
  · exact .inr h
theorem gr_L {a : Addr} {xs : List V} (e : Gr F F') (h : SqL K F a xs) : SqL K F' a xs := by
  rcases h with h | h
  · exact .inl (gr_R e h)
  · exact .inr h
theorem rd_L {a : Addr} {xs : List V} (h : Rd F a (.lst xs)) : SqL K F a xs := .inl h
mutual
theorem Dt.gr (e : Gr F F') : ∀ {v : V} {d : PyData}, Dt K F v d → Dt K F' v d
  | _, _, .non => .non
  | _, _, .bl b => .bl b
  | _, _, .int i => .int i
  | _, _, .str x => .str x
  | _, _, .lst h a => .lst (gr_L e h) (Dts.gr e a)
  | _, _, .tup h a => .tup (gr_T e h) (Dts.gr e a)
  | _, _, .dct h => .dct (e _ _ h)
theorem Dts.gr (e : Gr F F') : ∀ {vs : List V} {ds : List PyData}, Dts K F vs ds → Dts K F' vs ds
  | _, _, .nil => .nil
  | _, _, .cons h t => .cons (Dt.gr e h) (Dts.gr e t)
end
theorem Dt.toInt {v : V} {i : Int} (h : Dt K F v (.int i)) : v = .int i := by cases h; rfl
theorem Dt.toStr {v : V} {x : Str} (h : Dt K F v (.str x)) : v = .str x := by cases h; rfl
theorem Dt.toBl {v : V} {b : Bool} (h : Dt K F v (.bool b)) : v = .bl b := by cases h; rfl
theorem Dt.toNon {v : V} (h : Dt K F v .none) : v = .non := by cases h; rfl
theorem Dt.toLst {v : V} {ds : List PyData} (h : Dt K F v (.list ds)) : ∃ a vs, v = .ref a ∧ SqL K F a vs ∧ Dts K F vs ds := by
  cases h with | lst h a => exact ⟨_, _, rfl, h, a⟩
theorem Dt.toTup {v : V} {ds : List PyData} (h : Dt K F v (.tuple ds)) : ∃ a vs, v = .ref a ∧ SqT K F a vs ∧ Dts K F vs ds := by
  cases h with | tup h a => exact ⟨_, _, rfl, h, a⟩
theorem Dts.len : ∀ {vs : List V} {ds : List PyData}, Dts K F vs ds → vs.length = ds.length
  | _, _, .nil => rfl
  | _, _, .cons _ t => by simp [Dts.len t]
theorem Dts.get : ∀ {vs : List V} {ds : List PyData} {i : Nat} {v : V}, Dts K F vs ds → vs[i]? = some v → ∃ d, ds[i]? = some d ∧ Dt K F v d
  | _, _, _, _, .nil, e => by simp at e
  | _, _, 0, _, .cons h _, e => by simp at e; subst e; exact ⟨_, rfl, h⟩
  | _, _, i + 1, v, .cons _ t, e => by
    obtain ⟨d, h1, h2⟩ := Dts.get (i := i) (v := v) t (by simpa using e)
    exact ⟨d, by simpa using h1, h2⟩
theorem Dts.get2 : ∀ {vs : List V} {ds : List PyData} {i : Nat} {d : PyData}, Dts K F vs ds → ds[i]? = some d → ∃ v, vs[i]? = some v ∧ Dt K F v d
  | _, _, _, _, .nil, e => by simp at e
  | _, _, 0, _, .cons h _, e => by simp at e; subst e; exact ⟨_, rfl, h⟩
  | _, _, i + 1, d, .cons _ t, e => by
    obtain ⟨v, h1, h2⟩ := Dts.get2 (i := i) (d := d) t (by simpa using e)
    exact ⟨v, by simpa using h1, h2⟩
theorem Dts.app : ∀ {vs ws : List V} {ds es : List PyData}, Dts K F vs ds → Dts K F ws es → Dts K F (vs ++ ws) (ds ++ es)
  | _, _, _, _, .nil, s => s
  | _, _, _, _, .cons h t, s => .cons h (Dts.app t s)
theorem Dts.drop : ∀ {vs : List V} {ds : List PyData} (n : Nat), Dts K F vs ds → Dts K F (vs.drop n) (ds.drop n)
  | _, _, 0, h => h
  | _, _, _ + 1, .nil => .nil
  | _, _, n + 1, .cons _ t => Dts.drop n t
theorem Dts.take : ∀ {vs : List V} {ds : List PyData} (n : Nat), Dts K F vs ds → Dts K F (vs.take n) (ds.take n)
  | _, _, 0, _ => .nil
  | _, _, _ + 1, .nil => .nil
  | _, _, n + 1, .cons h t => .cons h (Dts.take n t)
theorem Dts.setAt : ∀ {vs : List V} {ds : List PyData} {v : V} {d : PyData} (n : Nat), Dts K F vs ds → Dt K F v d → Dts K F (vs.set n v) (ds.set n d)
  | _, _, _, _, _, .nil, _ => .nil
  | _, _, _, _, 0, .cons _ t, k => .cons k t
  | _, _, _, _, n + 1, .cons h t, k => .cons h (Dts.setAt n t k)
theorem Dts.rep {vs : List V} {ds : List PyData} (h : Dts K F vs ds) : ∀ n : Nat, Dts K F (List.replicate n vs).flatten (List.replicate n ds).flatten
  | 0 => .nil
  | n + 1 => by rw [List.replicate_succ, List.replicate_succ, List.flatten_cons, List.flatten_cons]; exact h.app (Dts.rep h n)
theorem Dts.hd {vs : List V} {d : PyData} {ds : List PyData} (h : Dts K F vs (d :: ds)) : ∃ v ws, vs = v :: ws ∧ Dt K F v d ∧ Dts K F ws ds := by
  cases h with | cons h t => exact ⟨_, _, rfl, h, t⟩
theorem Dts.no {vs : List V} (h : Dts K F vs []) : vs = [] := by cases h; rfl
theorem Dts.one {vs : List V} {d : PyData} (h : Dts K F vs [d]) : ∃ v, vs = [v] ∧ Dt K F v d := by
  cases h with | cons h t => cases t; exact ⟨_, rfl, h⟩
theorem Dts.two {vs : List V} {d e : PyData} (h : Dts K F vs [d, e]) : ∃ v w, vs = [v, w] ∧ Dt K F v d ∧ Dt K F w e := by
  cases h with | cons h t => obtain ⟨w, rfl, k⟩ := t.one; exact ⟨_, _, rfl, h, k⟩
theorem Dts.three {vs : List V} {d e f : PyData} (h : Dts K F vs [d, e, f]) : ∃ v w z, vs = [v, w, z] ∧ Dt K F v d ∧ Dt K F w e ∧ Dt K F z f := by
  cases h with | cons h t => obtain ⟨w, z, rfl, k, l⟩ := t.two; exact ⟨_, _, _, rfl, h, k, l⟩
theorem Dts.four {vs : List V} {d e f g : PyData} (h : Dts K F vs [d, e, f, g]) : ∃ v w z y, vs = [v, w, z, y] ∧ Dt K F v d ∧ Dt K F w e ∧ Dt K F z f ∧ Dt K F y g := by
  cases h with | cons h t => obtain ⟨w, z, y, rfl, k, l, m⟩ := t.three; exact ⟨_, _, _, _, rfl, h, k, l, m⟩
theorem Dts.ints : ∀ {xs : List Int} {vs : List V}, Dts K F vs (xs.map .int) → vs = xs.map V.int
  | [], _, h => by cases h; rfl
  | x :: xs, _, h => by
    cases h with | cons h t => rw [h.toInt, Dts.ints t]; rfl
theorem Dts.bls : ∀ {xs : List Bool} {vs : List V}, Dts K F vs (xs.map .bool) → vs = xs.map V.bl
  | [], _, h => by cases h; rfl
  | x :: xs, _, h => by
    cases h with | cons h t => rw [h.toBl, Dts.bls t]; rfl
theorem Dts.strs : ∀ {xs : List Str} {vs : List V}, Dts K F vs (xs.map .str) → vs = xs.map V.str
  | [], _, h => by cases h; rfl
  | x :: xs, _, h => by
    cases h with | cons h t => rw [h.toStr, Dts.strs t]; rfl
theorem Dts.of_ints : ∀ xs : List Int, Dts K F (xs.map V.int) (xs.map .int)
  | [] => .nil
  | x :: xs => .cons (.int x) (Dts.of_ints xs)
theorem Dts.of_strs : ∀ xs : List Str, Dts K F (xs.map V.str) (xs.map .str)
  | [] => .nil
  | x :: xs => .cons (.str x) (Dts.of_strs xs)
theorem Dts.of_bls : ∀ xs : List Bool, Dts K F (xs.map V.bl) (xs.map .bool)
  | [] => .nil
  | x :: xs => .cons (.bl x) (Dts.of_bls xs)
mutual
theorem Dt.dp : ∀ {v : V} {d : PyData}, Dt K F v d → d.canLay0 = true → Dp K F v d
  | _, _, .non, _ => .non
  | _, _, .bl b, _ => .bl b
  | _, _, .int i, _ => .int i
  | _, _, .str x, _ => .str x
  | _, _, .lst h a, z => .lst h (Dts.dp a (by simpa [PyData.canLay0] using z))
  | _, _, .tup h a, z => .tup h (Dts.dp a (by simpa [PyData.canLay0] using z))
  | _, _, .dct h, z => by simp [PyData.canLay0] at z
theorem Dts.dp : ∀ {vs : List V} {ds : List PyData}, Dts K F vs ds → PyData.canLayAll0 ds = true → DpAll K F vs ds
  | _, _, .nil, _ => .nil
  | _, _, .cons h t, z => by
    rw [PyData.canLayAll0, Bool.and_eq_true] at z
    exact .cons (Dt.dp h z.1) (Dts.dp t z.2)
end
end
end Bw

namespace Bw
open PySem L2
/-! codes -/
abbrev eI : Int → PyData := PyData.int
abbrev eB : Bool → PyData := PyData.bool
abbrev eS : Str → PyData := PyData.str
abbrev eN : Unit → PyData := fun _ => PyData.none
abbrev eD : PyData → PyData := fun d => d
abbrev eL {α : Type} (e : α → PyData) (xs : List α) : PyData := .list (xs.map e)
abbrev eT1 {α : Type} (e : α → PyData) (x : α) : PyData := .tuple [e x]
abbrev eT2 {α β : Type} (e : α → PyData) (f : β → PyData) (x : α × β) : PyData := .tuple [e x.1, f x.2]
abbrev eT3 {α β γ : Type} (e : α → PyData) (f : β → PyData) (g : γ → PyData) (x : α × β × γ) : PyData := .tuple [e x.1, f x.2.1, g x.2.2]
abbrev eT4 {α β γ δ : Type} (e : α → PyData) (f : β → PyData) (g : γ → PyData) (h : δ → PyData) (x : α × β × γ × δ) : PyData := .tuple [e x.1, f x.2.1, g x.2.2.1, h x.2.2.2]
def eO {α : Type} (e : α → PyData) : Option α → PyData
  | none => .none
  | some x => e x
def oV {α : Type} (f : α → V) : Option α → V
  | none => .non
  | some x => f x
/-! what may fail -/
def mulM (a b : Int) : Option Int := if (-(2 ^ 64) < a ∧ a < 2 ^ 64) ∨ (-(2 ^ 64) < b ∧ b < 2 ^ 64) then some (a * b) else none
def modM (a b : Int) : Option Int := if 0 < b then some (a % b) else none
def fdivM (a b : Int) : Option Int := if 0 < b ∧ b < 1073741824 then some (a / b) else none
def powM (a b : Int) : Option Int := if 0 ≤ b ∧ b ≤ 1000000 ∧ a.natAbs < 2 ^ 64 then some (a ^ b.toNat) else none
def appM {α : Type} (xs : List α) (x : α) : Option (List α) := if xs.length < 100000 then some (xs ++ [x]) else none
def catM {α : Type} (xs ys : List α) : Option (List α) := if xs.length + ys.length ≤ 100000 then some (xs ++ ys) else none
def repM {α : Type} (xs : List α) (k : Int) : Option (List α) := if -(2 ^ 63) ≤ k ∧ k < 2 ^ 63 ∧ xs.length * k.toNat ≤ 100000 then some (List.replicate k.toNat xs).flatten else none
def scatM (x y : Str) : Option Str := if x.length + y.length ≤ 100000 then some (x ++ y) else none
def lenS (x : Str) : Option Int := if x.length ≤ 100000 then some (x.length : Int) else none
def ixS (x : Str) (i : Int) : Option Str := if x.length ≤ 100000 then (atI x.cps.toList i).map (fun c => ⟨#[c]⟩) else none
def cutL {α : Type} (xs : List α) (lo hi : Option Int) : List α := (xs.drop (HT.sIx xs.length 0 lo)).take (HT.sIx xs.length xs.length hi - HT.sIx xs.length 0 lo)
def rngL (a b : Int) : List Int := (List.range (b - a).toNat).map fun (i : Nat) => a + ((i : Nat) : Int)
def rngM (a b : Int) : Option (List Int) := if -(2 ^ 62) ≤ a ∧ a < 2 ^ 62 ∧ -(2 ^ 62) ≤ b ∧ b < 2 ^ 62 then some (rngL a b) else none
def setM {α : Type} (xs : List α) (i : Int) (x : α) : Option (List α) := (ixN xs.length i).map fun j => xs.set j x
def strM (n : Int) : Option Str := if n.natAbs.log2 < 1920 then some (toString n) else none
def b2I (b : Bool) : Int := if b then 1 else 0
def absI (i : Int) : Int := if i < 0 then -i else i
def maxI (i j : Int) : Int := if j > i then j else i
def minI (i j : Int) : Int := if j < i then j else i
def signs (x : Str) : List Str := x.cps.toList.map fun c => ⟨#[c]⟩
def enumM {α : Type} (xs : List α) : List (Int × α) := xs.mapIdx fun i x => ((i : Int), x)
def inS (x y : Str) : Bool := !(Builtin.Str.occurrences y x 0 y.length 1).isEmpty
def letM {α β : Type} (x : α) (f : α → β) : β := f x
theorem sz {n : Nat} (h : n ≤ 100000) : n ≤ sizeLine := Nat.le_trans h (by decide)
theorem szl {n : Nat} (h : n < 100000) : n < sizeLine := Nat.lt_of_lt_of_le h (by decide)
theorem mulM_some {a b c : Int} (h : mulM a b = some c) : CMul a b ∧ a * b = c := by
  unfold mulM at h; split at h
  · rename_i q; exact ⟨q, Option.some.inj h⟩
  · cases h
theorem modM_some {a b c : Int} (h : modM a b = some c) : 0 < b ∧ a % b = c := by
  unfold modM at h; split at h
  · rename_i q; exact ⟨q, Option.some.inj h⟩
  · cases h
theorem fdivM_some {a b c : Int} (h : fdivM a b = some c) : CDiv a b ∧ a / b = c := by
  unfold fdivM at h; split at h
  · rename_i q; exact ⟨q, Option.some.inj h⟩
  · cases h
theorem powM_some {a b c : Int} (h : powM a b = some c) : CPow a b ∧ a ^ b.toNat = c := by
  unfold powM at h; split at h
  · rename_i q; exact ⟨q, Option.some.inj h⟩
  · cases h
theorem appM_some {α : Type} {xs ys : List α} {x : α} (h : appM xs x = some ys) : xs.length < 100000 ∧ xs ++ [x] = ys := by
  unfold appM at h; split at h
  · rename_i q; exact ⟨q, Option.some.inj h⟩
  · cases h
theorem catM_some {α : Type} {xs ys zs : List α} (h : catM xs ys = some zs) : xs.length + ys.length ≤ 100000 ∧ xs ++ ys = zs := by
  unfold catM at h; split at h
  · rename_i q; exact ⟨q, Option.some.inj h⟩
  · cases h
theorem repM_some {α : Type} {xs zs : List α} {k : Int} (h : repM xs k = some zs) : (-(2 ^ 63) ≤ k ∧ k < 2 ^ 63 ∧ xs.length * k.toNat ≤ 100000) ∧ (List.replicate k.toNat xs).flatten = zs := by
  unfold repM at h; split at h
  · rename_i q; exact ⟨q, Option.some.inj h⟩
  · cases h
theorem scatM_some {x y z : Str} (h : scatM x y = some z) : x.length + y.length ≤ 100000 ∧ x ++ y = z := by
  unfold scatM at h; split at h
  · rename_i q; exact ⟨q, Option.some.inj h⟩
  · cases h
theorem lenS_some {x : Str} {n : Int} (h : lenS x = some n) : x.length ≤ 100000 ∧ (x.length : Int) = n := by
  unfold lenS at h; split at h
  · rename_i q; exact ⟨q, Option.some.inj h⟩
  · cases h
theorem strM_some {x : Int} {n : Str} (h : strM x = some n) : x.natAbs.log2 < 1920 ∧ toString x = n := by
  unfold strM at h; split at h
  · rename_i q; exact ⟨q, Option.some.inj h⟩
  · cases h
theorem ixS_some {x z : Str} {i : Int} (h : ixS x i = some z) : x.length ≤ 100000 ∧ ∃ c, atI x.cps.toList i = some c ∧ z = ⟨#[c]⟩ := by
  unfold ixS at h; split at h
  · rename_i q
    refine ⟨q, ?_⟩
    cases e : atI x.cps.toList i with
    | none => rw [e] at h; cases h
    | some c => rw [e] at h; exact ⟨c, rfl, (Option.some.inj h).symm⟩
  · cases h
theorem rngM_some {a b : Int} {xs : List Int} (h : rngM a b = some xs) : (-(2 ^ 62) ≤ a ∧ a < 2 ^ 62 ∧ -(2 ^ 62) ≤ b ∧ b < 2 ^ 62) ∧ rngL a b = xs := by
  unfold rngM at h; split at h
  · rename_i q; exact ⟨q, Option.some.inj h⟩
  · cases h
theorem setM_some {α : Type} {xs ys : List α} {i : Int} {x : α} (h : setM xs i x = some ys) : ∃ j, ixN xs.length i = some j ∧ ys = xs.set j x := by
  unfold setM at h
  cases e : ixN xs.length i with
  | none => rw [e] at h; cases h
  | some j => rw [e] at h; exact ⟨j, rfl, (Option.some.inj h).symm⟩
theorem atI_map {α β : Type} (f : α → β) (xs : List α) (i : Int) : atI (xs.map f) i = (atI xs i).map f := by
  unfold atI
  rw [List.length_map]
  cases ixN xs.length i with
  | none => rfl
  | some j => simp
theorem cutL_map {α β : Type} (f : α → β) (xs : List α) (lo hi : Option Int) : cutL (xs.map f) lo hi = (cutL xs lo hi).map f := by
  unfold cutL
  simp [List.map_take, List.map_drop]
theorem bnd {α β : Type} {a : Option α} {f : α → Option β} {r : β} (h : a.bind f = some r) : ∃ x, a = some x ∧ f x = some r := by
  cases a with
  | none => cases h
  | some x => exact ⟨x, rfl, h⟩
theorem lt {α β : Type} {a : α} {f : α → Option β} {r : β} (h : letM a f = some r) : ∃ x, a = x ∧ f x = some r := ⟨a, rfl, h⟩
theorem sm {α : Type} {x y : α} (h : some x = some y) : x = y := Option.some.inj h

/-! triples -/
def Ev (te : TE) (σ : St) (F : Hp) (cs : Cs) (Φ : V → Hp → Prop) (cs' : Cs) : Prop :=
  ∀ F1 H1, Gr F F1 → Sta F1 cs H1 → ∀ Q : VK, (∀ v F2 H2, Gr F1 F2 → Sta F2 cs' H2 → Φ v F2 → Q v H2) → te σ H1 Q
def EvT (tt : TT) (σ : St) (F : Hp) (cs : Cs) (b : Bool) (cs' : Cs) : Prop :=
  ∀ F1 H1, Gr F F1 → Sta F1 cs H1 → ∀ Q : Bool → Hp → Prop, (∀ F2 H2, Gr F1 F2 → Sta F2 cs' H2 → Q b H2) → tt σ H1 Q
def EvA (ta : TA) (σ : St) (F : Hp) (cs : Cs) (Φ : List V → Hp → Prop) (cs' : Cs) : Prop :=
  ∀ F1 H1, Gr F F1 → Sta F1 cs H1 → ∀ Q : List V → Hp → Prop, (∀ vs F2 H2, Gr F1 F2 → Sta F2 cs' H2 → Φ vs F2 → Q vs H2) → ta σ H1 Q
def EvO (to : TO) (σ : St) (F : Hp) (cs : Cs) (o : Option Int) (cs' : Cs) : Prop :=
  ∀ F1 H1, Gr F F1 → Sta F1 cs H1 → ∀ Q : Option Int → Hp → Prop, (∀ F2 H2, Gr F1 F2 → Sta F2 cs' H2 → Q o H2) → to σ H1 Q
abbrev EvD (K : PySem.W.Frag) (te : TE) (σ : St) (F : Hp) (cs : Cs) (d : PyData) (cs' : Cs) : Prop := Ev te σ F cs (fun v F' => Dt K F' v d) cs'
abbrev EvDs (K : PySem.W.Frag) (ta : TA) (σ : St) (F : Hp) (cs : Cs) (ds : List PyData) (cs' : Cs) : Prop := EvA ta σ F cs (fun vs F' => Dts K F' vs ds) cs'
def Src (K : PySem.W.Frag) (J : It) (F : Hp) (ds : List PyData) : Prop := ∀ F1 c1 H1, Gr F F1 → Sta F1 c1 H1 →
  (∀ i, i < ds.length → J.go i H1) ∧ J.stop ds.length H1 ∧ ∀ i v H2 d, ds[i]? = some d → J.yld i H1 v H2 → ∃ F2, Gr F1 F2 ∧ Sta F2 c1 H2 ∧ Dt K F2 v d
def EvI (K : PySem.W.Frag) (wi : TI) (σ : St) (F : Hp) (cs : Cs) (ds : List PyData) (cs' : Cs) : Prop :=
  ∀ F1 H1, Gr F F1 → Sta F1 cs H1 → ∀ R : It → Hp → Prop, (∀ J F2 H2, Gr F1 F2 → Sta F2 cs' H2 → Src K J F2 ds → R J H2) → wi σ H1 R
section
variable {K : PySem.W.Frag} {σ : St} {F F' : Hp} {cs cs1 cs2 cs3 : Cs} {ta tb tc te : TE} {d e : PyData} {as : TA}
theorem Ev.gr {Φ : V → Hp → Prop} (g : Gr F F') (h : Ev te σ F cs Φ cs1) : Ev te σ F' cs Φ cs1 := fun F1 H1 g1 s Q q => h F1 H1 (g.tr g1) s Q q
theorem d_is (h : EvD K te σ F cs d cs1) (q : d = e) : EvD K te σ F cs e cs1 := q ▸ h
theorem d_var {i : Nat} {v : V} (h : σ[i]? = some (some v)) (hd : Dt K F v d) : EvD K (tVar i) σ F cs d cs := fun F1 H1 g s Q q => ⟨v, h, q v F1 H1 .rfl s (Dt.gr g hd)⟩
theorem d_int {i : Int} : EvD K (tC (.int i)) σ F cs (.int i) cs := fun F1 H1 g s Q q => q _ F1 H1 .rfl s (.int i)
theorem d_bl {b : Bool} : EvD K (tC (.bl b)) σ F cs (.bool b) cs := fun F1 H1 g s Q q => q _ F1 H1 .rfl s (.bl b)
theorem d_str {x : Str} : EvD K (tC (.str x)) σ F cs (.str x) cs := fun F1 H1 g s Q q => q _ F1 H1 .rfl s (.str x)
theorem d_non : EvD K (tC .non) σ F cs .none cs := fun F1 H1 g s Q q => q _ F1 H1 .rfl s .non
/-- two operands -/
theorem d_op {r : R2} {z : PyData} (ha : EvD K ta σ F cs d cs1) (hb : EvD K tb σ F cs1 e cs2) (hr : ∀ x y F2 H2, Dt K F2 x d → Dt K F2 y e → Sta F2 cs2 H2 → Gr F F2 → ∀ Q : VK, (∀ v F3 H3, Gr F2 F3 → Sta F3 cs3 H3 → Dt K F3 v z → Q v H3) → r x y H2 Q) : EvD K (tOp r ta tb) σ F cs z cs3 := fun F1 H1 g1 s Q q =>
  ha F1 H1 g1 s _ fun v F2 H2 g2 s2 h2 => hb F2 H2 (g1.tr g2) s2 _ fun w F3 H3 g3 s3 h3 => hr v w F3 H3 (Dt.gr g3 h2) h3 s3 ((g1.tr g2).tr g3) Q fun v F4 H4 g4 s4 h4 => q v F4 H4 ((g2.tr g3).tr g4) s4 h4
theorem d_I0 {g : Int → Int → V} {a b : Int} {z : PyData} (ha : EvD K ta σ F cs (.int a) cs1) (hb : EvD K tb σ F cs1 (.int b) cs2) (hz : ∀ F, Dt K F (g a b) z) : EvD K (tOp (rI0 g) ta tb) σ F cs z cs2 :=
  d_op ha hb fun x y F2 H2 hx hy s _ Q q => by
    cases hx.toInt; cases hy.toInt
    exact ⟨a, b, rfl, rfl, q _ F2 H2 .rfl s (hz _)⟩
theorem d_I {C : Int → Int → Prop} {g : Int → Int → V} {a b : Int} {z : PyData} (ha : EvD K ta σ F cs (.int a) cs1) (hb : EvD K tb σ F cs1 (.int b) cs2) (hc : C a b) (hz : ∀ F, Dt K F (g a b) z) : EvD K (tOp (rI C g) ta tb) σ F cs z cs2 :=
  d_op ha hb fun x y F2 H2 hx hy s _ Q q => by
    cases hx.toInt; cases hy.toInt
    exact ⟨a, b, rfl, rfl, hc, q _ F2 H2 .rfl s (hz _)⟩
variable {a b c : Int}
theorem d_add (ha : EvD K ta σ F cs (.int a) cs1) (hb : EvD K tb σ F cs1 (.int b) cs2) : EvD K (tOp (rI0 fun i j => .int (i + j)) ta tb) σ F cs (.int (a + b)) cs2 := d_I0 ha hb fun _ => .int _
theorem d_sub (ha : EvD K ta σ F cs (.int a) cs1) (hb : EvD K tb σ F cs1 (.int b) cs2) : EvD K (tOp (rI0 fun i j => .int (i - j)) ta tb) σ F cs (.int (a - b)) cs2 := d_I0 ha hb fun _ => .int _
theorem d_lt (ha : EvD K ta σ F cs (.int a) cs1) (hb : EvD K tb σ F cs1 (.int b) cs2) : EvD K (tOp (rI0 fun i j => .bl (decide (i < j))) ta tb) σ F cs (.bool (decide (a < b))) cs2 := d_I0 ha hb fun _ => .bl _
theorem d_le (ha : EvD K ta σ F cs (.int a) cs1) (hb : EvD K tb σ F cs1 (.int b) cs2) : EvD K (tOp (rI0 fun i j => .bl (decide (i ≤ j))) ta tb) σ F cs (.bool (decide (a ≤ b))) cs2 := d_I0 ha hb fun _ => .bl _
theorem d_gt (ha : EvD K ta σ F cs (.int a) cs1) (hb : EvD K tb σ F cs1 (.int b) cs2) : EvD K (tOp (rI0 fun i j => .bl (decide (j < i))) ta tb) σ F cs (.bool (decide (b < a))) cs2 := d_I0 ha hb fun _ => .bl _
theorem d_ge (ha : EvD K ta σ F cs (.int a) cs1) (hb : EvD K tb σ F cs1 (.int b) cs2) : EvD K (tOp (rI0 fun i j => .bl (decide (j ≤ i))) ta tb) σ F cs (.bool (decide (b ≤ a))) cs2 := d_I0 ha hb fun _ => .bl _
theorem d_mul (ha : EvD K ta σ F cs (.int a) cs1) (hb : EvD K tb σ F cs1 (.int b) cs2) (hc : mulM a b = some c) : EvD K (tOp (rI CMul fun i j => .int (i * j)) ta tb) σ F cs (.int c) cs2 := (mulM_some hc).2 ▸ d_I ha hb (mulM_some hc).1 fun _ => .int _
theorem d_mod (ha : EvD K ta σ F cs (.int a) cs1) (hb : EvD K tb σ F cs1 (.int b) cs2) (hc : modM a b = some c) : EvD K (tOp (rI (fun _ j => 0 < j) fun i j => .int (i % j)) ta tb) σ F cs (.int c) cs2 := (modM_some hc).2 ▸ d_I (C := fun _ j => 0 < j) ha hb (modM_some hc).1 fun _ => .int _
theorem d_fdiv (ha : EvD K ta σ F cs (.int a) cs1) (hb : EvD K tb σ F cs1 (.int b) cs2) (hc : fdivM a b = some c) : EvD K (tOp (rI CDiv fun i j => .int (i / j)) ta tb) σ F cs (.int c) cs2 := (fdivM_some hc).2 ▸ d_I ha hb (fdivM_some hc).1 fun _ => .int _
theorem d_pow (ha : EvD K ta σ F cs (.int a) cs1) (hb : EvD K tb σ F cs1 (.int b) cs2) (hc : powM a b = some c) : EvD K (tOp (rI CPow fun i j => .int (i ^ j.toNat)) ta tb) σ F cs (.int c) cs2 := (powM_some hc).2 ▸ d_I ha hb (powM_some hc).1 fun _ => .int _
theorem d_neg (ha : EvD K ta σ F cs (.int a) cs1) : EvD K (tUn (rU fun i => .int (-i)) ta) σ F cs (.int (-a)) cs1 := fun F1 H1 g1 s Q q =>
  ha F1 H1 g1 s _ fun v F2 H2 g2 s2 h2 => ⟨a, h2.toInt, q _ F2 H2 g2 s2 (.int _)⟩
/-- arguments -/
theorem a_nil : EvDs K tNil σ F cs [] cs := fun F1 H1 g s Q q => q [] F1 H1 .rfl s .nil
theorem a_cons {tr : TA} {ds : List PyData} (h : EvD K ta σ F cs d cs1) (hr : EvDs K tr σ F cs1 ds cs2) : EvDs K (tCons ta tr) σ F cs (d :: ds) cs2 := fun F1 H1 g1 s Q q =>
  h F1 H1 g1 s _ fun v F2 H2 g2 s2 h2 => hr F2 H2 (g1.tr g2) s2 _ fun vs F3 H3 g3 s3 h3 => q (v :: vs) F3 H3 (g2.tr g3) s3 (.cons (Dt.gr g3 h2) h3)
/-- a built-in's call -/
theorem d_cb {r : List V → Hp → VK → Prop} {ds : List PyData} {z : PyData} (ha : EvDs K as σ F cs ds cs1) (hr : ∀ vs F2 H2, Dts K F2 vs ds → Sta F2 cs1 H2 → ∀ Q : VK, (∀ v F3 H3, Gr F2 F3 → Sta F3 cs1 H3 → Dt K F3 v z → Q v H3) → r vs H2 Q) : EvD K (tCB r as) σ F cs z cs1 := fun F1 H1 g1 s Q q =>
  ha F1 H1 g1 s _ fun vs F2 H2 g2 s2 h2 => hr vs F2 H2 h2 s2 Q fun v F3 H3 g3 s3 h3 => q v F3 H3 (g2.tr g3) s3 h3
theorem d_abs (ha : EvDs K as σ F cs [.int a] cs1) : EvD K (tCB (fun xs H Q => ∃ i, xs = [.int i] ∧ Q (.int (if i < 0 then -i else i)) H) as) σ F cs (.int (absI a)) cs1 := d_cb ha fun vs F2 H2 h s Q q => by
  obtain ⟨v, rfl, k1⟩ := h.one; cases k1.toInt
  exact ⟨a, rfl, q _ F2 H2 .rfl s (.int _)⟩
theorem d_max2 (ha : EvDs K as σ F cs [.int a, .int b] cs1) : EvD K (tCB (fun xs H Q => ∃ i j, xs = [.int i, .int j] ∧ Q (.int (if j > i then j else i)) H) as) σ F cs (.int (maxI a b)) cs1 := d_cb ha fun vs F2 H2 h s Q q => by
  obtain ⟨v, w, rfl, k1, k2⟩ := h.two; cases k1.toInt; cases k2.toInt
  exact ⟨a, b, rfl, q _ F2 H2 .rfl s (.int _)⟩
theorem d_min2 (ha : EvDs K as σ F cs [.int a, .int b] cs1) : EvD K (tCB (fun xs H Q => ∃ i j, xs = [.int i, .int j] ∧ Q (.int (if j < i then j else i)) H) as) σ F cs (.int (minI a b)) cs1 := d_cb ha fun vs F2 H2 h s Q q => by
  obtain ⟨v, w, rfl, k1, k2⟩ := h.two; cases k1.toInt; cases k2.toInt
  exact ⟨a, b, rfl, q _ F2 H2 .rfl s (.int _)⟩
theorem d_lenL {ds : List PyData} (ha : EvDs K as σ F cs [.list ds] cs1) : EvD K (tCB (fun xs H Q => ∃ p ys, xs = [.ref p] ∧ (SqL K H p ys ∨ SqT K H p ys) ∧ Q (.int ys.length) H) as) σ F cs (.int ds.length) cs1 := d_cb ha fun vs F2 H2 h s Q q => by
  obtain ⟨v, rfl, k1⟩ := h.one
  obtain ⟨p, ys, rfl, hl, hd⟩ := k1.toLst
  exact ⟨p, ys, rfl, .inl (gr_L s.fr hl), q _ F2 H2 .rfl s (by rw [hd.len]; exact .int _)⟩
theorem d_len {α : Type} {e : α → PyData} {xs : List α} (ha : EvDs K as σ F cs [eL e xs] cs1) : EvD K (tCB (fun xs H Q => ∃ p ys, xs = [.ref p] ∧ (SqL K H p ys ∨ SqT K H p ys) ∧ Q (.int ys.length) H) as) σ F cs (.int xs.length) cs1 := by
  have := d_lenL ha
  rw [List.length_map] at this
  exact this
theorem d_lenT {ds : List PyData} (ha : EvDs K as σ F cs [.tuple ds] cs1) : EvD K (tCB (fun xs H Q => ∃ p ys, xs = [.ref p] ∧ (SqL K H p ys ∨ SqT K H p ys) ∧ Q (.int ys.length) H) as) σ F cs (.int ds.length) cs1 := d_cb ha fun vs F2 H2 h s Q q => by
  obtain ⟨v, rfl, k1⟩ := h.one
  obtain ⟨p, ys, rfl, hl, hd⟩ := k1.toTup
  exact ⟨p, ys, rfl, .inr (gr_T s.fr hl), q _ F2 H2 .rfl s (by rw [hd.len]; exact .int _)⟩
theorem d_lenS {x : Str} {n : Int} (ha : EvDs K as σ F cs [.str x] cs1) (hn : lenS x = some n) : EvD K (tCB (fun xs H Q => ∃ z, xs = [.str z] ∧ z.length ≤ sizeLine ∧ Q (.int z.length) H) as) σ F cs (.int n) cs1 := d_cb ha fun vs F2 H2 h s Q q => by
  obtain ⟨v, rfl, k1⟩ := h.one; cases k1.toStr
  obtain ⟨h1, rfl⟩ := lenS_some hn
  exact ⟨x, rfl, sz h1, q _ F2 H2 .rfl s (.int _)⟩
theorem d_intB {b : Bool} (ha : EvDs K as σ F cs [.bool b] cs1) : EvD K (tCB (fun xs H Q => (∃ i, xs = [.int i] ∧ Q (.int i) H) ∨ ∃ k, xs = [.bl k] ∧ Q (.int (if k then 1 else 0)) H) as) σ F cs (.int (b2I b)) cs1 := d_cb ha fun vs F2 H2 h s Q q => by
  obtain ⟨v, rfl, k1⟩ := h.one; cases k1.toBl
  exact .inr ⟨b, rfl, q _ F2 H2 .rfl s (.int _)⟩
theorem d_strI {x : Str} (ha : EvDs K as σ F cs [.int a] cs1) (hn : strM a = some x) : EvD K (tCB (fun xs H Q => ∃ i, xs = [.int i] ∧ i.natAbs.log2 < 1920 ∧ Q (.str (toString i)) H) as) σ F cs (.str x) cs1 := d_cb ha fun vs F2 H2 h s Q q => by
  obtain ⟨v, rfl, k1⟩ := h.one; cases k1.toInt
  obtain ⟨h1, rfl⟩ := strM_some hn
  exact ⟨a, rfl, h1, q _ F2 H2 .rfl s (.str _)⟩
theorem d_sum {xs : List Int} (ha : EvDs K as σ F cs [eL eI xs] cs1) : EvD K (tCB (rSum K) as) σ F cs (.int xs.sum) cs1 := d_cb ha fun vs F2 H2 h s Q q => by
  obtain ⟨v, rfl, k1⟩ := h.one
  obtain ⟨p, ys, rfl, hl, hd⟩ := k1.toLst
  cases hd.ints
  exact ⟨p, xs, rfl, gr_L s.fr hl, q _ F2 H2 .rfl s (.int _)⟩
theorem d_all {xs : List Bool} (ha : EvDs K as σ F cs [eL eB xs] cs1) : EvD K (tCB (rAll K) as) σ F cs (.bool (xs.all id)) cs1 := d_cb ha fun vs F2 H2 h s Q q => by
  obtain ⟨v, rfl, k1⟩ := h.one
  obtain ⟨p, ys, rfl, hl, hd⟩ := k1.toLst
  cases hd.bls
  exact ⟨p, xs, rfl, gr_L s.fr hl, q _ F2 H2 .rfl s (.bl _)⟩
theorem d_any {xs : List Bool} (ha : EvDs K as σ F cs [eL eB xs] cs1) : EvD K (tCB (rAny K) as) σ F cs (.bool (xs.any id)) cs1 := d_cb ha fun vs F2 H2 h s Q q => by
  obtain ⟨v, rfl, k1⟩ := h.one
  obtain ⟨p, ys, rfl, hl, hd⟩ := k1.toLst
  cases hd.bls
  exact ⟨p, xs, rfl, gr_L s.fr hl, q _ F2 H2 .rfl s (.bl _)⟩
theorem d_listL {ds : List PyData} (ha : EvDs K as σ F cs [.list ds] cs1) : EvD K (tCB (fun xs H Q => ∃ p ys, xs = [.ref p] ∧ (SqL K H p ys ∨ SqT K H p ys) ∧ ∀ l, H l = none → Q (.ref l) (upd H l (.lst ys))) as) σ F cs (.list ds) cs1 := d_cb ha fun vs F2 H2 h s Q q => by
  obtain ⟨v, rfl, k1⟩ := h.one
  obtain ⟨p, ys, rfl, hl, hd⟩ := k1.toLst
  exact ⟨p, ys, rfl, .inl (gr_L s.fr hl), fun l nl => q _ _ _ (Gr.new (s.fr.back nl)) (s.lay nl) (.lst (.inl (.inl upd_same)) (hd.gr (Gr.new (s.fr.back nl))))⟩
/-- a new list, a new tuple -/
theorem d_lst {ds : List PyData} (h : EvDs K as σ F cs ds cs1) (hl : ds.length ≤ 100000) : EvD K (tLst as) σ F cs (.list ds) cs1 := fun F1 H1 g1 s Q q =>
  h F1 H1 g1 s _ fun vs F2 H2 g2 s2 h2 => ⟨h2.len.symm ▸ sz hl, fun p hp => q _ _ _ (g2.tr (Gr.new (s2.fr.back hp))) (s2.lay hp) (.lst (.inl (.inl upd_same)) (h2.gr (Gr.new (s2.fr.back hp))))⟩
theorem d_tup {ds : List PyData} (h : EvDs K as σ F cs ds cs1) (hl : ds.length ≤ 100000) : EvD K (tTup as) σ F cs (.tuple ds) cs1 := fun F1 H1 g1 s Q q =>
  h F1 H1 g1 s _ fun vs F2 H2 g2 s2 h2 => ⟨h2.len.symm ▸ sz hl, fun p hp => q _ _ _ (g2.tr (Gr.new (s2.fr.back hp))) (s2.lay hp) (.tup (.inl (.inl upd_same)) (h2.gr (Gr.new (s2.fr.back hp))))⟩
/-- items -/
theorem d_ixLs {ds : List PyData} {z : PyData} (ha : EvD K ta σ F cs (.list ds) cs1) (hb : EvD K tb σ F cs1 (.int b) cs2) (hz : atI ds b = some z) : EvD K (tOp (rIxL K) ta tb) σ F cs z cs2 :=
  d_op ha hb fun x y F2 H2 hx hy s _ Q q => by
    obtain ⟨p, vs, rfl, hl, hd⟩ := hx.toLst; cases hy.toInt
    unfold atI at hz
    rw [← hd.len] at hz
    cases e : ixN vs.length b with
    | none => rw [e] at hz; cases hz
    | some j =>
      rw [e] at hz
      obtain ⟨v, h1, h2⟩ := hd.get2 (show ds[j]? = some z from hz)
      exact ⟨p, vs, b, v, rfl, rfl, gr_L s.fr hl, by unfold atI; rw [e]; exact h1, q v F2 H2 .rfl s h2⟩
theorem d_ix {α : Type} {e : α → PyData} {xs : List α} {x : α} (ha : EvD K ta σ F cs (eL e xs) cs1) (hb : EvD K tb σ F cs1 (.int b) cs2) (hz : atI xs b = some x) : EvD K (tOp (rIxL K) ta tb) σ F cs (e x) cs2 :=
  d_ixLs ha hb (by rw [atI_map, hz]; rfl)
theorem d_ixT {ds : List PyData} {z : PyData} (ha : EvD K ta σ F cs (.tuple ds) cs1) (hb : EvD K tb σ F cs1 (.int b) cs2) (hz : atI ds b = some z) : EvD K (tOp (rIxT K) ta tb) σ F cs z cs2 :=
  d_op ha hb fun x y F2 H2 hx hy s _ Q q => by
    obtain ⟨p, vs, rfl, hl, hd⟩ := hx.toTup; cases hy.toInt
    unfold atI at hz
    rw [← hd.len] at hz
    cases e : ixN vs.length b with
    | none => rw [e] at hz; cases hz
    | some j =>
      rw [e] at hz
      obtain ⟨v, h1, h2⟩ := hd.get2 (show ds[j]? = some z from hz)
      exact ⟨p, vs, b, v, rfl, rfl, gr_T s.fr hl, by unfold atI; rw [e]; exact h1, q v F2 H2 .rfl s h2⟩
theorem d_ixS {x z : Str} (ha : EvD K ta σ F cs (.str x) cs1) (hb : EvD K tb σ F cs1 (.int b) cs2) (hz : ixS x b = some z) : EvD K (tOp rIxS ta tb) σ F cs (.str z) cs2 :=
  d_op ha hb fun v y F2 H2 hx hy s _ Q q => by
    cases hx.toStr; cases hy.toInt
    obtain ⟨h1, c, h2, rfl⟩ := ixS_some hz
    exact ⟨x, b, c, rfl, rfl, sz h1, h2, q _ F2 H2 .rfl s (.str _)⟩
/-- slices -/
theorem o_none : EvO tNoPart σ F cs none cs := fun F1 H1 g s Q q => q F1 H1 .rfl s
theorem o_some (h : EvD K te σ F cs (.int a) cs1) : EvO (tPart te) σ F cs (some a) cs1 := fun F1 H1 g1 s Q q => h F1 H1 g1 s _ fun v F2 H2 g2 s2 h2 => ⟨a, h2.toInt, q F2 H2 g2 s2⟩
theorem d_sl {α : Type} {e : α → PyData} {xs : List α} {tl th : TO} {lo hi : Option Int} (h : EvD K te σ F cs (eL e xs) cs1) (h1 : EvO tl σ F cs1 lo cs2) (h2 : EvO th σ F cs2 hi cs3) : EvD K (tSl (rSlL K) te tl th) σ F cs (eL e (cutL xs lo hi)) cs3 := fun F1 H1 g1 s Q q =>
  h F1 H1 g1 s _ fun v F2 H2 g2 s2 hv => h1 F2 H2 (g1.tr g2) s2 _ fun F3 H3 g3 s3 => h2 F3 H3 ((g1.tr g2).tr g3) s3 _ fun F4 H4 g4 s4 => by
    obtain ⟨p, vs, rfl, hl, hd⟩ := hv.toLst
    have hd' := hd.gr (g3.tr g4)
    refine ⟨p, vs, rfl, gr_L s4.fr (gr_L (g3.tr g4) hl), fun l nl => q _ _ _ ((g2.tr (g3.tr g4)).tr (Gr.new (s4.fr.back nl))) (s4.lay nl) (.lst (.inl (.inl upd_same)) ?_)⟩
    rw [← cutL_map]
    unfold cutV cutL
    rw [hd.len]
    exact ((hd'.gr (Gr.new (s4.fr.back nl))).drop _).take _
/-- == of flat things -/
theorem dec_V {α : Type} [DecidableEq α] {f : α → V} (hf : ∀ x y, f x = f y → x = y) (x y : α) : decide (f x = f y) = decide (x = y) := by
  by_cases h : x = y
  · subst h; simp
  · rw [decide_eq_false h, decide_eq_false (fun q => h (hf x y q))]
theorem d_eqI (ha : EvD K ta σ F cs (.int a) cs1) (hb : EvD K tb σ F cs1 (.int b) cs2) : EvD K (tOp rEq ta tb) σ F cs (.bool (decide (a = b))) cs2 :=
  d_op ha hb fun x y F2 H2 hx hy s _ Q q => by
    cases hx.toInt; cases hy.toInt
    exact ⟨rfl, q _ F2 H2 .rfl s (by rw [dec_V (f := V.int) (fun _ _ h => V.int.inj h)]; exact .bl _)⟩
theorem d_neI (ha : EvD K ta σ F cs (.int a) cs1) (hb : EvD K tb σ F cs1 (.int b) cs2) : EvD K (tOp rNe ta tb) σ F cs (.bool (!decide (a = b))) cs2 :=
  d_op ha hb fun x y F2 H2 hx hy s _ Q q => by
    cases hx.toInt; cases hy.toInt
    exact ⟨rfl, q _ F2 H2 .rfl s (by rw [dec_V (f := V.int) (fun _ _ h => V.int.inj h)]; exact .bl _)⟩
theorem d_eqS {x y : Str} (ha : EvD K ta σ F cs (.str x) cs1) (hb : EvD K tb σ F cs1 (.str y) cs2) : EvD K (tOp rEq ta tb) σ F cs (.bool (decide (x = y))) cs2 :=
  d_op ha hb fun _ _ F2 H2 hx hy s _ Q q => by
    cases hx.toStr; cases hy.toStr
    exact ⟨rfl, q _ F2 H2 .rfl s (by rw [dec_V (f := V.str) (fun _ _ h => V.str.inj h)]; exact .bl _)⟩
theorem d_neS {x y : Str} (ha : EvD K ta σ F cs (.str x) cs1) (hb : EvD K tb σ F cs1 (.str y) cs2) : EvD K (tOp rNe ta tb) σ F cs (.bool (!decide (x = y))) cs2 :=
  d_op ha hb fun _ _ F2 H2 hx hy s _ Q q => by
    cases hx.toStr; cases hy.toStr
    exact ⟨rfl, q _ F2 H2 .rfl s (by rw [dec_V (f := V.str) (fun _ _ h => V.str.inj h)]; exact .bl _)⟩
theorem d_eqB {x y : Bool} (ha : EvD K ta σ F cs (.bool x) cs1) (hb : EvD K tb σ F cs1 (.bool y) cs2) : EvD K (tOp rEq ta tb) σ F cs (.bool (decide (x = y))) cs2 :=
  d_op ha hb fun _ _ F2 H2 hx hy s _ Q q => by
    cases hx.toBl; cases hy.toBl
    exact ⟨rfl, q _ F2 H2 .rfl s (by rw [dec_V (f := V.bl) (fun _ _ h => V.bl.inj h)]; exact .bl _)⟩
theorem d_neB {x y : Bool} (ha : EvD K ta σ F cs (.bool x) cs1) (hb : EvD K tb σ F cs1 (.bool y) cs2) : EvD K (tOp rNe ta tb) σ F cs (.bool (!decide (x = y))) cs2 :=
  d_op ha hb fun _ _ F2 H2 hx hy s _ Q q => by
    cases hx.toBl; cases hy.toBl
    exact ⟨rfl, q _ F2 H2 .rfl s (by rw [dec_V (f := V.bl) (fun _ _ h => V.bl.inj h)]; exact .bl _)⟩
/-- == of data -/
theorem d_eqD (ha : EvD K ta σ F cs d cs1) (hb : EvD K tb σ F cs1 e cs2) (h1 : SeqAt.shaped d = true) (h2 : SeqAt.shaped e = true) : EvD K (tOp (rEqD K) ta tb) σ F cs (.bool (PyData.eqv d e)) cs2 :=
  d_op ha hb fun x y F2 H2 hx hy s _ Q q => ⟨d, e, (hx.gr s.fr).dp (SeqAt.canLay_of_shaped h1), (hy.gr s.fr).dp (SeqAt.canLay_of_shaped h2), h1, h2, q _ F2 H2 .rfl s (.bl _)⟩
theorem d_neD (ha : EvD K ta σ F cs d cs1) (hb : EvD K tb σ F cs1 e cs2) (h1 : SeqAt.shaped d = true) (h2 : SeqAt.shaped e = true) : EvD K (tOp (rNeD K) ta tb) σ F cs (.bool (!PyData.eqv d e)) cs2 :=
  d_op ha hb fun x y F2 H2 hx hy s _ Q q => ⟨d, e, (hx.gr s.fr).dp (SeqAt.canLay_of_shaped h1), (hy.gr s.fr).dp (SeqAt.canLay_of_shaped h2), h1, h2, q _ F2 H2 .rfl s (.bl _)⟩
/-- texts -/
theorem d_scat {x y z : Str} (ha : EvD K ta σ F cs (.str x) cs1) (hb : EvD K tb σ F cs1 (.str y) cs2) (hz : scatM x y = some z) : EvD K (tOp (fun x y H Q => ∃ i j, x = .str i ∧ y = .str j ∧ i.length + j.length ≤ sizeLine ∧ Q (.str (i ++ j)) H) ta tb) σ F cs (.str z) cs2 :=
  d_op ha hb fun _ _ F2 H2 hx hy s _ Q q => by
    cases hx.toStr; cases hy.toStr
    obtain ⟨h1, rfl⟩ := scatM_some hz
    exact ⟨x, y, rfl, rfl, sz h1, q _ F2 H2 .rfl s (.str _)⟩
theorem d_inS {x y : Str} (ha : EvD K ta σ F cs (.str x) cs1) (hb : EvD K tb σ F cs1 (.str y) cs2) : EvD K (tOp (fun x y H Q => ∃ i j, x = .str i ∧ y = .str j ∧ Q (.bl (!(Builtin.Str.occurrences j i 0 j.length 1).isEmpty)) H) ta tb) σ F cs (.bool (inS x y)) cs2 :=
  d_op ha hb fun _ _ F2 H2 hx hy s _ Q q => by
    cases hx.toStr; cases hy.toStr
    exact ⟨x, y, rfl, rfl, q _ F2 H2 .rfl s (.bl _)⟩
theorem d_notinS {x y : Str} (ha : EvD K ta σ F cs (.str x) cs1) (hb : EvD K tb σ F cs1 (.str y) cs2) : EvD K (tOp (fun x y H Q => ∃ i j, x = .str i ∧ y = .str j ∧ Q (.bl (!(!(Builtin.Str.occurrences j i 0 j.length 1).isEmpty))) H) ta tb) σ F cs (.bool (!inS x y)) cs2 :=
  d_op ha hb fun _ _ F2 H2 hx hy s _ Q q => by
    cases hx.toStr; cases hy.toStr
    exact ⟨x, y, rfl, rfl, q _ F2 H2 .rfl s (.bl _)⟩
/-- tests -/
theorem t_test {b : Bool} (h : EvD K te σ F cs (.bool b) cs1) : EvT (tTest te) σ F cs b cs1 := fun F1 H1 g1 s Q q =>
  h F1 H1 g1 s _ fun v F2 H2 g2 s2 h2 => ⟨b, h2.toBl, q F2 H2 g2 s2⟩
theorem t_B {b : Bool} (h : EvD K te σ F cs (.bool b) cs1) : EvT (tB te) σ F cs b cs1 := fun F1 H1 g1 s Q q =>
  h F1 H1 g1 s _ fun v F2 H2 g2 s2 h2 => ⟨b, h2.toBl, q F2 H2 g2 s2⟩
theorem t_not {t : TT} {b : Bool} (h : EvT t σ F cs b cs1) : EvT (tNot t) σ F cs (!b) cs1 := fun F1 H1 g1 s Q q => h F1 H1 g1 s _ fun F2 H2 g2 s2 => q F2 H2 g2 s2
theorem t_and {t u : TT} {a b r : Bool} (h1 : EvT t σ F cs a cs1) (h2 : a = true → EvT u σ F cs1 b cs1) (h3 : a = true → r = b) (h4 : a = false → r = false) : EvT (tAnd t u) σ F cs r cs1 := fun F1 H1 g1 s Q q => h1 F1 H1 g1 s _ fun F2 H2 g2 s2 => by
  cases a with
  | true => rw [h3 rfl] at q; exact h2 rfl F2 H2 (g1.tr g2) s2 Q fun F3 H3 g3 s3 => q F3 H3 (g2.tr g3) s3
  | false => rw [h4 rfl] at q; exact q F2 H2 g2 s2
theorem t_or {t u : TT} {a b r : Bool} (h1 : EvT t σ F cs a cs1) (h2 : a = false → EvT u σ F cs1 b cs1) (h3 : a = false → r = b) (h4 : a = true → r = true) : EvT (tOr t u) σ F cs r cs1 := fun F1 H1 g1 s Q q => h1 F1 H1 g1 s _ fun F2 H2 g2 s2 => by
  cases a with
  | false => rw [h3 rfl] at q; exact h2 rfl F2 H2 (g1.tr g2) s2 Q fun F3 H3 g3 s3 => q F3 H3 (g2.tr g3) s3
  | true => rw [h4 rfl] at q; exact q F2 H2 g2 s2
theorem d_andV {a b r : Bool} (h1 : EvD K ta σ F cs (.bool a) cs1) (h2 : a = true → EvD K tb σ F cs1 (.bool b) cs1) (h3 : a = true → r = b) (h4 : a = false → r = false) : EvD K (tAndV ta tb) σ F cs (.bool r) cs1 := fun F1 H1 g1 s Q q => h1 F1 H1 g1 s _ fun v F2 H2 g2 s2 hv => ⟨a, hv.toBl, by
  cases a with
  | true => rw [h3 rfl] at q; exact h2 rfl F2 H2 (g1.tr g2) s2 Q fun v F3 H3 g3 s3 k => q v F3 H3 (g2.tr g3) s3 k
  | false => rw [h4 rfl] at q; exact q _ F2 H2 g2 s2 (.bl _)⟩
theorem d_orV {a b r : Bool} (h1 : EvD K ta σ F cs (.bool a) cs1) (h2 : a = false → EvD K tb σ F cs1 (.bool b) cs1) (h3 : a = false → r = b) (h4 : a = true → r = true) : EvD K (tOrV ta tb) σ F cs (.bool r) cs1 := fun F1 H1 g1 s Q q => h1 F1 H1 g1 s _ fun v F2 H2 g2 s2 hv => ⟨a, hv.toBl, by
  cases a with
  | false => rw [h3 rfl] at q; exact h2 rfl F2 H2 (g1.tr g2) s2 Q fun v F3 H3 g3 s3 k => q v F3 H3 (g2.tr g3) s3 k
  | true => rw [h4 rfl] at q; exact q _ F2 H2 g2 s2 (.bl _)⟩
theorem d_notV {a : Bool} (h : EvD K ta σ F cs (.bool a) cs1) : EvD K (tNotV ta) σ F cs (.bool (!a)) cs1 := fun F1 H1 g1 s Q q => h F1 H1 g1 s _ fun v F2 H2 g2 s2 hv => ⟨a, hv.toBl, q _ F2 H2 g2 s2 (.bl _)⟩
theorem d_ifE {t : TT} {a : Bool} (h : EvT t σ F cs a cs1) (h1 : a = true → EvD K ta σ F cs1 d cs2) (h2 : a = false → EvD K tb σ F cs1 d cs2) : EvD K (tIf t ta tb) σ F cs d cs2 := fun F1 H1 g1 s Q q => h F1 H1 g1 s _ fun F2 H2 g2 s2 => by
  cases a with
  | true => exact h1 rfl F2 H2 (g1.tr g2) s2 Q fun v F3 H3 g3 s3 k => q v F3 H3 (g2.tr g3) s3 k
  | false => exact h2 rfl F2 H2 (g1.tr g2) s2 Q fun v F3 H3 g3 s3 k => q v F3 H3 (g2.tr g3) s3 k
end
end Bw

namespace Bw
open PySem L2
/-- a new list, which may change -/
def EvC (K : PySem.W.Frag) (te : TE) (σ : St) (F : Hp) (cs : Cs) (ds : List PyData) (cs' : Cs) : Prop :=
  ∀ F1 H1, Gr F F1 → Sta F1 cs H1 → ∀ Q : VK, (∀ p vs F2 H2, Gr F1 F2 → Sta F2 ((p, .lst vs) :: cs') H2 → Dts K F2 vs ds → Q (.ref p) H2) → te σ H1 Q
section
variable {K : PySem.W.Frag} {σ : St} {F F' : Hp} {cs cs1 cs2 cs3 : Cs} {ta tb tc te : TE} {d e : PyData} {as : TA} {a b c : Int}
theorem EvC.dd {ds : List PyData} (h : EvC K te σ F cs ds cs1) : EvD K te σ F cs (.list ds) cs1 := fun F1 H1 g1 s Q q => h F1 H1 g1 s Q fun p vs F2 H2 g2 s2 h2 => q _ _ H2 (g2.tr s2.gfr) s2.froze (.lst (.inl (.inl upd_same)) (h2.gr s2.gfr))
theorem c_is {ds es : List PyData} (h : EvC K te σ F cs ds cs1) (q : ds = es) : EvC K te σ F cs es cs1 := q ▸ h
theorem c_lst {ds : List PyData} (h : EvDs K as σ F cs ds cs1) (hl : ds.length ≤ 100000) : EvC K (tLst as) σ F cs ds cs1 := fun F1 H1 g1 s Q q =>
  h F1 H1 g1 s _ fun vs F2 H2 g2 s2 h2 => ⟨h2.len.symm ▸ sz hl, fun p hp => q p vs F2 _ g2 (s2.cell hp) h2⟩
theorem c_list {ds : List PyData} (ha : EvDs K as σ F cs [.list ds] cs1) : EvC K (tCB (fun xs H Q => ∃ p ys, xs = [.ref p] ∧ (SqL K H p ys ∨ SqT K H p ys) ∧ ∀ l, H l = none → Q (.ref l) (upd H l (.lst ys))) as) σ F cs ds cs1 := fun F1 H1 g1 s Q q => ha F1 H1 g1 s _ fun vs F2 H2 g2 s2 h2 => by
  obtain ⟨v, rfl, k⟩ := h2.one
  obtain ⟨p, ys, rfl, hl, hd⟩ := k.toLst
  exact ⟨p, ys, rfl, .inl (gr_L s2.fr hl), fun l nl => q _ _ _ _ g2 (s2.cell nl) hd⟩
theorem c_sl {α : Type} {e : α → PyData} {xs : List α} {tl th : TO} {lo hi : Option Int} (h : EvD K te σ F cs (eL e xs) cs1) (h1 : EvO tl σ F cs1 lo cs2) (h2 : EvO th σ F cs2 hi cs3) : EvC K (tSl (rSlL K) te tl th) σ F cs ((cutL xs lo hi).map e) cs3 := fun F1 H1 g1 s Q q =>
  h F1 H1 g1 s _ fun v F2 H2 g2 s2 hv => h1 F2 H2 (g1.tr g2) s2 _ fun F3 H3 g3 s3 => h2 F3 H3 ((g1.tr g2).tr g3) s3 _ fun F4 H4 g4 s4 => by
    obtain ⟨p, vs, rfl, hl, hd⟩ := hv.toLst
    have hd' := hd.gr (g3.tr g4)
    refine ⟨p, vs, rfl, gr_L s4.fr (gr_L (g3.tr g4) hl), fun l nl => q _ _ _ _ (g2.tr (g3.tr g4)) (s4.cell nl) ?_⟩
    rw [← cutL_map]
    unfold cutV cutL
    rw [hd.len]
    exact (hd'.drop _).take _
/-- list + list, list * int -/
def rCatS (K : PySem.W.Frag) : R2 := fun x y H Q => ∃ l b xs zs, x = .ref l ∧ y = .ref b ∧ SqL K H l xs ∧ SqL K H b zs ∧ xs.length + zs.length ≤ sizeLine ∧ ∀ p, H p = none → Q (.ref p) (upd H p (.lst (xs ++ zs)))
theorem op_catS {X : Cx} : OpR X (binaryOp .Add) (rCatS X.K) := by
  intro pins s σ H x y v u Q I rx ry h
  obtain ⟨l, b, xs, zs, rfl, rfl, hH, hB, hz, q⟩ := h
  cases rx
  cases ry
  obtain ⟨its, r, pl, _⟩ := I.list hH
  obtain ⟨its2, r2, pl2, _⟩ := I.list hB
  have e1 := r.length
  have e2 := r2.length
  obtain ⟨⟨cls, dd, data, sl⟩, ho, hc, n, hd⟩ := pl.isList
  obtain ⟨⟨cls2, dd2, data2, sl2⟩, ho2, hc2, n2, hd2⟩ := pl2.isList
  simp only at hc hd hc2 hd2
  subst hc hd hc2 hd2
  refine PySem.concat_meets ⟨_, ho, rfl⟩ ⟨_, ho2, rfl⟩ PySem.noFill_list_add PySem.seq_list_add PySem.F.slot_list_add PySem.F.entry_list_add (PySem.F.args_list_add_2 _ _)
    (PyProof.Rows.list_addW l b its.toArray its2.toArray n n2 dd dd2 sl sl2 (by simp only [List.size_toArray]; omega)) ⟨ho, ho2, ?_⟩
  rw [show its.toArray ++ its2.toArray = (its ++ its2).toArray by simp]
  exact ⟨.ref _, _, I.lnew (t' := s.toks) (r.append r2) (by rw [List.length_append]; omega), rfl, q _ I.fresh⟩
theorem c_cat {α : Type} {en : α → PyData} {xs ys zs : List α} (ha : EvD K ta σ F cs (eL en xs) cs1) (hb : EvD K tb σ F cs1 (eL en ys) cs2) (hz : catM xs ys = some zs) : EvC K (tOp (rCatS K) ta tb) σ F cs (zs.map en) cs2 := fun F1 H1 g1 s Q q =>
  ha F1 H1 g1 s _ fun v F2 H2 g2 s2 h2 => hb F2 H2 (g1.tr g2) s2 _ fun w F3 H3 g3 s3 h3 => by
    obtain ⟨p, vs, rfl, hl, hd⟩ := (h2.gr g3).toLst
    obtain ⟨p', ws, rfl, hl', hd'⟩ := h3.toLst
    obtain ⟨h4, rfl⟩ := catM_some hz
    refine ⟨p, p', vs, ws, rfl, rfl, gr_L s3.fr hl, gr_L s3.fr hl', ?_, fun l nl => q _ _ _ _ (g2.tr g3) (s3.cell nl) ?_⟩
    · rw [hd.len, hd'.len, List.length_map, List.length_map]; exact sz h4
    · rw [List.map_append]; exact hd.app hd'
theorem c_rep {α : Type} {en : α → PyData} {xs zs : List α} (ha : EvC K ta σ F cs (xs.map en) cs1) (hb : ∀ cs, EvD K tb σ F cs (.int b) cs) (hz : repM xs b = some zs) : EvC K (tOp rRep ta tb) σ F cs (zs.map en) cs1 := fun F1 H1 g1 s Q q =>
  ha F1 H1 g1 s _ fun p vs F2 H2 g2 s2 h2 => hb _ F2 H2 (g1.tr g2) s2 _ fun w F3 H3 g3 s3 h3 => by
    cases h3.toInt
    obtain ⟨⟨h4, h5, h6⟩, rfl⟩ := repM_some hz
    have s4 := s3.froze
    refine ⟨p, b, vs, rfl, rfl, s3.at List.mem_cons_self, h4, h5, ?_, fun l nl => q _ _ _ _ ((g2.tr g3).tr s3.gfr) (s4.cell nl) ?_⟩
    · rw [h2.len, List.length_map]; exact sz h6
    · have := ((h2.gr g3).gr s3.gfr).rep b.toNat
      rw [List.map_flatten, List.map_replicate]
      exact this
/-- x in a list of ints, of texts -/
theorem inV_int (x : Int) (xs : List Int) : inV (.int x) (xs.map V.int) = xs.any (fun y => y == x) := by
  unfold inV
  rw [List.any_map]
  congr 1
theorem inV_str (x : Str) (xs : List Str) : inV (.str x) (xs.map V.str) = xs.any (fun y => y == x) := by
  unfold inV
  rw [List.any_map]
  congr 1
def inL {α : Type} [BEq α] (x : α) (xs : List α) : Bool := xs.any fun y => y == x
theorem flatI (xs : List Int) : (xs.map V.int).all flatV = true := by rw [List.all_map]; exact List.all_eq_true.mpr fun _ _ => rfl
theorem flatS (xs : List Str) : (xs.map V.str).all flatV = true := by rw [List.all_map]; exact List.all_eq_true.mpr fun _ _ => rfl
theorem d_inI {xs : List Int} (ha : EvD K ta σ F cs (.int a) cs1) (hb : EvD K tb σ F cs1 (eL eI xs) cs2) : EvD K (tOp (rIn K false) ta tb) σ F cs (.bool (inL a xs)) cs2 :=
  d_op ha hb fun x y F2 H2 hx hy s _ Q q => by
    cases hx.toInt
    obtain ⟨p, vs, rfl, hl, hd⟩ := hy.toLst
    cases hd.ints
    refine ⟨p, _, rfl, .inl (gr_L s.fr hl), rfl, flatI xs, q _ F2 H2 .rfl s ?_⟩
    rw [inV_int]; exact .bl _
theorem d_ninI {xs : List Int} (ha : EvD K ta σ F cs (.int a) cs1) (hb : EvD K tb σ F cs1 (eL eI xs) cs2) : EvD K (tOp (rIn K true) ta tb) σ F cs (.bool (!inL a xs)) cs2 :=
  d_op ha hb fun x y F2 H2 hx hy s _ Q q => by
    cases hx.toInt
    obtain ⟨p, vs, rfl, hl, hd⟩ := hy.toLst
    cases hd.ints
    refine ⟨p, _, rfl, .inl (gr_L s.fr hl), rfl, flatI xs, q _ F2 H2 .rfl s ?_⟩
    rw [inV_int]; exact .bl _
theorem d_inSs {x : Str} {xs : List Str} (ha : EvD K ta σ F cs (.str x) cs1) (hb : EvD K tb σ F cs1 (eL eS xs) cs2) : EvD K (tOp (rIn K false) ta tb) σ F cs (.bool (inL x xs)) cs2 :=
  d_op ha hb fun _ y F2 H2 hx hy s _ Q q => by
    cases hx.toStr
    obtain ⟨p, vs, rfl, hl, hd⟩ := hy.toLst
    cases hd.strs
    refine ⟨p, _, rfl, .inl (gr_L s.fr hl), rfl, flatS xs, q _ F2 H2 .rfl s ?_⟩
    rw [inV_str]; exact .bl _
theorem d_ninSs {x : Str} {xs : List Str} (ha : EvD K ta σ F cs (.str x) cs1) (hb : EvD K tb σ F cs1 (eL eS xs) cs2) : EvD K (tOp (rIn K true) ta tb) σ F cs (.bool (!inL x xs)) cs2 :=
  d_op ha hb fun _ y F2 H2 hx hy s _ Q q => by
    cases hx.toStr
    obtain ⟨p, vs, rfl, hl, hd⟩ := hy.toLst
    cases hd.strs
    refine ⟨p, _, rfl, .inl (gr_L s.fr hl), rfl, flatS xs, q _ F2 H2 .rfl s ?_⟩
    rw [inV_str]; exact .bl _
/-- sep.join(xs) -/
def joinM (x : Str) (xs : List Str) : Option Str := if ((xs.map (·.length)).sum + x.length * xs.length) ≤ 100000 then some (Txt.join x xs) else none

/-! walks -/
theorem src_list {p : Addr} {vs : List V} {ds : List PyData} (h : SqL K F p vs) (hd : Dts K F vs ds) : Src K (Itl K p) F ds := fun F1 c1 H1 g s => by
  have q : SqL K H1 p vs := gr_L s.fr (gr_L g h)
  refine ⟨fun i hi => ?_, ⟨vs, q, by rw [hd.len]; exact Nat.le_refl _⟩, fun i v H2 d e y => ?_⟩
  · have hi' : i < vs.length := by rw [hd.len]; exact hi
    exact ⟨vs, vs[i], q, List.getElem?_eq_getElem hi'⟩
  · obtain ⟨rfl, y⟩ := y
    obtain ⟨d', e', h'⟩ := hd.get (y vs q)
    rw [e] at e'; cases e'
    exact ⟨F1, .rfl, s, h'.gr g⟩
theorem src_enum {p : Addr} {vs : List V} {ds : List PyData} (h : SqL K F p vs) (hd : Dts K F vs ds) : Src K (Ite K p) F (ds.mapIdx fun i d => .tuple [.int i, d]) := fun F1 c1 H1 g s => by
  have q : SqL K H1 p vs := gr_L s.fr (gr_L g h)
  refine ⟨fun i hi => ?_, ⟨vs, q, by rw [hd.len]; simp⟩, fun i v H2 d e y => ?_⟩
  · have hi' : i < vs.length := by rw [hd.len]; simpa using hi
    exact ⟨vs, vs[i], q, List.getElem?_eq_getElem hi'⟩
  · obtain ⟨T, x, rfl, nT, rfl, y⟩ := y
    obtain ⟨d', e', h'⟩ := hd.get (y vs q)
    rw [List.getElem?_mapIdx, e'] at e
    cases e
    exact ⟨_, Gr.new (s.fr.back nT), s.lay nT, .tup (.inl (.inl upd_same)) (.cons (.int _) (.cons (h'.gr (g.tr (Gr.new (s.fr.back nT)))) .nil))⟩
theorem src_zip {p p' : Addr} {vs ws : List V} {ds es : List PyData} (h : SqL K F p vs) (hd : Dts K F vs ds) (h' : SqL K F p' ws) (hd' : Dts K F ws es) : Src K (Itz K p p') F (List.zipWith (fun d e => .tuple [d, e]) ds es) := fun F1 c1 H1 g s => by
  have q : SqL K H1 p vs := gr_L s.fr (gr_L g h)
  have q' : SqL K H1 p' ws := gr_L s.fr (gr_L g h')
  refine ⟨fun i hi => ?_, ⟨vs, ws, q, q', by rw [hd.len, hd'.len, List.length_zipWith]; omega⟩, fun i v H2 d e y => ?_⟩
  · rw [List.length_zipWith] at hi
    have h1 : i < vs.length := by rw [hd.len]; omega
    have h2 : i < ws.length := by rw [hd'.len]; omega
    exact ⟨vs, ws, vs[i], ws[i], q, q', List.getElem?_eq_getElem h1, List.getElem?_eq_getElem h2⟩
  · obtain ⟨T, x, z, rfl, nT, rfl, y, y'⟩ := y
    obtain ⟨d1, e1, h1⟩ := hd.get (y vs q)
    obtain ⟨d2, e2, h2⟩ := hd'.get (y' ws q')
    rw [List.getElem?_zipWith, e1, e2] at e
    cases e
    have gg := g.tr (Gr.new (o := .tup [x, z]) (s.fr.back nT))
    exact ⟨_, Gr.new (s.fr.back nT), s.lay nT, .tup (.inl (.inl upd_same)) (.cons (h1.gr gg) (.cons (h2.gr gg) .nil))⟩
theorem i_list {α : Type} {en : α → PyData} {xs : List α} (h : EvD K te σ F cs (eL en xs) cs1) : EvI K (iList K te) σ F cs (xs.map en) cs1 := fun F1 H1 g1 s R q =>
  h F1 H1 g1 s _ fun v F2 H2 g2 s2 h2 => by
    obtain ⟨p, vs, rfl, hs, hd⟩ := h2.toLst
    exact ⟨p, rfl, ⟨vs, gr_L s2.fr hs⟩, q _ F2 H2 g2 s2 (src_list hs hd)⟩
theorem enum_map {α : Type} (en : α → PyData) (xs : List α) : (xs.map en).mapIdx (fun i d => PyData.tuple [.int i, d]) = (enumM xs).map (eT2 eI en) := by
  unfold enumM
  apply List.ext_getElem? 
  intro i
  simp only [List.getElem?_mapIdx, List.getElem?_map]
  cases xs[i]? <;> rfl
theorem i_enum {α : Type} {en : α → PyData} {xs : List α} (h : EvDs K as σ F cs [eL en xs] cs1) : EvI K (iEnum K as) σ F cs ((enumM xs).map (eT2 eI en)) cs1 := fun F1 H1 g1 s R q =>
  h F1 H1 g1 s _ fun v F2 H2 g2 s2 h2 => by
    obtain ⟨v, rfl, k⟩ := h2.one
    obtain ⟨p, vs, rfl, hs, hd⟩ := k.toLst
    refine ⟨p, vs, rfl, gr_L s2.fr hs, q _ F2 H2 g2 s2 ?_⟩
    rw [← enum_map]
    exact src_enum hs hd
theorem zip_map {α β : Type} (en : α → PyData) (em : β → PyData) : ∀ (xs : List α) (ys : List β), List.zipWith (fun d e => PyData.tuple [d, e]) (xs.map en) (ys.map em) = (xs.zip ys).map (eT2 en em)
  | [], _ => rfl
  | _ :: _, [] => rfl
  | x :: xs, y :: ys => by
    simp only [List.map_cons, List.zipWith_cons_cons, List.zip_cons_cons]
    rw [zip_map en em xs ys]
theorem i_zip {α β : Type} {en : α → PyData} {em : β → PyData} {xs : List α} {ys : List β} (h : EvDs K as σ F cs [eL en xs, eL em ys] cs1) : EvI K (iZip K as) σ F cs ((xs.zip ys).map (eT2 en em)) cs1 := fun F1 H1 g1 s R q =>
  h F1 H1 g1 s _ fun v F2 H2 g2 s2 h2 => by
    obtain ⟨v, w, rfl, k1, k2⟩ := h2.two
    obtain ⟨p, vs, rfl, hs, hd⟩ := k1.toLst
    obtain ⟨p', ws, rfl, hs', hd'⟩ := k2.toLst
    refine ⟨p, p', vs, ws, rfl, gr_L s2.fr hs, gr_L s2.fr hs', q _ F2 H2 g2 s2 ?_⟩
    rw [← zip_map]
    exact src_zip hs hd hs' hd'
theorem src_rng {lo : Int} {n : Nat} : Src K (Itr lo n) F ((List.range n).map fun (i : Nat) => PyData.int (lo + (i : Int))) := fun F1 c1 H1 g s => by
  refine ⟨fun i hi => (by simpa using hi : i < n), by show n ≤ _; simp, fun i v H2 d e y => ?_⟩
  obtain ⟨rfl, rfl⟩ := y
  rw [List.getElem?_map] at e
  cases q : (List.range n)[i]? with
  | none => rw [q] at e; cases e
  | some j =>
    rw [q] at e
    have : i = j := by
      obtain ⟨h1, h2⟩ := List.getElem?_eq_some_iff.mp q
      simpa using h2
    subst this
    cases e
    exact ⟨F1, .rfl, s, .int _⟩
theorem i_rng1 {xs : List Int} (h : EvDs K as σ F cs [.int b] cs1) (hx : rngM 0 b = some xs) : EvI K (iRng1 as) σ F cs (xs.map eI) cs1 := fun F1 H1 g1 s R q =>
  h F1 H1 g1 s _ fun v F2 H2 g2 s2 h2 => by
    obtain ⟨v, rfl, k⟩ := h2.one; cases k.toInt
    obtain ⟨⟨_, _, h3, h4⟩, rfl⟩ := rngM_some hx
    refine ⟨b, rfl, h3, h4, q _ F2 H2 g2 s2 ?_⟩
    have := src_rng (K := K) (F := F2) (lo := 0) (n := b.toNat)
    unfold rngL
    rw [List.map_map, Int.sub_zero]
    exact this
theorem i_rng2 {xs : List Int} (h : EvDs K as σ F cs [.int a, .int b] cs1) (hx : rngM a b = some xs) : EvI K (iRng2 as) σ F cs (xs.map eI) cs1 := fun F1 H1 g1 s R q =>
  h F1 H1 g1 s _ fun v F2 H2 g2 s2 h2 => by
    obtain ⟨v, w, rfl, k1, k2⟩ := h2.two; cases k1.toInt; cases k2.toInt
    obtain ⟨h3, rfl⟩ := rngM_some hx
    refine ⟨a, b, rfl, h3, q _ F2 H2 g2 s2 ?_⟩
    have := src_rng (K := K) (F := F2) (lo := a) (n := (b - a).toNat)
    unfold rngL
    rw [List.map_map]
    exact this
theorem i_str {x : Str} (h : EvD K te σ F cs (.str x) cs1) : EvI K (iStr te) σ F cs ((signs x).map eS) cs1 := fun F1 H1 g1 s R q =>
  h F1 H1 g1 s _ fun v F2 H2 g2 s2 h2 => by
    refine ⟨x, h2.toStr, q _ F2 H2 g2 s2 fun F3 c3 H3 g3 s3 => ⟨fun i hi => by simpa [signs, Its] using hi, by simp [signs, Its], fun i v H4 d e y => ?_⟩⟩
    obtain ⟨rfl, c, hc, rfl⟩ := y
    unfold signs at e
    rw [List.map_map, List.getElem?_map, Array.getElem?_toList, hc] at e
    cases e
    exact ⟨F3, .rfl, s3, .str _⟩
end
end Bw

namespace Bw
open PySem L2
/-! what a loop's turn leaves -/
inductive Fl (S R : Type) where
  | nx (s : S) | br (s : S) | rt (r : R)
def forF {α S R : Type} (body : S → α → Option (Fl S R)) : List α → S → Option (Fl S R)
  | [], s => some (.nx s)
  | x :: xs, s => (body s x).bind fun f => match f with
    | .nx s' => forF body xs s'
    | .br s' => some (.br s')
    | .rt r => some (.rt r)
def whileF {S R : Type} (c : S → Option Bool) (body : S → Option (Fl S R)) : Nat → S → Option (Fl S R)
  | 0, _ => none
  | n + 1, s => (c s).bind fun b => if b = true then (body s).bind fun f => match f with
      | .nx s' => whileF c body n s'
      | .br s' => some (.br s')
      | .rt r => some (.rt r)
    else some (.nx s)
def lcM {α β : Type} (f : α → Option (Option β)) : List α → Option (List β)
  | [] => some []
  | x :: xs => (f x).bind fun o => (lcM f xs).bind fun ys => some (match o with
    | some y => y :: ys
    | none => ys)
theorem lcM_len {α β : Type} {f : α → Option (Option β)} : ∀ {xs : List α} {ys : List β}, lcM f xs = some ys → ys.length ≤ xs.length
  | [], ys, h => by cases h; exact Nat.le_refl _
  | x :: xs, ys, h => by
    obtain ⟨o, h1, h⟩ := bnd h
    obtain ⟨zs, h2, h⟩ := bnd h
    have := lcM_len h2
    cases o with
    | none => cases h; exact Nat.le_succ_of_le this
    | some y => cases h; exact Nat.succ_le_succ this
theorem lcM_map {α β : Type} (f : α → β) : ∀ xs : List α, lcM (fun x => some (some (f x))) xs = some (xs.map f)
  | [] => rfl
  | x :: xs => by show (lcM _ xs).bind _ = _; rw [lcM_map f xs]; rfl
theorem lcM_filter {α β : Type} (p : α → Bool) (f : α → β) : ∀ xs : List α, lcM (fun x => some (if p x = true then some (f x) else none)) xs = some ((xs.filter p).map f)
  | [] => rfl
  | x :: xs => by
    show (lcM _ xs).bind _ = _
    rw [lcM_filter p f xs, List.filter_cons]
    by_cases h : p x = true
    · simp [h]
    · simp [h]
section
variable {K : PySem.W.Frag} {σ : St} {F F' : Hp} {cs cs1 cs2 cs3 : Cs} {ta tb tc te : TE} {d e : PyData} {as : TA} {a b c : Int} {nx bk ct : St → Hp → Prop} {rt : VK} {H : Hp} {t u : TS}
/-! statements -/
theorem go {D : Ends} {σ' : St} (e : σ = σ') (h : t D σ' H) : t D σ H := e ▸ h
theorem s_set {i : Nat} {σ' : V → St} (s : Sta F cs H) (h : EvD K te σ F cs d cs1) (hσ : ∀ v, σ.set i (some v) = σ' v) (q : ∀ v F2 H2, Gr F F2 → Sta F2 cs1 H2 → Dt K F2 v d → nx (σ' v) H2) : tAsg te (gName i) ⟨nx, rt, bk, ct⟩ σ H := h F H .rfl s _ fun v F2 H2 g2 s2 h2 => by
  show nx (σ.set i (some v)) H2
  rw [hσ v]; exact q v F2 H2 g2 s2 h2
/-- a flat value -/
theorem s_setV {i : Nat} {σ' : St} {w : V} (hw : ∀ F v, Dt K F v d → v = w) (s : Sta F cs H) (h : EvD K te σ F cs d cs1) (hσ : σ.set i (some w) = σ') (q : ∀ F2 H2, Gr F F2 → Sta F2 cs1 H2 → nx σ' H2) : tAsg te (gName i) ⟨nx, rt, bk, ct⟩ σ H := h F H .rfl s _ fun v F2 H2 g2 s2 h2 => by
  cases hw F2 v h2
  show nx (σ.set i (some w)) H2
  rw [hσ]; exact q F2 H2 g2 s2
theorem s_setC {ds : List PyData} {i : Nat} {σ' : Addr → St} (s : Sta F cs H) (h : EvC K te σ F cs ds cs1) (hσ : ∀ p, σ.set i (some (.ref p)) = σ' p) (q : ∀ p vs F2 H2, Gr F F2 → Sta F2 ((p, .lst vs) :: cs1) H2 → Dts K F2 vs ds → nx (σ' p) H2) : tAsg te (gName i) ⟨nx, rt, bk, ct⟩ σ H := h F H .rfl s _ fun p vs F2 H2 g2 s2 h2 => by
  show nx (σ.set i (some (.ref p))) H2
  rw [hσ p]; exact q p vs F2 H2 g2 s2 h2
theorem s_ret (s : Sta F cs H) (h : EvD K te σ F cs d cs1) (q : ∀ v F2 H2, Gr F F2 → Sta F2 cs1 H2 → Dt K F2 v d → rt v H2) : tRet te ⟨nx, rt, bk, ct⟩ σ H := h F H .rfl s _ q
theorem s_drop (s : Sta F cs H) (h : EvD K te σ F cs d cs1) (q : ∀ F2 H2, Gr F F2 → Sta F2 cs1 H2 → nx σ H2) : tDrop te ⟨nx, rt, bk, ct⟩ σ H := h F H .rfl s _ fun v F2 H2 g2 s2 _ => q F2 H2 g2 s2
theorem s_if {c : TT} {b : Bool} (s : Sta F cs H) (h : EvT c σ F cs b cs1) (qt : b = true → ∀ F2 H2, Gr F F2 → Sta F2 cs1 H2 → t ⟨nx, rt, bk, ct⟩ σ H2) (qf : b = false → ∀ F2 H2, Gr F F2 → Sta F2 cs1 H2 → u ⟨nx, rt, bk, ct⟩ σ H2) : tIfS c t u ⟨nx, rt, bk, ct⟩ σ H :=
  h F H .rfl s _ fun F2 H2 g2 s2 => by
    cases b with
    | true => exact qt rfl F2 H2 g2 s2
    | false => exact qf rfl F2 H2 g2 s2
/-- cells: append, item, pop -/
theorem s_app {l1 l2 : Cs} {i : Nat} {p : Addr} {vs : List V} (s : Sta F (l1 ++ (p, .lst vs) :: l2) H) (hi : σ[i]? = some (some (.ref p))) (h : EvD K te σ F (l1 ++ (p, .lst vs) :: l2) d (l1 ++ (p, .lst vs) :: l2)) (hl : vs.length < 100000)
    (q : ∀ v F2 H2, Gr F F2 → Sta F2 (l1 ++ (p, .lst (vs ++ [v])) :: l2) H2 → Dt K F2 v d → nx σ H2) : tDrop (tBM K "list" rAppend (tVar i) (tCons te tNil)) ⟨nx, rt, bk, ct⟩ σ H :=
  ⟨.ref p, hi, .inl ⟨rfl, _, .inl (.inl s.getAt)⟩, h F H .rfl s _ fun v F2 H2 g2 s2 h2 => ⟨p, vs, v, rfl, rfl, s2.getAt, szl hl, q v F2 _ g2 s2.putAt h2⟩⟩
theorem s_item {l1 l2 : Cs} {i : Nat} {p : Addr} {vs : List V} {ti : TE} {k : Int} {j : Nat} (s : Sta F (l1 ++ (p, .lst vs) :: l2) H) (hi : σ[i]? = some (some (.ref p))) (h : EvD K te σ F (l1 ++ (p, .lst vs) :: l2) d (l1 ++ (p, .lst vs) :: l2))
    (h2 : EvD K ti σ F (l1 ++ (p, .lst vs) :: l2) (.int k) (l1 ++ (p, .lst vs) :: l2)) (hj : ixN vs.length k = some j) (q : ∀ v F2 H2, Gr F F2 → Sta F2 (l1 ++ (p, .lst (vs.set j v)) :: l2) H2 → Dt K F2 v d → nx σ H2) : tAsg te (gSub (tVar i) ti rSetL) ⟨nx, rt, bk, ct⟩ σ H :=
  h F H .rfl s _ fun v F2 H2 g2 s2 hv => ⟨.ref p, hi, h2 F2 H2 g2 s2 _ fun w F3 H3 g3 s3 hw => ⟨p, vs, k, j, rfl, hw.toInt, s3.getAt, hj, q v F3 _ (g2.tr g3) s3.putAt (hv.gr g3)⟩⟩
/-- a cell lent for a flat answer -/
theorem d_lend {l1 l2 : Cs} {p : Addr} {o : HO} {w : V} (hw : ∀ F v, Dt K F v d → v = w) (hd : ∀ F, Dt K F w d) (h : ∀ F1, Gr F F1 → F1 p = none → EvD K te σ (upd F1 p o) (l1 ++ l2) d (l1 ++ l2)) : EvD K te σ F (l1 ++ (p, o) :: l2) d (l1 ++ (p, o) :: l2) := fun F1 H1 g1 s Q q => by
  refine h F1 g1 s.freeAt (upd F1 p o) H1 .rfl s.frozeAt Q fun v F2 H2 g2 s2 h2 => ?_
  cases hw F2 v h2
  exact q w (cut F2 p) H2 (gr_cut s.freeAt g2) (Sta.lent g2 s2) (hd _)
theorem t_lend {l1 l2 : Cs} {p : Addr} {o : HO} {t : TT} {b : Bool} (h : ∀ F1, Gr F F1 → F1 p = none → EvT t σ (upd F1 p o) (l1 ++ l2) b (l1 ++ l2)) : EvT t σ F (l1 ++ (p, o) :: l2) b (l1 ++ (p, o) :: l2) := fun F1 H1 g1 s Q q => by
  refine h F1 g1 s.freeAt (upd F1 p o) H1 .rfl s.frozeAt Q fun F2 H2 g2 s2 => ?_
  exact q (cut F2 p) H2 (gr_cut s.freeAt g2) (Sta.lent g2 s2)
theorem lent_l {p : Addr} {vs : List V} {ds : List PyData} (hn : F p = none) (h : Dts K F vs ds) : Dt K (upd F p (.lst vs)) (.ref p) (.list ds) := .lst (.inl (.inl upd_same)) (h.gr (Gr.new hn))
/-- unpacking -/
theorem u2 {v : V} {d1 d2 : PyData} (h : Dt K F v (.tuple [d1, d2])) : ∃ p v1 v2, v = .ref p ∧ SqT K F p [v1, v2] ∧ Dt K F v1 d1 ∧ Dt K F v2 d2 := by
  obtain ⟨p, vs, rfl, h1, h2⟩ := h.toTup
  obtain ⟨v1, v2, rfl, k1, k2⟩ := h2.two
  exact ⟨p, v1, v2, rfl, h1, k1, k2⟩
theorem u3 {v : V} {d1 d2 d3 : PyData} (h : Dt K F v (.tuple [d1, d2, d3])) : ∃ p v1 v2 v3, v = .ref p ∧ SqT K F p [v1, v2, v3] ∧ Dt K F v1 d1 ∧ Dt K F v2 d2 ∧ Dt K F v3 d3 := by
  obtain ⟨p, vs, rfl, h1, h2⟩ := h.toTup
  obtain ⟨v1, v2, v3, rfl, k1, k2, k3⟩ := h2.three
  exact ⟨p, v1, v2, v3, rfl, h1, k1, k2, k3⟩
theorem u4 {v : V} {d1 d2 d3 d4 : PyData} (h : Dt K F v (.tuple [d1, d2, d3, d4])) : ∃ p v1 v2 v3 v4, v = .ref p ∧ SqT K F p [v1, v2, v3, v4] ∧ Dt K F v1 d1 ∧ Dt K F v2 d2 ∧ Dt K F v3 d3 ∧ Dt K F v4 d4 := by
  obtain ⟨p, vs, rfl, h1, h2⟩ := h.toTup
  obtain ⟨v1, v2, v3, v4, rfl, k1, k2, k3, k4⟩ := h2.four
  exact ⟨p, v1, v2, v3, v4, rfl, h1, k1, k2, k3, k4⟩
/-! loops -/
theorem s_for {α S : Type} {wi : TI} {g : TG} {tb : TS} {xs : List α} {en : α → PyData} (st : S → Hp → St → Cs → Prop) {body : S → α → Option S} {s0 r : S}
    (s : Sta F cs H) (hi : EvI K wi σ F cs (xs.map en) cs1) (h0 : ∀ F', Gr F F' → st s0 F' σ cs1) (hm : xs.foldlM body s0 = some r)
    (turn : ∀ x a b F1 F3 σ1 c1 H3 v (N : St → Hp → Prop), Gr F F1 → st a F1 σ1 c1 → Gr F1 F3 → Sta F3 c1 H3 → Dt K F3 v (en x) → body a x = some b → (∀ F4 σ4 c4 H4, Gr F3 F4 → Sta F4 c4 H4 → st b F4 σ4 c4 → N σ4 H4) →
      g v σ1 H3 fun σ2 H2 => tb ⟨N, rt, nx, N⟩ σ2 H2)
    (done : ∀ F1 σ1 c1 H1, Gr F F1 → Sta F1 c1 H1 → st r F1 σ1 c1 → nx σ1 H1) : tFor wi g tb ⟨nx, rt, bk, ct⟩ σ H :=
  hi F H .rfl s _ fun J F2 H2 g2 s2 hs => by
    refine ⟨fun i m σ1 H1 => m = xs.length - i ∧ i ≤ xs.length ∧ ∃ a F1 c1, Gr F2 F1 ∧ Sta F1 c1 H1 ∧ st a F1 σ1 c1 ∧ (xs.drop i).foldlM body a = some r, ⟨xs.length, by simp, Nat.zero_le _, s0, F2, cs1, .rfl, s2, h0 F2 g2, by simpa using hm⟩, ?_⟩
    rintro i m σ1 H1 ⟨rfl, hi, a, F1, c1, g1, s1, ha, hr⟩
    obtain ⟨hgo, hstop, hy⟩ := hs F1 c1 H1 g1 s1
    by_cases hlt : i < xs.length
    · rw [List.drop_eq_getElem_cons hlt, List.foldlM_cons] at hr
      cases hb : body a xs[i] with
      | none => rw [hb] at hr; cases hr
      | some b =>
        rw [hb] at hr
        refine .inr ⟨hgo i (by simpa using hlt), fun σ2 H2 => ∃ F3 c3, Gr F2 F3 ∧ Sta F3 c3 H2 ∧ st b F3 σ2 c3, fun σ' H' ⟨F3, c3, g3, s3, h3⟩ => ⟨xs.length - (i + 1), by omega, rfl, hlt, b, F3, c3, g3, s3, h3, hr⟩, fun x H' y => ?_⟩
        obtain ⟨F3, g3, s3, d3⟩ := hy i x H' (en xs[i]) (by rw [List.getElem?_map, List.getElem?_eq_getElem hlt]; rfl) y
        exact turn xs[i] a b F1 F3 σ1 c1 H' x _ (g2.tr g1) ha g3 s3 d3 hb fun F4 σ4 c4 H4 g4 s4 h4 => ⟨F4, c4, (g1.tr g3).tr g4, s4, h4⟩
    · have e : i = xs.length := by omega
      subst e
      rw [List.drop_length] at hr
      cases hr
      exact .inl ⟨by simpa using hstop, done F1 σ1 c1 H1 (g2.tr g1) s1 ha⟩
/-- .. that may be left -/
theorem s_forF {α S R : Type} {wi : TI} {g : TG} {tb : TS} {xs : List α} {en : α → PyData} (st : S → Hp → St → Cs → Prop) {body : S → α → Option (Fl S R)} {s0 : S} {r : Fl S R}
    (s : Sta F cs H) (hi : EvI K wi σ F cs (xs.map en) cs1) (h0 : ∀ F', Gr F F' → st s0 F' σ cs1) (hm : forF body xs s0 = some r)
    (done : ∀ z F1 σ1 c1 H1, r = .nx z ∨ r = .br z → Gr F F1 → Sta F1 c1 H1 → st z F1 σ1 c1 → nx σ1 H1)
    (turn : ∀ x a b F1 F3 σ1 c1 H3 v (N B : St → Hp → Prop), Gr F F1 → st a F1 σ1 c1 → Gr F1 F3 → Sta F3 c1 H3 → Dt K F3 v (en x) → body a x = some b → (∀ z F4 σ4 c4 H4, b = .nx z → Gr F3 F4 → Sta F4 c4 H4 → st z F4 σ4 c4 → N σ4 H4) →
      (∀ z F4 σ4 c4 H4, b = .br z → Gr F3 F4 → Sta F4 c4 H4 → st z F4 σ4 c4 → B σ4 H4) → (∀ z, b = .rt z → r = .rt z) →
      g v σ1 H3 fun σ2 H2 => tb ⟨N, rt, B, N⟩ σ2 H2) : tFor wi g tb ⟨nx, rt, bk, ct⟩ σ H :=
  hi F H .rfl s _ fun J F2 H2 g2 s2 hs => by
    refine ⟨fun i m σ1 H1 => m = xs.length - i ∧ i ≤ xs.length ∧ ∃ a F1 c1, Gr F2 F1 ∧ Sta F1 c1 H1 ∧ st a F1 σ1 c1 ∧ forF body (xs.drop i) a = some r, ⟨xs.length, by simp, Nat.zero_le _, s0, F2, cs1, .rfl, s2, h0 F2 g2, by simpa using hm⟩, ?_⟩
    rintro i m σ1 H1 ⟨rfl, hi, a, F1, c1, g1, s1, ha, hr⟩
    obtain ⟨hgo, hstop, hy⟩ := hs F1 c1 H1 g1 s1
    by_cases hlt : i < xs.length
    · rw [List.drop_eq_getElem_cons hlt] at hr
      obtain ⟨b, hb, hr⟩ := bnd (show (body a xs[i]).bind _ = some r from hr)
      refine .inr ⟨hgo i (by simpa using hlt), fun σ2 H2 => ∃ z F3 c3, b = .nx z ∧ Gr F2 F3 ∧ Sta F3 c3 H2 ∧ st z F3 σ2 c3, fun σ' H' ⟨z, F3, c3, e3, g3, s3, h3⟩ => ⟨xs.length - (i + 1), by omega, rfl, hlt, z, F3, c3, g3, s3, h3, by subst e3; exact hr⟩, fun x H' y => ?_⟩
      obtain ⟨F3, g3, s3, d3⟩ := hy i x H' (en xs[i]) (by rw [List.getElem?_map, List.getElem?_eq_getElem hlt]; rfl) y
      refine turn xs[i] a b F1 F3 σ1 c1 H' x _ _ (g2.tr g1) ha g3 s3 d3 hb (fun z F4 σ4 c4 H4 e4 g4 s4 h4 => ⟨z, F4, c4, e4, (g1.tr g3).tr g4, s4, h4⟩) (fun z F4 σ4 c4 H4 e4 g4 s4 h4 => ?_) (fun z e => ?_)
      · subst e4
        exact done z F4 σ4 c4 H4 (.inr (Option.some.inj hr).symm) (((g2.tr g1).tr g3).tr g4) s4 h4
      · subst e
        exact (Option.some.inj hr).symm
    · have e : i = xs.length := by omega
      subst e
      rw [List.drop_length] at hr
      cases hr
      exact .inl ⟨by simpa using hstop, done a F1 σ1 c1 H1 (.inl rfl) (g2.tr g1) s1 ha⟩
/-- a while -/
theorem s_while {S R : Type} {tc : TT} {tb : TS} (st : S → Hp → St → Cs → Prop) {c : S → Option Bool} {body : S → Option (Fl S R)} {s0 : S} {r : Fl S R} {n : Nat}
    (s : Sta F cs H) (h0 : st s0 F σ cs) (hm : whileF c body n s0 = some r)
    (done : ∀ z F1 σ1 c1 H1, r = .nx z ∨ r = .br z → Gr F F1 → Sta F1 c1 H1 → st z F1 σ1 c1 → nx σ1 H1)
    (test : ∀ z k F1 σ1 c1, Gr F F1 → st z F1 σ1 c1 → c z = some k → EvT tc σ1 F1 c1 k c1) (mono : ∀ z F1 F2 σ1 c1, st z F1 σ1 c1 → Gr F1 F2 → st z F2 σ1 c1)
    (turn : ∀ a b F1 σ1 c1 H1 (N B : St → Hp → Prop), Gr F F1 → st a F1 σ1 c1 → Sta F1 c1 H1 → body a = some b → (∀ z F4 σ4 c4 H4, b = .nx z → Gr F1 F4 → Sta F4 c4 H4 → st z F4 σ4 c4 → N σ4 H4) →
      (∀ z F4 σ4 c4 H4, b = .br z → Gr F1 F4 → Sta F4 c4 H4 → st z F4 σ4 c4 → B σ4 H4) → (∀ z, b = .rt z → r = .rt z) →
      tb ⟨N, rt, B, N⟩ σ1 H1) : tWhile tc tb ⟨nx, rt, bk, ct⟩ σ H := by
  refine ⟨fun m σ1 H1 => ∃ a F1 c1, Gr F F1 ∧ Sta F1 c1 H1 ∧ st a F1 σ1 c1 ∧ whileF c body m a = some r, ⟨n, s0, F, cs, .rfl, s, h0, hm⟩, ?_⟩
  rintro m σ1 H1 ⟨a, F1, c1, g1, s1, ha, hr⟩
  cases m with
  | zero => cases hr
  | succ m =>
    obtain ⟨k, hk, hr⟩ := bnd (show (c a).bind _ = some r from hr)
    refine test a k F1 σ1 c1 g1 ha hk F1 H1 .rfl s1 _ fun F2 H2 g2 s2 => ?_
    cases k with
    | false =>
      cases hr
      exact done a F2 σ1 c1 H2 (.inl rfl) (g1.tr g2) s2 (mono a F1 F2 σ1 c1 ha g2)
    | true =>
      obtain ⟨b, hb, hr⟩ := bnd (show (body a).bind _ = some r from hr)
      refine ⟨fun σ2 H2 => ∃ z F3 c3, b = .nx z ∧ Gr F F3 ∧ Sta F3 c3 H2 ∧ st z F3 σ2 c3, fun σ' H' ⟨z, F3, c3, e3, g3, s3, h3⟩ => ⟨m, Nat.lt_succ_self m, z, F3, c3, g3, s3, h3, by subst e3; exact hr⟩, ?_⟩
      refine turn a b F2 σ1 c1 H2 _ _ (g1.tr g2) (mono a F1 F2 σ1 c1 ha g2) s2 hb (fun z F4 σ4 c4 H4 e4 g4 s4 h4 => ⟨z, F4, c4, e4, (g1.tr g2).tr g4, s4, h4⟩) (fun z F4 σ4 c4 H4 e4 g4 s4 h4 => ?_) (fun z e => ?_)
      · subst e4
        exact done z F4 σ4 c4 H4 (.inr (Option.some.inj hr).symm) ((g1.tr g2).tr g4) s4 h4
      · subst e
        exact (Option.some.inj hr).symm
/-! list comprehensions, whose elements change nothing -/
theorem c_lc {α β : Type} {wi : TI} {g : TG} {tt : TT} {vs : List Nat} {xs : List α} {en : α → PyData} {em : β → PyData} {f : α → Option (Option β)} {ys : List β}
    (hi : EvI K wi σ F cs (xs.map en) cs1) (hm : lcM f xs = some ys) (hl : xs.length ≤ 100000)
    (turn : ∀ x o v F1 p us, Gr F F1 → Dt K F1 v (en x) → f x = some o → ∃ σ2 : St, (∀ H (Q : St → Hp → Prop), Sta F1 ((p, .lst us) :: cs1) H → Q σ2 H → g v (wipe σ vs) H Q) ∧ wipe σ2 vs = wipe σ vs ∧
      EvT tt σ2 F1 ((p, .lst us) :: cs1) o.isSome ((p, .lst us) :: cs1) ∧ ∀ y, o = some y → EvD K te σ2 F1 ((p, .lst us) :: cs1) (em y) ((p, .lst us) :: cs1)) :
    EvC K (tLc wi g tt te vs) σ F cs (ys.map em) cs1 := fun F1 H1 g1 s Q q =>
  hi F1 H1 g1 s _ fun J F2 H2 g2 s2 hs => by
    intro p hp
    have s3 : Sta F2 ((p, .lst []) :: cs1) (upd H2 p (.lst [])) := s2.cell hp
    refine ⟨fun i m H4 => m = xs.length - i ∧ i ≤ xs.length ∧ ∃ us done rest F4, us.length ≤ i ∧ Gr F2 F4 ∧ Sta F4 ((p, .lst us) :: cs1) H4 ∧ Dts K F4 us (done.map em) ∧ lcM f (xs.drop i) = some rest ∧ done ++ rest = ys,
      ⟨xs.length, by simp, Nat.zero_le _, [], [], ys, F2, Nat.le_refl _, .rfl, s3, .nil, by simpa using hm, rfl⟩, ?_⟩
    rintro i m H4 ⟨rfl, hi, us, done, rest, F4, hu, g4, s4, hd, hr, he⟩
    obtain ⟨hgo, hstop, hy⟩ := hs F4 _ H4 g4 s4
    by_cases hlt : i < xs.length
    · rw [List.drop_eq_getElem_cons hlt] at hr
      obtain ⟨o, ho, hr⟩ := bnd (show (f xs[i]).bind _ = some rest from hr)
      obtain ⟨zs, hz, hr⟩ := bnd hr
      refine .inr ⟨hgo i (by simpa using hlt), fun H' => i + 1 ≤ xs.length ∧ ∃ us done rest F4, us.length ≤ i + 1 ∧ Gr F2 F4 ∧ Sta F4 ((p, .lst us) :: cs1) H' ∧ Dts K F4 us (done.map em) ∧ lcM f (xs.drop (i + 1)) = some rest ∧ done ++ rest = ys, fun H' h' => ⟨xs.length - (i + 1), by omega, rfl, h'⟩, fun x H' y => ?_⟩
      obtain ⟨F5, g5, s5, d5⟩ := hy i x H' (en xs[i]) (by rw [List.getElem?_map, List.getElem?_eq_getElem hlt]; rfl) y
      obtain ⟨σ2, h1, h2, h3, h4⟩ := turn xs[i] o x F5 p us (g1.tr (g2.tr (g4.tr g5))) d5 ho
      refine h1 H' _ s5 ⟨h2, h3 F5 H' .rfl s5 _ fun F6 H6 g6 s6 => ?_⟩
      cases o with
      | none =>
        cases hr
        exact ⟨hlt, us, done, zs, F6, Nat.le_succ_of_le hu, g4.tr (g5.tr g6), s6, hd.gr (g5.tr g6), hz, he⟩
      | some z =>
        cases hr
        refine (h4 z rfl) F6 H6 g6 s6 _ fun v F7 H7 g7 s7 hv => ⟨us, s7.at List.mem_cons_self, szl (by omega), hlt, us ++ [v], done ++ [z], zs, F7, by rw [List.length_append]; exact Nat.succ_le_succ hu, g4.tr (g5.tr (g6.tr g7)), s7.put, ?_, hz, ?_⟩
        · rw [List.map_append]
          exact (hd.gr (g5.tr (g6.tr g7))).app (.cons hv .nil)
        · rw [List.append_assoc]; exact he
    · have e : i = xs.length := by omega
      subst e
      rw [List.drop_length] at hr
      cases hr
      rw [List.append_nil] at he
      subst he
      exact .inl ⟨by simpa using hstop, q p us F4 H4 (g2.tr g4) s4 hd⟩
theorem t_yes : EvT tYes σ F cs true cs := fun F1 H1 g s Q q => q F1 H1 .rfl s
/-! functions -/
def spP (K : PySem.W.Frag) {α β : Type} (A : α → List PyData) (B : β → PyData) (f : α → Option β) : Sp := fun vs H Q _ => ∃ F cs x y, Dts K F vs (A x) ∧ Sta F cs H ∧ f x = some y ∧ ∀ v F2 H2, Gr F F2 → Sta F2 cs H2 → Dt K F2 v (B y) → Q v H2
theorem d_call {α β : Type} {A : α → List PyData} {B : β → PyData} {f : α → Option β} {x : α} {y : β} {E : XK} (h : EvDs K as σ F cs (A x) cs1) (hf : f x = some y) : EvD K (tCall (spP K A B f) [] E as) σ F cs (B y) cs1 := fun F1 H1 g1 s Q q =>
  h F1 H1 g1 s _ fun vs F2 H2 g2 s2 h2 => ⟨F2, cs1, x, y, by rw [List.append_nil]; exact h2, s2, hf, fun v F3 H3 g3 s3 h3 => q v F3 H3 (g2.tr g3) s3 h3⟩
end
/-! == of typed data -/
def EqE {α : Type} [DecidableEq α] (e : α → PyData) : Prop := ∀ x y, PyData.eqv (e x) (e y) = decide (x = y)
def ShE {α : Type} (n : Nat) (e : α → PyData) : Prop := ∀ x, (e x).canLay0 = true ∧ (e x).depth ≤ n
theorem shp {α : Type} {n : Nat} {e : α → PyData} (h : ShE n e) (hn : n ≤ 64) (x : α) : SeqAt.shaped (e x) = true := by
  unfold SeqAt.shaped
  rw [(h x).1, decide_eq_true (Nat.le_trans (h x).2 hn)]
  rfl
theorem beq_dec {α : Type} [BEq α] [LawfulBEq α] [DecidableEq α] (x y : α) : (x == y) = decide (x = y) := by
  rw [Bool.eq_iff_iff]; simp
theorem eqE_I : EqE eI := fun x y => by simp only [PyData.eqv]; exact beq_dec x y
theorem eqE_B : EqE eB := fun x y => by simp only [PyData.eqv]; exact beq_dec x y
theorem eqE_S : EqE eS := fun x y => by simp only [PyData.eqv]; exact beq_dec x y
theorem eqE_N : EqE eN := fun x y => by simp [PyData.eqv]
theorem eqAll_map {α : Type} [DecidableEq α] {e : α → PyData} (h : EqE e) : ∀ xs ys : List α, PyData.eqvAll (xs.map e) (ys.map e) = decide (xs = ys)
  | [], [] => by simp [PyData.eqvAll]
  | [], _ :: _ => by simp [PyData.eqvAll]
  | _ :: _, [] => by simp [PyData.eqvAll]
  | x :: xs, y :: ys => by
    simp only [List.map_cons, PyData.eqvAll]
    rw [h x y, eqAll_map h xs ys, Bool.eq_iff_iff]
    simp
theorem EqE.l {α : Type} [DecidableEq α] {e : α → PyData} (h : EqE e) : EqE (eL e) := fun xs ys => by
  show PyData.eqv (.list _) (.list _) = _
  simp only [PyData.eqv]
  exact eqAll_map h xs ys
theorem EqE.t2 {α β : Type} [DecidableEq α] [DecidableEq β] {e : α → PyData} {f : β → PyData} (h : EqE e) (k : EqE f) : EqE (eT2 e f) := fun x y => by
  show PyData.eqv (.tuple _) (.tuple _) = _
  simp only [PyData.eqv, PyData.eqvAll]
  rw [h, k, Bool.eq_iff_iff]
  obtain ⟨x1, x2⟩ := x; obtain ⟨y1, y2⟩ := y
  simp
theorem EqE.t3 {α β γ : Type} [DecidableEq α] [DecidableEq β] [DecidableEq γ] {e : α → PyData} {f : β → PyData} {g : γ → PyData} (h : EqE e) (k : EqE f) (l : EqE g) : EqE (eT3 e f g) := fun x y => by
  show PyData.eqv (.tuple _) (.tuple _) = _
  simp only [PyData.eqv, PyData.eqvAll]
  rw [h, k, l, Bool.eq_iff_iff]
  obtain ⟨x1, x2, x3⟩ := x; obtain ⟨y1, y2, y3⟩ := y
  simp
theorem EqE.t4 {α β γ δ : Type} [DecidableEq α] [DecidableEq β] [DecidableEq γ] [DecidableEq δ] {e : α → PyData} {f : β → PyData} {g : γ → PyData} {m : δ → PyData} (h : EqE e) (k : EqE f) (l : EqE g) (n : EqE m) : EqE (eT4 e f g m) := fun x y => by
  show PyData.eqv (.tuple _) (.tuple _) = _
  simp only [PyData.eqv, PyData.eqvAll]
  rw [h, k, l, n, Bool.eq_iff_iff]
  obtain ⟨x1, x2, x3, x4⟩ := x; obtain ⟨y1, y2, y3, y4⟩ := y
  simp
theorem sh_I : ShE 0 eI := fun x => ⟨by simp [PyData.canLay0], by simp [PyData.depth]⟩
theorem sh_B : ShE 0 eB := fun x => ⟨by simp [PyData.canLay0], by simp [PyData.depth]⟩
theorem sh_N : ShE 0 eN := fun x => ⟨by simp [PyData.canLay0], by simp [PyData.depth]⟩
theorem sh_all {α : Type} {n : Nat} {e : α → PyData} (h : ShE n e) : ∀ xs : List α, PyData.canLayAll0 (xs.map e) = true ∧ PyData.depthAll (xs.map e) ≤ n
  | [] => ⟨by simp [PyData.canLayAll0], by simp [PyData.depthAll]⟩
  | x :: xs => by
    obtain ⟨h1, h2⟩ := sh_all h xs
    simp only [List.map_cons, PyData.canLayAll0, PyData.depthAll]
    exact ⟨by rw [(h x).1, h1]; rfl, Nat.max_le.mpr ⟨(h x).2, h2⟩⟩
theorem ShE.l {α : Type} {n : Nat} {e : α → PyData} (h : ShE n e) : ShE (n + 1) (eL e) := fun xs => by
  show (PyData.list _).canLay0 = true ∧ (PyData.list _).depth ≤ _
  simp only [PyData.canLay0, PyData.depth]
  exact ⟨(sh_all h xs).1, Nat.succ_le_succ (sh_all h xs).2⟩
theorem ShE.t2 {α β : Type} {n m : Nat} {e : α → PyData} {f : β → PyData} (h : ShE n e) (k : ShE m f) : ShE (max n m + 1) (eT2 e f) := fun x => by
  show (PyData.tuple _).canLay0 = true ∧ (PyData.tuple _).depth ≤ _
  simp only [PyData.canLay0, PyData.depth, PyData.canLayAll0, PyData.depthAll]
  have := (h x.1).2; have := (k x.2).2
  exact ⟨by rw [(h _).1, (k _).1]; rfl, by omega⟩
theorem ShE.t3 {α β γ : Type} {n m l : Nat} {e : α → PyData} {f : β → PyData} {g : γ → PyData} (h : ShE n e) (k : ShE m f) (j : ShE l g) : ShE (max n (max m l) + 1) (eT3 e f g) := fun x => by
  show (PyData.tuple _).canLay0 = true ∧ (PyData.tuple _).depth ≤ _
  simp only [PyData.canLay0, PyData.depth, PyData.canLayAll0, PyData.depthAll]
  have := (h x.1).2; have := (k x.2.1).2; have := (j x.2.2).2
  exact ⟨by rw [(h _).1, (k _).1, (j _).1]; rfl, by omega⟩
theorem ShE.t4 {α β γ δ : Type} {n m l i : Nat} {e : α → PyData} {f : β → PyData} {g : γ → PyData} {z : δ → PyData} (h : ShE n e) (k : ShE m f) (j : ShE l g) (p : ShE i z) : ShE (max n (max m (max l i)) + 1) (eT4 e f g z) := fun x => by
  show (PyData.tuple _).canLay0 = true ∧ (PyData.tuple _).depth ≤ _
  simp only [PyData.canLay0, PyData.depth, PyData.canLayAll0, PyData.depthAll]
  have := (h x.1).2; have := (k x.2.1).2; have := (j x.2.2.1).2; have := (p x.2.2.2).2
  exact ⟨by rw [(h _).1, (k _).1, (j _).1, (p _).1]; rfl, by omega⟩
section
variable {K : PySem.W.Frag} {σ : St} {F F' : Hp} {cs cs1 cs2 cs3 : Cs} {ta tb tc te : TE}
theorem d_eqT {α : Type} [DecidableEq α] {n : Nat} {e : α → PyData} {x y : α} (he : EqE e) (hs : ShE n e) (hn : n ≤ 64) (ha : EvD K ta σ F cs (e x) cs1) (hb : EvD K tb σ F cs1 (e y) cs2) : EvD K (tOp (rEqD K) ta tb) σ F cs (.bool (decide (x = y))) cs2 :=
  he x y ▸ d_eqD ha hb (shp hs hn x) (shp hs hn y)
theorem d_neT {α : Type} [DecidableEq α] {n : Nat} {e : α → PyData} {x y : α} (he : EqE e) (hs : ShE n e) (hn : n ≤ 64) (ha : EvD K ta σ F cs (e x) cs1) (hb : EvD K tb σ F cs1 (e y) cs2) : EvD K (tOp (rNeD K) ta tb) σ F cs (.bool (!decide (x = y))) cs2 :=
  he x y ▸ d_neD ha hb (shp hs hn x) (shp hs hn y)
def eqTM {α : Type} [DecidableEq α] (e : α → PyData) (x y : α) : Option Bool := if SeqAt.shaped (e x) = true ∧ SeqAt.shaped (e y) = true then some (decide (x = y)) else none
def eqDM (x y : PyData) : Option Bool := if SeqAt.shaped x = true ∧ SeqAt.shaped y = true then some (PyData.eqv x y) else none
theorem d_eqTM {α : Type} [DecidableEq α] {e : α → PyData} {x y : α} {b : Bool} (he : EqE e) (ha : EvD K ta σ F cs (e x) cs1) (hb : EvD K tb σ F cs1 (e y) cs2) (hm : eqTM e x y = some b) : EvD K (tOp (rEqD K) ta tb) σ F cs (.bool b) cs2 := by
  unfold eqTM at hm; split at hm
  · rename_i h; cases hm; exact he x y ▸ d_eqD ha hb h.1 h.2
  · cases hm
theorem d_neTM {α : Type} [DecidableEq α] {e : α → PyData} {x y : α} {b : Bool} (he : EqE e) (ha : EvD K ta σ F cs (e x) cs1) (hb : EvD K tb σ F cs1 (e y) cs2) (hm : eqTM e x y = some b) : EvD K (tOp (rNeD K) ta tb) σ F cs (.bool (!b)) cs2 := by
  unfold eqTM at hm; split at hm
  · rename_i h; cases hm; exact he x y ▸ d_neD ha hb h.1 h.2
  · cases hm
theorem d_eqDM {x y : PyData} {b : Bool} (ha : EvD K ta σ F cs x cs1) (hb : EvD K tb σ F cs1 y cs2) (hm : eqDM x y = some b) : EvD K (tOp (rEqD K) ta tb) σ F cs (.bool b) cs2 := by
  unfold eqDM at hm; split at hm
  · rename_i h; cases hm; exact d_eqD ha hb h.1 h.2
  · cases hm
theorem d_neDM {x y : PyData} {b : Bool} (ha : EvD K ta σ F cs x cs1) (hb : EvD K tb σ F cs1 y cs2) (hm : eqDM x y = some b) : EvD K (tOp (rNeD K) ta tb) σ F cs (.bool (!b)) cs2 := by
  unfold eqDM at hm; split at hm
  · rename_i h; cases hm; exact d_neD ha hb h.1 h.2
  · cases hm
end
end Bw

namespace Bw
open PySem L2
/-! names for readings -/
abbrev rAbs : List V → Hp → VK → Prop := fun xs H Q => ∃ i, xs = [.int i] ∧ Q (.int (if i < 0 then -i else i)) H
abbrev rMax2 : List V → Hp → VK → Prop := fun xs H Q => ∃ i j, xs = [.int i, .int j] ∧ Q (.int (if j > i then j else i)) H
abbrev rMin2 : List V → Hp → VK → Prop := fun xs H Q => ∃ i j, xs = [.int i, .int j] ∧ Q (.int (if j < i then j else i)) H
abbrev rLenL (K : PySem.W.Frag) : List V → Hp → VK → Prop := fun xs H Q => ∃ p ys, xs = [.ref p] ∧ (SqL K H p ys ∨ SqT K H p ys) ∧ Q (.int ys.length) H
abbrev rLenS : List V → Hp → VK → Prop := fun xs H Q => ∃ z, xs = [.str z] ∧ z.length ≤ sizeLine ∧ Q (.int z.length) H
abbrev rInt : List V → Hp → VK → Prop := fun xs H Q => (∃ i, xs = [.int i] ∧ Q (.int i) H) ∨ ∃ k, xs = [.bl k] ∧ Q (.int (if k then 1 else 0)) H
abbrev rStrI : List V → Hp → VK → Prop := fun xs H Q => ∃ i, xs = [.int i] ∧ i.natAbs.log2 < 1920 ∧ Q (.str (toString i)) H
abbrev rListS (K : PySem.W.Frag) : List V → Hp → VK → Prop := fun xs H Q => ∃ p ys, xs = [.ref p] ∧ (SqL K H p ys ∨ SqT K H p ys) ∧ ∀ l, H l = none → Q (.ref l) (upd H l (.lst ys))
abbrev rScat : R2 := fun x y H Q => ∃ i j, x = .str i ∧ y = .str j ∧ i.length + j.length ≤ sizeLine ∧ Q (.str (i ++ j)) H
abbrev rInS : R2 := fun x y H Q => ∃ i j, x = .str i ∧ y = .str j ∧ Q (.bl (!(Builtin.Str.occurrences j i 0 j.length 1).isEmpty)) H
abbrev rNinS : R2 := fun x y H Q => ∃ i j, x = .str i ∧ y = .str j ∧ Q (.bl (!(!(Builtin.Str.occurrences j i 0 j.length 1).isEmpty))) H
abbrev rIsN : R2 := fun x y H Q => y = .non ∧ Q (.bl (decide (x = .non))) H
abbrev rNotN : R2 := fun x y H Q => y = .non ∧ Q (.bl (!decide (x = .non))) H
abbrev rJoin (K : PySem.W.Frag) : V → List V → Hp → VK → Prop := fun x xs H Q => ∃ a p, ∃ ys : List Str, x = .str a ∧ xs = [.ref p] ∧ (SqL K H p (ys.map V.str) ∨ SqT K H p (ys.map V.str)) ∧ (ys.map (·.length)).sum + ys.length * a.length ≤ 16777216 ∧ Q (.str (Txt.join a ys)) H
section
variable {X : Cx}
theorem cr_abs : CallR X (.builtin "abs") rAbs := call_abs
theorem cr_max2 (hc : X.calm = true) : CallR X (.builtin "max") rMax2 := call_max2 hc
theorem cr_min2 (hc : X.calm = true) : CallR X (.builtin "min") rMin2 := call_min2 hc
theorem cr_lenL : CallR X (.builtin "len") (rLenL X.K) := call_len_seq
theorem cr_lenS : CallR X (.builtin "len") rLenS := call_len_str
theorem cr_int : CallR X (.type "int") rInt := call_int1
theorem cr_str : CallR X (.type "str") rStrI := call_str_int
theorem cr_list : CallR X (.type "list") (rListS X.K) := call_list_of
theorem op_scatR : OpR X (binaryOp .Add) rScat := op_add_str
theorem op_inR : OpR X (compareOp .In) rInS := op_in_str
theorem op_ninR : OpR X (compareOp .NotIn) rNinS := op_notin_str
theorem op_isNR : OpR X (compareOp .Is) rIsN := op_isN
theorem op_notNR : OpR X (compareOp .IsNot) rNotN := op_notN
end
theorem bf {b : Bool} (h : b = false) : ¬ b = true := by rw [h]; decide
theorem bt {b : Bool} (h : ¬ b = true) : b = false := by cases b <;> simp_all
theorem isS {α : Type} {c : Bool} {a : α} : (if c = true then some a else none : Option α).isSome = c := by cases c <;> rfl
theorem isSm {α : Type} {c : Bool} {a y : α} (h : (if c = true then some a else none : Option α) = some y) : a = y := by
  cases c with
  | true => exact Option.some.inj h
  | false => cases h
theorem pr2 {α β : Type} {a a' : α} {b b' : β} (h : (a, b) = (a', b')) : a = a' ∧ b = b' := by cases h; exact ⟨rfl, rfl⟩
theorem pr3 {α β γ : Type} {a a' : α} {b b' : β} {c c' : γ} (h : (a, b, c) = (a', b', c')) : a = a' ∧ b = b' ∧ c = c' := by cases h; exact ⟨rfl, rfl, rfl⟩
theorem pr4 {α β γ δ : Type} {a a' : α} {b b' : β} {c c' : γ} {d d' : δ} (h : (a, b, c, d) = (a', b', c', d')) : a = a' ∧ b = b' ∧ c = c' ∧ d = d' := by cases h; exact ⟨rfl, rfl, rfl, rfl⟩
theorem pr5 {α β γ δ ε : Type} {a a' : α} {b b' : β} {c c' : γ} {d d' : δ} {e e' : ε} (h : (a, b, c, d, e) = (a', b', c', d', e')) : a = a' ∧ b = b' ∧ c = c' ∧ d = d' ∧ e = e' := by cases h; exact ⟨rfl, rfl, rfl, rfl, rfl⟩
theorem dt_oI {K : PySem.W.Frag} {F : Hp} (o : Option Int) : Dt K F (oV V.int o) (eO eI o) := by cases o with
  | none => exact .non
  | some x => exact .int x
theorem dt_oS {K : PySem.W.Frag} {F : Hp} (o : Option Str) : Dt K F (oV V.str o) (eO eS o) := by cases o with
  | none => exact .non
  | some x => exact .str x
theorem dt_toI {K : PySem.W.Frag} {F : Hp} {v : V} {o : Option Int} (h : Dt K F v (eO eI o)) : v = oV V.int o := by cases o with
  | none => exact h.toNon
  | some x => exact h.toInt
theorem dt_toS {K : PySem.W.Frag} {F : Hp} {v : V} {o : Option Str} (h : Dt K F v (eO eS o)) : v = oV V.str o := by cases o with
  | none => exact h.toNon
  | some x => exact h.toStr
def mapC {α β : Type} (f : α → β) (xs : List α) : Option (List β) := if xs.length ≤ 100000 then some (xs.map f) else none
def filC {α β : Type} (p : α → Bool) (f : α → β) (xs : List α) : Option (List β) := if xs.length ≤ 100000 then some ((xs.filter p).map f) else none
def lcC {α β : Type} (f : α → Option (Option β)) (xs : List α) : Option (List β) := if xs.length ≤ 100000 then lcM f xs else none
section
variable {K : PySem.W.Frag} {σ : St} {F F' : Hp} {cs cs1 cs2 cs3 : Cs} {ta tb tc te : TE} {d e : PyData} {as : TA} {a b c : Int} {nx bk ct : St → Hp → Prop} {rt : VK} {H : Hp} {t u : TS}
theorem d_mulC (ha : EvD K ta σ F cs (.int a) cs1) (hb : EvD K tb σ F cs1 (.int b) cs2) (hc : CMul a b) : EvD K (tOp (rI CMul fun i j => .int (i * j)) ta tb) σ F cs (.int (a * b)) cs2 := d_I ha hb hc fun _ => .int _
theorem d_modC (ha : EvD K ta σ F cs (.int a) cs1) (hb : EvD K tb σ F cs1 (.int b) cs2) (hc : 0 < b) : EvD K (tOp (rI (fun _ j => 0 < j) fun i j => .int (i % j)) ta tb) σ F cs (.int (a % b)) cs2 := d_I (C := fun _ j => 0 < j) ha hb hc fun _ => .int _
theorem d_fdivC (ha : EvD K ta σ F cs (.int a) cs1) (hb : EvD K tb σ F cs1 (.int b) cs2) (hc : CDiv a b) : EvD K (tOp (rI CDiv fun i j => .int (i / j)) ta tb) σ F cs (.int (a / b)) cs2 := d_I ha hb hc fun _ => .int _
theorem d_powC (ha : EvD K ta σ F cs (.int a) cs1) (hb : EvD K tb σ F cs1 (.int b) cs2) (hc : CPow a b) : EvD K (tOp (rI CPow fun i j => .int (i ^ j.toNat)) ta tb) σ F cs (.int (a ^ b.toNat)) cs2 := d_I ha hb hc fun _ => .int _
theorem d_chain {g g' : Int → Int → Bool} (ha : EvD K ta σ F cs (.int a) cs1) (hb : EvD K tb σ F cs1 (.int b) cs2) (hc : EvD K tc σ F cs2 (.int c) cs2) : EvD K (tChain (rI0 fun i j => .bl (g i j)) (rI0 fun i j => .bl (g' i j)) ta tb tc) σ F cs (.bool (g a b && g' b c)) cs2 := fun F1 H1 g1 s Q q =>
  ha F1 H1 g1 s _ fun v F2 H2 g2 s2 h2 => hb F2 H2 (g1.tr g2) s2 _ fun w F3 H3 g3 s3 h3 => by
    cases h2.toInt; cases h3.toInt
    refine ⟨a, b, rfl, rfl, g a b, rfl, ?_⟩
    cases e : g a b with
    | true => exact hc F3 H3 ((g1.tr g2).tr g3) s3 _ fun z F4 H4 g4 s4 h4 => ⟨b, c, rfl, h4.toInt, q _ F4 H4 ((g2.tr g3).tr g4) s4 (by rw [e, Bool.true_and]; exact .bl _)⟩
    | false => exact q _ F3 H3 (g2.tr g3) s3 (by rw [e, Bool.false_and]; exact .bl _)
theorem t_andP {t u : TT} {a b : Bool} (h1 : EvT t σ F cs a cs1) (h2 : a = true → EvT u σ F cs1 b cs1) : EvT (tAnd t u) σ F cs (a && b) cs1 := t_and h1 h2 (fun h => by rw [h, Bool.true_and]) (fun h => by rw [h, Bool.false_and])
theorem t_orP {t u : TT} {a b : Bool} (h1 : EvT t σ F cs a cs1) (h2 : a = false → EvT u σ F cs1 b cs1) : EvT (tOr t u) σ F cs (a || b) cs1 := t_or h1 h2 (fun h => by rw [h, Bool.false_or]) (fun h => by rw [h, Bool.true_or])
theorem t_andM {t u : TT} {a r : Bool} (h1 : EvT t σ F cs a cs1) (h2 : a = true → EvT u σ F cs1 r cs1) (h4 : a = false → r = false) : EvT (tAnd t u) σ F cs r cs1 := t_and h1 h2 (fun _ => rfl) h4
theorem t_orM {t u : TT} {a r : Bool} (h1 : EvT t σ F cs a cs1) (h2 : a = false → EvT u σ F cs1 r cs1) (h4 : a = true → r = true) : EvT (tOr t u) σ F cs r cs1 := t_or h1 h2 (fun _ => rfl) h4
theorem d_andP {a b : Bool} (h1 : EvD K ta σ F cs (.bool a) cs1) (h2 : a = true → EvD K tb σ F cs1 (.bool b) cs1) : EvD K (tAndV ta tb) σ F cs (.bool (a && b)) cs1 := d_andV h1 h2 (fun h => by rw [h, Bool.true_and]) (fun h => by rw [h, Bool.false_and])
theorem d_orP {a b : Bool} (h1 : EvD K ta σ F cs (.bool a) cs1) (h2 : a = false → EvD K tb σ F cs1 (.bool b) cs1) : EvD K (tOrV ta tb) σ F cs (.bool (a || b)) cs1 := d_orV h1 h2 (fun h => by rw [h, Bool.false_or]) (fun h => by rw [h, Bool.true_or])
theorem d_andM {a r : Bool} (h1 : EvD K ta σ F cs (.bool a) cs1) (h2 : a = true → EvD K tb σ F cs1 (.bool r) cs1) (h4 : a = false → r = false) : EvD K (tAndV ta tb) σ F cs (.bool r) cs1 := d_andV h1 h2 (fun _ => rfl) h4
theorem d_orM {a r : Bool} (h1 : EvD K ta σ F cs (.bool a) cs1) (h2 : a = false → EvD K tb σ F cs1 (.bool r) cs1) (h4 : a = true → r = true) : EvD K (tOrV ta tb) σ F cs (.bool r) cs1 := d_orV h1 h2 (fun _ => rfl) h4
theorem d_join {x z : Str} {xs : List Str} (ha : EvD K ta σ F cs (.str x) cs1) (hb : EvD K tb σ F cs1 (eL eS xs) cs2) (hz : joinM x xs = some z) : EvD K (tM1 (rJoin K) ta tb) σ F cs (.str z) cs2 := fun F1 H1 g1 s Q q =>
  ha F1 H1 g1 s _ fun v F2 H2 g2 s2 h2 => ⟨⟨x, h2.toStr⟩, hb F2 H2 (g1.tr g2) s2 _ fun w F3 H3 g3 s3 h3 => by
    obtain ⟨p, vs, rfl, hl, hd⟩ := h3.toLst
    cases hd.strs
    unfold joinM at hz; split at hz
    · rename_i h; cases hz
      refine ⟨x, p, xs, h2.toStr, rfl, .inl (gr_L s3.fr hl), ?_, q _ F3 H3 (g2.tr g3) s3 (.str _)⟩
      rw [Nat.mul_comm xs.length]
      exact Nat.le_trans h (by decide)
    · cases hz⟩
theorem c_lcC {α β : Type} {wi : TI} {g : TG} {tt : TT} {vs : List Nat} {xs : List α} {en : α → PyData} {em : β → PyData} {f : α → Option (Option β)} {ys : List β}
    (hi : EvI K wi σ F cs (xs.map en) cs1) (hm : lcC f xs = some ys)
    (turn : ∀ x o v F1 p us, Gr F F1 → Dt K F1 v (en x) → f x = some o → ∃ σ2 : St, (∀ H (Q : St → Hp → Prop), Sta F1 ((p, .lst us) :: cs1) H → Q σ2 H → g v (wipe σ vs) H Q) ∧ wipe σ2 vs = wipe σ vs ∧
      EvT tt σ2 F1 ((p, .lst us) :: cs1) o.isSome ((p, .lst us) :: cs1) ∧ ∀ y, o = some y → EvD K te σ2 F1 ((p, .lst us) :: cs1) (em y) ((p, .lst us) :: cs1)) :
    EvC K (tLc wi g tt te vs) σ F cs (ys.map em) cs1 := by
  unfold lcC at hm; split at hm
  · rename_i h; exact c_lc hi hm h turn
  · cases hm
theorem c_mapC {α β : Type} {wi : TI} {g : TG} {tt : TT} {vs : List Nat} {xs : List α} {en : α → PyData} {em : β → PyData} {f : α → β} {ys : List β}
    (hi : EvI K wi σ F cs (xs.map en) cs1) (hm : mapC f xs = some ys)
    (turn : ∀ x o v F1 p us, Gr F F1 → Dt K F1 v (en x) → some (some (f x)) = some o → ∃ σ2 : St, (∀ H (Q : St → Hp → Prop), Sta F1 ((p, .lst us) :: cs1) H → Q σ2 H → g v (wipe σ vs) H Q) ∧ wipe σ2 vs = wipe σ vs ∧
      EvT tt σ2 F1 ((p, .lst us) :: cs1) o.isSome ((p, .lst us) :: cs1) ∧ ∀ y, o = some y → EvD K te σ2 F1 ((p, .lst us) :: cs1) (em y) ((p, .lst us) :: cs1)) :
    EvC K (tLc wi g tt te vs) σ F cs (ys.map em) cs1 := by
  unfold mapC at hm; split at hm
  · rename_i h; cases hm; exact c_lc (f := fun x => some (some (f x))) hi (lcM_map f xs) h turn
  · cases hm
theorem c_filC {α β : Type} {wi : TI} {g : TG} {tt : TT} {vs : List Nat} {xs : List α} {en : α → PyData} {em : β → PyData} {p : α → Bool} {f : α → β} {ys : List β}
    (hi : EvI K wi σ F cs (xs.map en) cs1) (hm : filC p f xs = some ys)
    (turn : ∀ x o v F1 p' us, Gr F F1 → Dt K F1 v (en x) → some (if p x = true then some (f x) else none) = some o → ∃ σ2 : St, (∀ H (Q : St → Hp → Prop), Sta F1 ((p', .lst us) :: cs1) H → Q σ2 H → g v (wipe σ vs) H Q) ∧ wipe σ2 vs = wipe σ vs ∧
      EvT tt σ2 F1 ((p', .lst us) :: cs1) o.isSome ((p', .lst us) :: cs1) ∧ ∀ y, o = some y → EvD K te σ2 F1 ((p', .lst us) :: cs1) (em y) ((p', .lst us) :: cs1)) :
    EvC K (tLc wi g tt te vs) σ F cs (ys.map em) cs1 := by
  unfold filC at hm; split at hm
  · rename_i h; cases hm; exact c_lc (f := fun x => some (if p x = true then some (f x) else none)) hi (lcM_filter p f xs) h turn
  · cases hm
theorem nxt (h : nx σ H) : tNext ⟨nx, rt, bk, ct⟩ σ H := h
theorem tg {g : TG} {v : V} {σ' : St} {Q : St → Hp → Prop} (h1 : ∀ Q : St → Hp → Prop, Q σ' H → g v σ H Q) (h2 : Q σ' H) : g v σ H Q := h1 Q h2
theorem s_asg {g : TG} (s : Sta F cs H) (h : EvD K te σ F cs d cs1) (q : ∀ v F2 H2, Gr F F2 → Sta F2 cs1 H2 → Dt K F2 v d → g v σ H2 nx) : tAsg te g ⟨nx, rt, bk, ct⟩ σ H := h F H .rfl s _ q
theorem s_ifJ {c : TT} {b : Bool} (J : St → Hp → Prop) (s : Sta F cs H) (h : EvT c σ F cs b cs1) (rest : ∀ σ' H', J σ' H' → nx σ' H') (qt : (∀ σ' H', J σ' H' → nx σ' H') → b = true → ∀ F2 H2, Gr F F2 → Sta F2 cs1 H2 → t ⟨nx, rt, bk, ct⟩ σ H2)
    (qf : (∀ σ' H', J σ' H' → nx σ' H') → b = false → ∀ F2 H2, Gr F F2 → Sta F2 cs1 H2 → u ⟨nx, rt, bk, ct⟩ σ H2) : tIfS c t u ⟨nx, rt, bk, ct⟩ σ H := s_if s h (qt rest) (qf rest)
theorem s_appF {α : Type} {vf : α → V} {en : α → PyData} {l1 l2 : Cs} {i : Nat} {p : Addr} {xs ys : List α} {x : α} (hw : ∀ F v x, Dt K F v (en x) → v = vf x) (s : Sta F (l1 ++ (p, .lst (xs.map vf)) :: l2) H) (hi : σ[i]? = some (some (.ref p))) (h : EvD K te σ F (l1 ++ (p, .lst (xs.map vf)) :: l2) (en x) (l1 ++ (p, .lst (xs.map vf)) :: l2)) (hm : appM xs x = some ys)
    (q : ∀ F2 H2, Gr F F2 → Sta F2 (l1 ++ (p, .lst (ys.map vf)) :: l2) H2 → nx σ H2) : tDrop (tBM K "list" rAppend (tVar i) (tCons te tNil)) ⟨nx, rt, bk, ct⟩ σ H := by
  obtain ⟨hl, rfl⟩ := appM_some hm
  refine s_app s hi h (by rw [List.length_map]; exact hl) fun v F2 H2 g2 s2 h2 => q F2 H2 g2 ?_
  cases hw F2 v x h2
  rw [List.map_append]; exact s2
theorem s_appG {α : Type} {en : α → PyData} {l1 l2 : Cs} {i : Nat} {p : Addr} {vs : List V} {xs ys : List α} {x : α} (s : Sta F (l1 ++ (p, .lst vs) :: l2) H) (hf : Dts K F vs (xs.map en)) (hi : σ[i]? = some (some (.ref p))) (h : EvD K te σ F (l1 ++ (p, .lst vs) :: l2) (en x) (l1 ++ (p, .lst vs) :: l2)) (hm : appM xs x = some ys)
    (q : ∀ us F2 H2, Gr F F2 → Sta F2 (l1 ++ (p, .lst us) :: l2) H2 → Dts K F2 us (ys.map en) → nx σ H2) : tDrop (tBM K "list" rAppend (tVar i) (tCons te tNil)) ⟨nx, rt, bk, ct⟩ σ H := by
  obtain ⟨hl, rfl⟩ := appM_some hm
  refine s_app s hi h (by rw [hf.len, List.length_map]; exact hl) fun v F2 H2 g2 s2 h2 => q _ F2 H2 g2 s2 ?_
  rw [List.map_append]; exact (hf.gr g2).app (.cons h2 .nil)
theorem s_itemF {α : Type} {vf : α → V} {en : α → PyData} {l1 l2 : Cs} {i : Nat} {p : Addr} {xs ys : List α} {x : α} {ti : TE} {k : Int} (hw : ∀ F v x, Dt K F v (en x) → v = vf x) (s : Sta F (l1 ++ (p, .lst (xs.map vf)) :: l2) H) (hi : σ[i]? = some (some (.ref p))) (h : EvD K te σ F (l1 ++ (p, .lst (xs.map vf)) :: l2) (en x) (l1 ++ (p, .lst (xs.map vf)) :: l2))
    (h2 : EvD K ti σ F (l1 ++ (p, .lst (xs.map vf)) :: l2) (.int k) (l1 ++ (p, .lst (xs.map vf)) :: l2)) (hm : setM xs k x = some ys) (q : ∀ F2 H2, Gr F F2 → Sta F2 (l1 ++ (p, .lst (ys.map vf)) :: l2) H2 → nx σ H2) : tAsg te (gSub (tVar i) ti rSetL) ⟨nx, rt, bk, ct⟩ σ H := by
  obtain ⟨j, hj, rfl⟩ := setM_some hm
  refine s_item (j := j) s hi h h2 (by rw [List.length_map]; exact hj) fun v F2 H2 g2 s2 hv => q F2 H2 g2 ?_
  cases hw F2 v x hv
  rw [List.map_set]; exact s2
theorem s_itemG {α : Type} {en : α → PyData} {l1 l2 : Cs} {i : Nat} {p : Addr} {vs : List V} {xs ys : List α} {x : α} {ti : TE} {k : Int} (s : Sta F (l1 ++ (p, .lst vs) :: l2) H) (hf : Dts K F vs (xs.map en)) (hi : σ[i]? = some (some (.ref p))) (h : EvD K te σ F (l1 ++ (p, .lst vs) :: l2) (en x) (l1 ++ (p, .lst vs) :: l2))
    (h2 : EvD K ti σ F (l1 ++ (p, .lst vs) :: l2) (.int k) (l1 ++ (p, .lst vs) :: l2)) (hm : setM xs k x = some ys) (q : ∀ us F2 H2, Gr F F2 → Sta F2 (l1 ++ (p, .lst us) :: l2) H2 → Dts K F2 us (ys.map en) → nx σ H2) : tAsg te (gSub (tVar i) ti rSetL) ⟨nx, rt, bk, ct⟩ σ H := by
  obtain ⟨j, hj, rfl⟩ := setM_some hm
  refine s_item (j := j) s hi h h2 (by rw [hf.len, List.length_map]; exact hj) fun v F2 H2 g2 s2 hv => q _ F2 H2 g2 s2 ?_
  rw [List.map_set]; exact (hf.gr g2).setAt j hv
end
/-! isinstance -/
def kindD : PyData → String
  | .none => "NoneType"
  | .bool _ => "bool"
  | .int _ => "int"
  | .str _ => "str"
  | .list _ => "list"
  | .tuple _ => "tuple"
  | .dict _ => "dict"
def isiD (c : String) (d : PyData) : Bool := kindD d == c || (kindD d == "bool" && c == "int")
def isiK : List String := ["int", "str", "bool", "list", "tuple", "dict"]
theorem kit_isi {K : PySem.W.Frag} {c : String} (hc : c ∈ isiK) (d : PyData) : PySem.W.kitOne K (.type (kindD d)) (.type c) = some (isiD c d) := by
  have h : ∀ k ∈ ["NoneType", "bool", "int", "str", "list", "tuple", "dict"], ∀ c ∈ isiK, kitB k c = some (k == c || (k == "bool" && c == "int")) := by decide +kernel
  exact kit_ty (h (kindD d) (by cases d <;> simp [kindD]) c hc)
theorem ty_of {K : PySem.W.Frag} {F H : Hp} {v : V} {d : PyData} (g : Gr F H) (h : Dt K F v d) : TyX K H v (.type (kindD d)) := by
  cases h with
  | non => exact .base .non
  | bl b => exact .base (.bl b)
  | int i => exact .base (.int i)
  | str x => exact .base (.str x)
  | lst hl _ =>
    rcases hl with (h | ⟨o, h⟩) | ⟨o, its, n, h1, h2, h3⟩
    · exact .base (.lst (g _ _ h))
    · exact .base (.frz (g _ _ h))
    · exact .kList h1 h2
  | tup ht _ =>
    rcases ht with (h | ⟨o, h⟩) | ⟨o, its, n, h1, h2, h3⟩
    · exact .base (.tup (g _ _ h))
    · exact .fTuple (g _ _ h)
    · exact .kTuple h1 h2
  | dct h => exact .base (.dK (g _ _ h))
theorem d_isiD {K : PySem.W.Frag} {σ : St} {F : Hp} {cs cs1 : Cs} {ta : TE} {d : PyData} {c : String} (hc : c ∈ isiK) (ha : EvD K ta σ F cs d cs1) : EvD K (tCB (rIsi K) (tCons ta (tCons (tC (.ty c)) tNil))) σ F cs (.bool (isiD c d)) cs1 := fun F1 H1 g1 s Q q =>
  ha F1 H1 g1 s _ fun v F2 H2 g2 s2 h2 => ⟨v, .ty c, .type (kindD d), .type c, isiD c d, rfl, .ty c, ty_of s2.fr h2, kit_isi hc d, q _ F2 H2 g2 s2 (.bl _)⟩
/-! a def that keeps its promise -/
def Lk (K : PySem.W.Frag) (f : Addr) (fd : FuncData) : Prop := ∃ oc od sl, K.lookup f = some ⟨oc, od, .func fd, sl⟩
theorem lk_of {K : PySem.W.Frag} {x qual : Str} {params : Arguments} {body : List Stmt} {scope : Scope} {dvs : List V} {kws : List (Str × V)} {f : Addr} {fd : FuncData} (F : FunD K x qual params body scope dvs kws f fd) : Lk K f fd := by
  obtain ⟨oc, od, dV, kV, doc, pm, an, cdv, ct, osl, _, lk, _⟩ := F.ex
  exact ⟨oc, od, osl, lk⟩
theorem Lk.one {K : PySem.W.Frag} {f : Addr} {fd fd2 : FuncData} (a : Lk K f fd) (b : Lk K f fd2) : fd = fd2 := by
  obtain ⟨_, _, _, e1⟩ := a
  obtain ⟨_, _, _, e2⟩ := b
  rw [e1] at e2
  cases e2
  rfl
structure Ok (P : Program) (w : World) (K : PySem.W.Frag) (mg : Str → Option Value) (base : Heap) (k : Nat) (x : Str) (ps : List Str) (sp : Sp) : Prop where
  ex : ∃ fd, FnOk P w K mg base CX0 k (He.ga K x) fd ps sp ∧ Binds K fd ps [] ∧ Lk K (He.ga K x) fd
  kp : PySem.W.keepIn K (.ref (He.ga K x)) = true
  gm : mg x = some (.ref (He.ga K x))
structure Df (K : PySem.W.Frag) (mg : Str → Option Value) (x : Str) (st : Stmt) : Prop where
  ex : ∃ fd, FunD K x x (defArgs st) (defBody st) (defScope st) [] [] (He.ga K x) fd
  gm : mg x = some (.ref (He.ga K x))
end Bw

/-! set(list) for any kind of key: as many members as unlike keys -/
namespace Bw
open PySem PyProof.Rows
def dups {κ : Type} [BEq κ] : List κ → List κ → List κ
  | acc, [] => acc
  | acc, x :: xs => dups (if acc.any (· == x) then acc else acc ++ [x]) xs
section
variable {κ : Type} [DecidableEq κ] [BEq κ] [LawfulBEq κ]
def met (ks : List κ) (i : Nat) : List κ := dups [] (ks.take i)
theorem dups_app (l : List κ) (x : κ) : ∀ acc, dups acc (l ++ [x]) = (if (dups acc l).any (· == x) then dups acc l else dups acc l ++ [x]) := by
  induction l with
  | nil => intro acc; rfl
  | cons y l ih => intro acc; exact ih _
theorem met_succ (ks : List κ) (i : Nat) (x : κ) (h : ks[i]? = some x) : met ks (i + 1) = (if (met ks i).any (· == x) then met ks i else met ks i ++ [x]) := by
  unfold met
  rw [List.take_add_one, h]
  exact dups_app _ _ _
theorem dups_len (l : List κ) : ∀ acc : List κ, (dups acc l).length ≤ acc.length + l.length := by
  induction l with
  | nil => intro acc; exact Nat.le_refl _
  | cons y l ih =>
    intro acc
    have := ih (if acc.any (· == y) then acc else acc ++ [y])
    have h2 : (if acc.any (· == y) then acc else acc ++ [y]).length ≤ acc.length + 1 := by
      split
      · exact Nat.le_succ _
      · rw [List.length_append]; exact Nat.le_refl _
    show (dups (if acc.any (· == y) then acc else acc ++ [y]) l).length ≤ acc.length + (l.length + 1)
    omega
theorem met_len (ks : List κ) (i : Nat) : (met ks i).length ≤ i := by
  have h := dups_len (ks.take i) ([] : List κ)
  have h2 : (ks.take i).length ≤ i := by rw [List.length_take]; exact Nat.min_le_left _ _
  unfold met
  simp only [List.length_nil, Nat.zero_add] at h
  omega
end
section
variable {prog : Program} {w : World} {A : Around} {R : Result → Shared → Prop} {I : Addr} {fp wr : List Addr} {G : Array GenState → Array GenState → Prop} {n : Nat} {P : Nat → Value → Prop} {St : Nat → Shared → Prop}
variable {κ : Type} [DecidableEq κ] [BEq κ] [LawfulBEq κ] (knd : KeyKind prog w κ)
theorem loopK (W : WalksS prog w A.in1 I fp wr G n P St) (S : Addr) (hSf : S ∉ fp) (ks : List κ) (hval : ∀ i v, P i v → ∃ k, ks[i]? = some k ∧ knd.is k v = true ∧ v.scannable = true) (hb : n + 1 < scanBound) :
    ∀ (k i : Nat) (s : Shared), n - i = k → i ≤ n → St i s → s.heap.SetOf knd S (fun z => (met ks i).any (· == z)) (met ks i).length →
      (∀ s', Moved (S :: wr) G s s' → s'.heap.SetOf knd S (fun z => (met ks n).any (· == z)) (met ks n).length → R (.ok (.ret .none)) s') →
      codeAny (model prog w) A (.builtin "set.update.loop" ⟨[.ref S, .ref I], []⟩) R s := by
  have nw : S ∉ wr := fun h => hSf (W.sub _ h)
  have sb : ∀ b ∈ wr, b ∈ S :: wr := fun b hb => List.mem_cons_of_mem _ hb
  intro k
  induction k with
  | zero =>
    intro i s hk hi hst hS hR
    obtain rfl : i = n := by omega
    refine codeAny_builtin F.entry_set_update_loop ?_
    rw [Around.under_plainId F.plain_set_update_loop _]
    show wpAny _ A.in1 (pyNext (.ref I) >>= _) _ _ s
    refine wpAny_bind (W.done s _ _ hst fun s' hm => ?_)
    show wpAny _ A.in1 (ret Value.none) _ _ s'
    refine wpAny_pure (hR s' (hm.mono sb) ?_)
    obtain ⟨o, es, ep, t, ho, rest⟩ := hS
    exact ⟨o, es, ep, t, hm.heap S _ nw ho, rest⟩
  | succ k ih =>
    intro i s hk hi hst hS hR
    have hlt : i < n := by omega
    refine codeAny_builtin F.entry_set_update_loop ?_
    rw [Around.under_plainId F.plain_set_update_loop _]
    show wpAny _ A.in1 (pyNext (.ref I) >>= _) _ _ s
    refine wpAny_bind (W.item i s _ _ hlt hst fun v s' hP hst' hm => ?_)
    obtain ⟨x, hx, his, hsc⟩ := hval i v hP
    have hS' : s'.heap.SetOf knd S (fun z => (met ks i).any (· == z)) (met ks i).length := by
      obtain ⟨o, es, ep, tb, ho, rest⟩ := hS
      exact ⟨o, es, ep, tb, hm.heap S _ nw ho, rest⟩
    show wpAny _ A.in1 (holding [v] (setAdd S v) >>= _) _ _ s'
    refine wpAny_bind (wpAny_holding ?_)
    unfold setAdd
    refine wpAny_holding ?_
    refine wpAny_bind (knd.pyHash (k := x) his ?_)
    refine wpAny_setAddHashed_of (knd := knd) (s := { s' with toks := s'.toks + 1 }) his hsc hS' (by have := met_len ks i; omega) fun h' hsb hS2 => ?_
    have hSi : h'.SetOf knd S (fun z => (met ks (i + 1)).any (· == z)) (met ks (i + 1)).length := by
      refine SetOf_congr hS2 (fun z => ?_) ?_
      · rw [met_succ ks i x hx]
        by_cases q : (met ks i).any (· == x) = true
        · rw [if_pos q]
          by_cases e : z = x
          · subst e; rw [q]; rfl
          · rw [decide_eq_false e, Bool.or_false]
        · rw [if_neg q, List.any_append]
          by_cases e : z = x
          · subst e; simp
          · have hb2 : (x == z) = false := beq_eq_false_iff_ne.mpr fun h' => e h'.symm
            simp [hb2, e]
      · rw [met_succ ks i x hx]
        by_cases q : (met ks i).any (· == x) = true
        · rw [if_pos q, if_pos q]
        · rw [if_neg q, if_neg q, List.length_append]; rfl
    refine wpAny_pure ⟨plainId_quiet F.plain_set_update_loop _, ih (i + 1) _ (by omega) hlt (W.frame _ s' _ _ hst' (Nat.le_succ _) fun b hb o e => ?_) hSi fun s'' hm'' hS'' => ?_⟩
    · rw [hsb.2 b (fun h : b = S => hSf (by rw [← h]; exact hb))]; exact e
    · refine hR s'' (Moved.trans W.gtrans ((hm.mono sb).then_heap (Nat.le_succ _) fun b o hb e => ?_) hm'') hS''
      rw [hsb.2 b (fun h : b = S => hb (by rw [h]; exact List.mem_cons_self))]; exact e
end
end Bw
namespace Bw
open PySem
section
variable {prog : Program} {w : World} {A : Around} {E : Value → Shared → Prop} {s : Shared}
variable {κ : Type} [DecidableEq κ] [BEq κ] [LawfulBEq κ] (knd : KeyKind prog w κ)
abbrev sO (led : Bool) : Obj := { cls := .type "set", dict := none, data := .set #[] 0 (.fresh 0 0 led) }
theorem call_setK {l : Addr} {items : Array Value} {ks : List κ} {Q : Value → Shared → Prop} (hh : A.handled = none) (hl : s.heap.IsList l items)
    (hi : ∀ (i : Nat) (v : Value), items[i]? = some v → ∃ k, ks[i]? = some k ∧ knd.is k v = true ∧ v.scannable = true) (hb : items.size + 1 < scanBound)
    (h : ∀ (h' : Heap) (tk : Nat), h'.SetOf knd s.heap.objs.size (fun z => (met ks items.size).any (· == z)) (met ks items.size).length → (∀ b o, b < s.heap.objs.size → s.heap.get? b = some o → h'.get? b = some o) → Q (.ref s.heap.objs.size) { s with heap := h', toks := tk }) :
    wpAny (model prog w) A (call (.type "set") [.ref l]) Q E s := by
  obtain ⟨c, tl, hmro⟩ := F.called_set.mro
  have hmade := F.called_set.made
  have hsub := F.called_set.sub
  refine wpAny_call (codeAny_of_tree ?_)
  show wpAny _ _ (callAny (.type "set") _) _ _ _
  refine wpAny_pure ⟨Code.quiet_builtin _ (by decide +kernel), codeAny_builtin F.entry_type_call ?_⟩
  rw [Around.under_plain (weight_type_call_type "set" [.ref l] []) rfl]
  have h1 := F.called_set.notType
  have h2 := F.called_set.canCreate
  have hct := F.typeCall_set_1 (.ref l)
  repeat (any_goals (first | assumption | wp_step))
  refine codeAny_mono (code_set_new_1 (.ref l) (E := E) (Q₁ := fun obj s₁ => ∃ led : Bool, obj = .ref s.heap.objs.size ∧ s₁ = { s with heap := s.heap.push (sO led) }) fun led => ⟨led, rfl, rfl⟩) fun r s₁ hr => ?_
  cases r with
  | error e => exact hr
  | ok fl =>
    cases fl with
    | ret obj =>
      obtain ⟨led, rfl, rfl⟩ := hr
      have hS : (s.heap.push (sO led)).get? s.heap.objs.size = some (sO led) := Heap.get?_push_size _ rfl
      have hT : Shared.TypeIs { s with heap := s.heap.push (sO led) } (.ref s.heap.objs.size) "set" := ⟨_, hS, rfl⟩
      have hli := F.called_set.init.lookup
      have hbi := F.called_set.init.bind (.ref s.heap.objs.size)
      repeat (any_goals (first | assumption | wp_step))
      refine codeAny_mono (codeAny_call_builtin (R := wants (fun r s₂ => r = .none ∧ ∃ h' tk, s₂ = { s with heap := h', toks := tk } ∧ h'.SetOf knd s.heap.objs.size (fun z => (met ks items.size).any (· == z)) (met ks items.size).length ∧
          (∀ b o, b < s.heap.objs.size → s.heap.get? b = some o → h'.get? b = some o)) E) F.called_set.init.plain F.entry_set_init (check_set_init_1 hT ?_)) fun r₂ s₂ hr₂ => ?_
      · obtain ⟨ol, hol, hcl, nl, hdl⟩ := hl
        obtain ⟨ocls, odict, odata, oslots⟩ := ol
        simp only at hcl hdl
        subst hcl; subst hdl
        have hol' : (s.heap.push (sO led)).get? l = some { cls := .type "list", dict := odict, data := .seq items nl, slots := oslots } := Heap.get?_push_of_some _ hol
        have hsls := F.sub_list_set
        have hslf := F.sub_list_frozenset
        have hne : (Value.type "list" == Value.type "dict") = false := by decide
        have hl1 : (s.heap.push (sO led)).IsList l items := ⟨_, hol', rfl, nl, rfl⟩
        unfold Builtin.«set.__init__» noKeywords Builtin.Frozenset.updateFrom
        generalize hPI : pyIter = PI
        wp_walk
        subst hPI
        refine wpAny_pyIter_list hl1 ?_
        refine wpAny_bind (wpAny_runValue ?_)
        have hlS : l < s.heap.objs.size := Heap.lt_size hol
        have hneI : l ≠ (s.heap.push (sO led)).objs.size := by
          rw [Heap.size_push]; exact Nat.ne_of_lt (Nat.lt_succ_of_lt hlS)
        have hSf : s.heap.objs.size ∉ [(s.heap.push (sO led)).objs.size, l] := by
          rw [Heap.size_push]; simp only [List.mem_cons, List.not_mem_nil, or_false, not_or]
          exact ⟨Nat.ne_of_lt (Nat.lt_succ_self _), Nat.ne_of_gt hlS⟩
        refine loopK knd ((Walks.list (by simp [hh]) _ l hneI items).toS) s.heap.objs.size hSf ks hi hb (items.size - 0) 0 _ (by omega) (Nat.zero_le _) ⟨⟨_, Heap.get?_push_size _ rfl, rfl, rfl⟩, (hl1.push _)⟩ ?hS0 ?hR
        case hS0 =>
          exact PyProof.Rows.SetOf_congr ((PyProof.Rows.setObjOf_fresh (knd := knd) led).setOf (Heap.get?_push_of_some _ hS) (by unfold scanBound; omega)) (fun _ => rfl) rfl
        case hR =>
          intro s' hm hS'
          obtain ⟨h', g', d', tk', os'⟩ := s'
          have eg : g' = s.gens := hm.gens
          have ed : d' = s.drawn := hm.drawn
          have eo : os' = s.os := hm.os
          subst eg; subst ed; subst eo
          show wpAny _ _ _ _ _ _
          refine wpAny_pure ?_
          show wpAny _ _ (ret Value.none) _ _ _
          refine wpAny_pure ⟨rfl, h', tk', rfl, hS', fun b o hb e => ?_⟩
          refine hm.heap b o ?_ (Heap.get?_push_of_some _ (Heap.get?_push_of_some _ e))
          simp only [List.mem_cons, List.not_mem_nil, or_false, not_or]
          exact ⟨Nat.ne_of_lt hb, by rw [Heap.size_push]; exact Nat.ne_of_lt (Nat.lt_succ_of_lt hb)⟩
      · cases r₂ with
        | error e => exact hr₂
        | ok fl₂ =>
          cases fl₂ with
          | ret r =>
            obtain ⟨rfl, h', tk, rfl, hS', hk'⟩ := hr₂
            repeat (any_goals (first | assumption | wp_step))
            exact h _ _ hS' hk'
          | _ => exact hr₂.elim
    | _ => exact hr.elim
end
end Bw


namespace Bw
open PySem L2
def tLenSetS (K : PySem.W.Frag) (ta : TE) : TE := fun σ H Q => ta σ H fun x H1 => ∃ (l : Addr) (xs : List Str), x = .ref l ∧ SqL K H1 l (xs.map V.str) ∧ xs.length ≤ 4000 ∧ Q (.int (dups [] xs).length) H1
theorem strs_get : ∀ {xs : List Str} {us : List Value} {i : Nat} {v : Value}, Vals (xs.map V.str) us → us[i]? = some v → ∃ k, xs[i]? = some k ∧ ∃ t, v = .str k t
  | [], _, _, _, .nil, e => by simp at e
  | x :: xs, _, 0, v, .cons r t, e => by
    simp at e; subst e
    exact ⟨x, rfl, r⟩
  | x :: xs, _, i + 1, v, .cons r t, e => by
    obtain ⟨k, h1, h2⟩ := strs_get (i := i) (v := v) t (by simpa using e)
    exact ⟨k, by simpa using h1, h2⟩
theorem met_all {κ : Type} [DecidableEq κ] [BEq κ] (ks : List κ) : met ks ks.length = dups [] ks := by unfold met; rw [List.take_length]
theorem pe_lenSetS {X : Cx} {a : Expr} {ta : TE} {p p2 q pos : Pos} (hc : X.calm = true) (hg : Gl X "len") (hm : X.mg "len" = none) (hg2 : Gl X "set") (hm2 : X.mg "set" = none) (ha : PE X a ta)
    (na : starEach [a] X.env = (false, eval a X.env) :: starEach [] X.env := by rfl) : PE X (.Call (.Name "len" p) [.Call (.Name "set" p2) [a] [] q] [] pos) (tLenSetS X.K ta) := by
  refine ⟨fun pins s σ H Q I h => ?_⟩
  refine PyProof.Rows.Call_ (ld_blt I hg hm boot_len ?_)
  refine PyProof.Rows.callWith_builtin1 (PyProof.Rows.args_cons ?_ rfl) rfl rfl
  refine PyProof.Rows.Call_ (ld_blt I hg2 hm2 PyProof.Rows.boot_set ?_)
  refine PyProof.Rows.callWith_type1 (PyProof.Rows.args_cons (thn (ha.run pins s σ H _ I h) fun v s1 ⟨x, H1, I1, r1, q1⟩ => PyProof.Rows.args_nil ?_) na) na rfl
  obtain ⟨l, xs, rfl, hq, h1, q1⟩ := q1
  cases r1
  obtain ⟨its, r, pl, hz⟩ := I1.list hq
  have hl : its.toArray.size = xs.length := by rw [List.size_toArray, ← r.length, List.length_map]
  refine call_setK (PySem.strKind X.prog X.w) (ks := xs) (I1.ok.hd hc) pl.isList (fun i v hv => ?_) (by rw [hl]; unfold scanBound; omega) fun h' tk hS hk => ?_
  · obtain ⟨k, e1, t, e2⟩ := strs_get (i := i) (v := v) r (by simpa using hv)
    subst e2
    exact ⟨k, e1, strKind_is _ _ _ _, rfl⟩
  · refine PyProof.Rows.args_nil ?_
    rw [hl, met_all] at hS
    obtain ⟨o, es, ep, t, ho, hex, hd, _, _, _, hf, hn⟩ := hS
    have I2 : Inv X pins σ H1 { s1 with heap := h', toks := tk } := I1.kept fun b o e => hk b o (Heap.lt_size e) e
    have hlen := dups_len xs ([] : List Str)
    simp only [List.length_nil, Nat.zero_add] at hlen
    exact call_len_set ho hex hd hf (by rw [hn] <;> omega) ⟨.int (dups [] xs).length, H1, I2.tok _, ⟨_, by rw [hn]⟩, q1⟩
def setLenM (xs : List Str) : Option Int := if xs.length ≤ 4000 then some ((dups [] xs).length : Int) else none
abbrev rSrep : R2 := fun x y H Q => ∃ z n, x = .str z ∧ y = .int n ∧ MulOk z n ∧ Q (.str (Txt.mul z n)) H
theorem op_srep {X : Cx} : OpR X (binaryOp .Mult) rSrep := by
  intro pins s σ H x y v u Q I rx ry h
  obtain ⟨i, j, rfl, rfl, hz, q⟩ := h
  obtain ⟨t, rfl⟩ := rx
  obtain ⟨t', rfl⟩ := ry
  exact SB.mul hz fun t' tk => ⟨.str (Txt.mul i j), H, I.tok _, ⟨_, rfl⟩, q⟩
def srepM (x : Str) (n : Int) : Option Str := if -(2 ^ 63) ≤ n ∧ n < 2 ^ 63 ∧ x.length * n.toNat ≤ 100000 then some (Txt.mul x n) else none
theorem mulOk {x : Str} {n : Int} (h : -(2 ^ 63) ≤ n ∧ n < 2 ^ 63 ∧ x.length * n.toNat ≤ 100000) : MulOk x n := by
  obtain ⟨h1, h2, h3⟩ := h
  refine ⟨?_, fun hn hc => ?_, fun hn hc => ?_⟩
  · rw [Bool.or_eq_false_iff]
    exact ⟨decide_eq_false (by omega), decide_eq_false (by omega)⟩
  · intro hgt
    have hx : (x.length : Int) * n ≤ 100000 := by
      have e : ((x.length * n.toNat : Nat) : Int) = (x.length : Int) * n := by
        rw [Int.natCast_mul, Int.toNat_of_nonneg (by omega)]
      omega
    have h5 : (2 ^ 63 - 1 : Int) / n + 1 ≤ x.length := by omega
    have h6 : (2 ^ 63 - 1 : Int) < ((2 ^ 63 - 1 : Int) / n + 1) * n := Int.lt_ediv_add_one_mul_self _ (by omega)
    have h7 : ((2 ^ 63 - 1 : Int) / n + 1) * n ≤ (x.length : Int) * n := Int.mul_le_mul_of_nonneg_right h5 (by omega)
    omega
  · unfold Builtin.Str.tooLong
    simp only [decide_eq_false_iff_not]
    have : (100000 : Nat) ≤ sizeLine := by decide
    omega
section
variable {K : PySem.W.Frag} {σ : St} {F F' : Hp} {cs cs1 cs2 cs3 : Cs} {ta tb tc te : TE} {d e : PyData} {as : TA} {a b c : Int} {nx bk ct : St → Hp → Prop} {rt : VK} {H : Hp} {t u : TS}
theorem d_srep {x z : Str} (ha : EvD K ta σ F cs (.str x) cs1) (hb : EvD K tb σ F cs1 (.int b) cs2) (hz : srepM x b = some z) : EvD K (tOp rSrep ta tb) σ F cs (.str z) cs2 :=
  d_op ha hb fun _ _ F2 H2 hx hy s _ Q q => by
    cases hx.toStr; cases hy.toInt
    unfold srepM at hz; split at hz
    · rename_i h; cases hz; exact ⟨x, b, rfl, rfl, mulOk h, q _ F2 H2 .rfl s (.str _)⟩
    · cases hz
theorem d_setLen {xs : List Str} {n : Int} (ha : EvD K ta σ F cs (eL eS xs) cs1) (hn : setLenM xs = some n) : EvD K (tLenSetS K ta) σ F cs (.int n) cs1 := fun F1 H1 g1 s Q q =>
  ha F1 H1 g1 s _ fun v F2 H2 g2 s2 h2 => by
    obtain ⟨p, vs, rfl, hl, hd⟩ := h2.toLst
    cases hd.strs
    unfold setLenM at hn; split at hn
    · rename_i h; cases hn; exact ⟨p, xs, rfl, gr_L s2.fr hl, h, q _ F2 H2 g2 s2 (.int _)⟩
    · cases hn
/-- list(x), x a cell -/
theorem c_listC {l1 l2 : Cs} {i : Nat} {p : Addr} {us : List V} {ds : List PyData} (hi : σ[i]? = some (some (.ref p))) (hd : Dts K F us ds) : EvC K (tCB (rListS K) (tCons (tVar i) tNil)) σ F (l1 ++ (p, .lst us) :: l2) ds (l1 ++ (p, .lst us) :: l2) := fun F1 H1 g1 s Q q =>
  ⟨.ref p, hi, p, us, rfl, .inl (.inl (.inl s.getAt)), fun l nl => q _ _ _ _ .rfl (s.cell nl) (hd.gr g1)⟩
/-- x = y.pop(k), y a cell -/
def popM {α : Type} (xs : List α) (k : Int) : Option (α × List α) := if -(2 ^ 63) ≤ k ∧ k < 2 ^ 63 then (seqIndex? k xs.length).bind fun j => (xs[j]?).map fun x => (x, xs.eraseIdx j) else none
theorem popM_some {α : Type} {xs ys : List α} {k : Int} {x : α} (h : popM xs k = some (x, ys)) : (-(2 ^ 63) ≤ k ∧ k < 2 ^ 63) ∧ ∃ j, seqIndex? k xs.length = some j ∧ xs[j]? = some x ∧ ys = xs.eraseIdx j := by
  unfold popM at h; split at h
  · rename_i q
    refine ⟨q, ?_⟩
    obtain ⟨j, h1, h⟩ := bnd h
    cases e : xs[j]? with
    | none => rw [e] at h; cases h
    | some z => rw [e] at h; cases h; exact ⟨j, h1, e, rfl⟩
  · cases h
theorem er_map {α β : Type} (f : α → β) : ∀ (xs : List α) (j : Nat), (xs.eraseIdx j).map f = (xs.map f).eraseIdx j
  | [], _ => rfl
  | _ :: _, 0 => rfl
  | x :: xs, j + 1 => by simp only [List.eraseIdx_cons_succ, List.map_cons, er_map f xs j]
theorem s_popF {α : Type} {vf : α → V} {en : α → PyData} {l1 l2 : Cs} {i j : Nat} {p : Addr} {xs ys : List α} {x : α} {ti : TE} {k : Int} {σ' : St} (hd : ∀ F x, Dt K F (vf x) (en x)) (s : Sta F (l1 ++ (p, .lst (xs.map vf)) :: l2) H) (hi : σ[i]? = some (some (.ref p)))
    (h2 : EvD K ti σ F (l1 ++ (p, .lst (xs.map vf)) :: l2) (.int k) (l1 ++ (p, .lst (xs.map vf)) :: l2)) (hm : popM xs k = some (x, ys)) (hσ : σ.set j (some (vf x)) = σ') (q : ∀ F2 H2, Gr F F2 → Sta F2 (l1 ++ (p, .lst (ys.map vf)) :: l2) H2 → nx σ' H2) : tAsg (tBM K "list" rPopAt (tVar i) (tCons ti tNil)) (gName j) ⟨nx, rt, bk, ct⟩ σ H := by
  obtain ⟨⟨a1, a2⟩, m, b1, b2, rfl⟩ := popM_some hm
  refine ⟨.ref p, hi, .inl ⟨rfl, _, .inl (.inl s.getAt)⟩, h2 F H .rfl s _ fun w F3 H3 g3 s3 hw => ⟨p, xs.map vf, k, m, vf x, rfl, by cases hw.toInt; rfl, s3.getAt, a1, a2, by rw [List.length_map]; exact b1, by rw [List.getElem?_map, b2]; rfl, ?_⟩⟩
  show nx (σ.set j (some (vf x))) _
  rw [hσ]
  refine q F3 _ g3 ?_
  have s4 := s3.putAt (o' := .lst ((xs.map vf).eraseIdx m))
  rw [er_map]
  exact s4
/-- y.remove(k), y a cell of ints -/
def remM (xs : List Int) (k : Int) : Option (List Int) := if inL k xs = true then some (xs.erase k) else none
theorem rem_at {xs : List Int} {k : Int} (h : inL k xs = true) : ∃ j, xs[j]? = some k ∧ (∀ m : Nat, m < j → xs[m]? ≠ some k) ∧ xs.eraseIdx j = xs.erase k := by
  induction xs with
  | nil => cases h
  | cons y xs ih =>
    by_cases e : y = k
    · subst e
      exact ⟨0, rfl, fun m hm => absurd hm (Nat.not_lt_zero m), by simp⟩
    · have h' : inL k xs = true := by
        unfold inL at h ⊢
        rw [List.any_cons] at h
        have q : (y == k) = false := by simpa using e
        rw [q, Bool.false_or] at h
        exact h
      obtain ⟨j, h1, h2, h3⟩ := ih h'
      refine ⟨j + 1, by simpa using h1, fun m hm => ?_, ?_⟩
      · cases m with
        | zero => simpa using e
        | succ m => simpa using h2 m (by omega)
      · rw [List.eraseIdx_cons_succ, h3, List.erase_cons_tail]
        simpa using e
theorem s_remF {l1 l2 : Cs} {i : Nat} {p : Addr} {xs ys : List Int} {ti : TE} {k : Int} (s : Sta F (l1 ++ (p, .lst (xs.map V.int)) :: l2) H) (hi : σ[i]? = some (some (.ref p)))
    (h2 : EvD K ti σ F (l1 ++ (p, .lst (xs.map V.int)) :: l2) (.int k) (l1 ++ (p, .lst (xs.map V.int)) :: l2)) (hm : remM xs k = some ys) (q : ∀ F2 H2, Gr F F2 → Sta F2 (l1 ++ (p, .lst (ys.map V.int)) :: l2) H2 → nx σ H2) : tDrop (tBM K "list" rRemI (tVar i) (tCons ti tNil)) ⟨nx, rt, bk, ct⟩ σ H := by
  unfold remM at hm; split at hm
  · rename_i hin
    cases hm
    obtain ⟨j, e1, e2, e3⟩ := rem_at hin
    refine ⟨.ref p, hi, .inl ⟨rfl, _, .inl (.inl s.getAt)⟩, h2 F H .rfl s _ fun w F3 H3 g3 s3 hw => ⟨p, xs, k, j, rfl, by cases hw.toInt; rfl, s3.getAt, e1, e2, q F3 _ g3 ?_⟩⟩
    rw [e3]
    exact s3.putAt
  · cases hm
theorem d_isV {w : V} (hw : ∀ F v, Dt K F v d → v = w) (ha : EvD K ta σ F cs d cs1) : EvD K (tOp rIsN ta (tC .non)) σ F cs (.bool (decide (w = V.non))) cs1 := fun F1 H1 g1 s Q q =>
  ha F1 H1 g1 s _ fun v F2 H2 g2 s2 h2 => ⟨rfl, by cases hw F2 v h2; exact q _ F2 H2 g2 s2 (.bl _)⟩
theorem d_nisV {w : V} (hw : ∀ F v, Dt K F v d → v = w) (ha : EvD K ta σ F cs d cs1) : EvD K (tOp rNotN ta (tC .non)) σ F cs (.bool (!decide (w = V.non))) cs1 := fun F1 H1 g1 s Q q =>
  ha F1 H1 g1 s _ fun v F2 H2 g2 s2 h2 => ⟨rfl, by cases hw F2 v h2; exact q _ F2 H2 g2 s2 (.bl _)⟩
theorem d_isN (ha : EvD K ta σ F cs PyData.none cs1) : EvD K (tOp rIsN ta (tC .non)) σ F cs (.bool true) cs1 := d_isV (fun _ _ h => Dt.toNon h) ha
theorem d_nisN (ha : EvD K ta σ F cs PyData.none cs1) : EvD K (tOp rNotN ta (tC .non)) σ F cs (.bool false) cs1 := d_nisV (fun _ _ h => Dt.toNon h) ha
theorem d_isOI {o : Option Int} (ha : EvD K ta σ F cs (eO eI o) cs1) : EvD K (tOp rIsN ta (tC .non)) σ F cs (.bool o.isNone) cs1 := d_is (d_isV (fun _ _ h => dt_toI h) ha) (by cases o <;> rfl)
theorem d_nisOI {o : Option Int} (ha : EvD K ta σ F cs (eO eI o) cs1) : EvD K (tOp rNotN ta (tC .non)) σ F cs (.bool (!o.isNone)) cs1 := d_is (d_nisV (fun _ _ h => dt_toI h) ha) (by cases o <;> rfl)
end
end Bw
theorem Bw.sta0 {H : L2.Hp} : Bw.Sta H [] H := ⟨fun _ _ e => e, by simp, by simp, by simp⟩

namespace Bw
open PySem L2
/-! expressions that change cells -/
section
variable {K : PySem.W.Frag} {σ : St} {F F' : Hp} {cs cs1 cs2 cs3 : Cs} {ta tb tc te : TE} {d e : PyData} {as : TA} {a b c : Int} {nx bk ct : St → Hp → Prop} {rt : VK} {H : Hp} {t u : TS}
theorem d_lendX {l1 l2 m1 m2 : Cs} {p : Addr} {o : HO} {w : V} (hw : ∀ F v, Dt K F v d → v = w) (hd : ∀ F, Dt K F w d) (h : ∀ F1, Gr F F1 → F1 p = none → EvD K te σ (upd F1 p o) (l1 ++ l2) d (m1 ++ m2)) : EvD K te σ F (l1 ++ (p, o) :: l2) d (m1 ++ (p, o) :: m2) := fun F1 H1 g1 s Q q => by
  refine h F1 g1 s.freeAt (upd F1 p o) H1 .rfl s.frozeAt Q fun v F2 H2 g2 s2 h2 => ?_
  cases hw F2 v h2
  exact q w (cut F2 p) H2 (gr_cut s.freeAt g2) (Sta.lent g2 s2) (hd _)
theorem t_lendX {l1 l2 m1 m2 : Cs} {p : Addr} {o : HO} {t : TT} {b : Bool} (h : ∀ F1, Gr F F1 → F1 p = none → EvT t σ (upd F1 p o) (l1 ++ l2) b (m1 ++ m2)) : EvT t σ F (l1 ++ (p, o) :: l2) b (m1 ++ (p, o) :: m2) := fun F1 H1 g1 s Q q => by
  refine h F1 g1 s.freeAt (upd F1 p o) H1 .rfl s.frozeAt Q fun F2 H2 g2 s2 => ?_
  exact q (cut F2 p) H2 (gr_cut s.freeAt g2) (Sta.lent g2 s2)
/-! functions that change cells -/
inductive Ar where
  | d (x : PyData)
  | c (us : List V)
inductive ArgR (K : PySem.W.Frag) (F : Hp) : List V → List Ar → Cs → Prop
  | nil : ArgR K F [] [] []
  | d {v : V} {x : PyData} {vs : List V} {as : List Ar} {cs : Cs} : Dt K F v x → ArgR K F vs as cs → ArgR K F (v :: vs) (.d x :: as) cs
  | c {p : Addr} {us : List V} {vs : List V} {as : List Ar} {cs : Cs} : ArgR K F vs as cs → ArgR K F (.ref p :: vs) (.c us :: as) ((p, .lst us) :: cs)
theorem ArgR.no {vs : List V} {cs : Cs} (h : ArgR K F vs [] cs) : vs = [] ∧ cs = [] := by cases h; exact ⟨rfl, rfl⟩
theorem ArgR.hd {vs : List V} {x : PyData} {as : List Ar} {cs : Cs} (h : ArgR K F vs (.d x :: as) cs) : ∃ v ws, vs = v :: ws ∧ Dt K F v x ∧ ArgR K F ws as cs := by
  cases h with | d h t => exact ⟨_, _, rfl, h, t⟩
theorem ArgR.hc {vs : List V} {us : List V} {as : List Ar} {cs : Cs} (h : ArgR K F vs (.c us :: as) cs) : ∃ p ws cs', vs = .ref p :: ws ∧ cs = (p, .lst us) :: cs' ∧ ArgR K F ws as cs' := by
  cases h with | c t => exact ⟨_, _, _, rfl, rfl, t⟩
theorem ArgR.len : ∀ {vs : List V} {as : List Ar} {cs : Cs}, ArgR K F vs as cs → vs.length = as.length
  | _, _, _, .nil => rfl
  | _, _, _, .d _ t => by rw [List.length_cons, List.length_cons, t.len]
  | _, _, _, .c t => by rw [List.length_cons, List.length_cons, t.len]
def upC : Cs → List (List V) → Cs
  | c :: cs, us :: uss => (c.1, .lst us) :: upC cs uss
  | _, _ => []
def spC (K : PySem.W.Frag) {α β : Type} (A : α → List Ar) (B : β → PyData) (C : β → List (List V)) (f : α → Option β) : Sp := fun vs H Q _ => ∃ F cc cs x y, ArgR K F vs (A x) cc ∧ Sta F (cc ++ cs) H ∧ f x = some y ∧ ∀ v F2 H2, Gr F F2 → Sta F2 (upC cc (C y) ++ cs) H2 → Dt K F2 v (B y) → Q v H2
def EvR (K : PySem.W.Frag) (ta : TA) (σ : St) (F : Hp) (cs : Cs) (as : List Ar) (cc : Cs) (cs' : Cs) : Prop := EvA ta σ F cs (fun vs F' => ArgR K F' vs as cc) cs'
theorem ArgR.gr (g : Gr F F') : ∀ {vs : List V} {as : List Ar} {cs : Cs}, ArgR K F vs as cs → ArgR K F' vs as cs
  | _, _, _, .nil => .nil
  | _, _, _, .d h t => .d (h.gr g) (t.gr g)
  | _, _, _, .c t => .c (t.gr g)
theorem r_nil : EvR K tNil σ F cs [] [] cs := fun F1 H1 g s Q q => q _ F1 H1 .rfl s .nil
theorem r_d {xs : List Ar} {cc : Cs} (h : EvD K te σ F cs d cs1) (h2 : EvR K as σ F cs1 xs cc cs2) : EvR K (tCons te as) σ F cs (.d d :: xs) cc cs2 := fun F1 H1 g1 s Q q =>
  h F1 H1 g1 s _ fun v F2 H2 g2 s2 hv => h2 F2 H2 (g1.tr g2) s2 _ fun vs F3 H3 g3 s3 hvs => q _ F3 H3 (g2.tr g3) s3 (.d (hv.gr g3) hvs)
theorem r_c {xs : List Ar} {cc : Cs} {i : Nat} {p : Addr} {us : List V} (hi : σ[i]? = some (some (.ref p))) (h2 : EvR K as σ F cs xs cc cs2) : EvR K (tCons (tVar i) as) σ F cs (.c us :: xs) ((p, .lst us) :: cc) cs2 := fun F1 H1 g1 s Q q =>
  ⟨.ref p, hi, h2 F1 H1 g1 s _ fun vs F3 H3 g3 s3 hvs => q _ F3 H3 g3 s3 (.c hvs)⟩
theorem d_callC {α β : Type} {A : α → List Ar} {B : β → PyData} {C : β → List (List V)} {f : α → Option β} {x : α} {y : β} {E : XK} {cc cs' : Cs} (h : EvR K as σ F cs (A x) cc cs1) (hp : cs1.Perm (cc ++ cs')) (hf : f x = some y) (hq : (upC cc (C y) ++ cs').Perm cs2) : EvD K (tCall (spC K A B C f) [] E as) σ F cs (B y) cs2 := fun F1 H1 g1 s Q q =>
  h F1 H1 g1 s _ fun vs F2 H2 g2 s2 h2 => ⟨F2, cc, cs', x, y, by rw [List.append_nil]; exact h2, s2.perm hp, hf, fun v F3 H3 g3 s3 h3 => q v F3 H3 (g2.tr g3) (s3.perm hq) h3⟩
/-! comprehensions whose elements change cells -/
def lcS {S α β : Type} (f : S → α → Option (S × Option β)) : S → List α → Option (S × List β)
  | s, [] => some (s, [])
  | s, x :: xs => (f s x).bind fun p => (lcS f p.1 xs).bind fun q => some (q.1, match p.2 with
    | some y => y :: q.2
    | none => q.2)
def lcSC {S α β : Type} (f : S → α → Option (S × Option β)) (s : S) (xs : List α) : Option (S × List β) := if xs.length ≤ 100000 then lcS f s xs else none
theorem c_lcS {S α β : Type} {wi : TI} {g : TG} {tt : TT} {vs : List Nat} {xs : List α} {en : α → PyData} {em : β → PyData} {f : S → α → Option (S × Option β)} {ys : List β} {s0 s1 : S} (cc : S → Cs)
    (hi : EvI K wi σ F cs (xs.map en) (cc s0)) (hm : lcSC f s0 xs = some (s1, ys))
    (turn : ∀ x z z' o v F1 p us, Gr F F1 → Dt K F1 v (en x) → f z x = some (z', o) → ∃ σ2 : St, (∀ H (Q : St → Hp → Prop), Sta F1 ((p, .lst us) :: cc z) H → Q σ2 H → g v (wipe σ vs) H Q) ∧ wipe σ2 vs = wipe σ vs ∧
      EvT tt σ2 F1 ((p, .lst us) :: cc z) o.isSome ((p, .lst us) :: cc z) ∧ (o = none → z' = z) ∧ ∀ y, o = some y → EvD K te σ2 F1 ((p, .lst us) :: cc z) (em y) ((p, .lst us) :: cc z')) :
    EvC K (tLc wi g tt te vs) σ F cs (ys.map em) (cc s1) := fun F1 H1 g1 s Q q => by
  unfold lcSC at hm
  split at hm
  case isFalse => cases hm
  rename_i hl
  refine hi F1 H1 g1 s _ fun J F2 H2 g2 s2 hs => ?_
  intro p hp
  have s3 : Sta F2 ((p, .lst []) :: cc s0) (upd H2 p (.lst [])) := s2.cell hp
  refine ⟨fun i m H4 => m = xs.length - i ∧ i ≤ xs.length ∧ ∃ us done rest z F4, us.length ≤ i ∧ Gr F2 F4 ∧ Sta F4 ((p, .lst us) :: cc z) H4 ∧ Dts K F4 us (done.map em) ∧ lcS f z (xs.drop i) = some (s1, rest) ∧ done ++ rest = ys,
    ⟨xs.length, by simp, Nat.zero_le _, [], [], ys, s0, F2, Nat.le_refl _, .rfl, s3, .nil, by simpa using hm, rfl⟩, ?_⟩
  rintro i m H4 ⟨rfl, hi, us, done, rest, z, F4, hu, g4, s4, hd, hr, he⟩
  obtain ⟨hgo, hstop, hy⟩ := hs F4 _ H4 g4 s4
  by_cases hlt : i < xs.length
  · rw [List.drop_eq_getElem_cons hlt] at hr
    obtain ⟨⟨z', o⟩, ho, hr⟩ := bnd (show (f z xs[i]).bind _ = some (s1, rest) from hr)
    obtain ⟨⟨s1', zs⟩, hz, hr⟩ := bnd hr
    dsimp only at hz hr
    refine .inr ⟨hgo i (by simpa using hlt), fun H' => i + 1 ≤ xs.length ∧ ∃ us done rest z F4, us.length ≤ i + 1 ∧ Gr F2 F4 ∧ Sta F4 ((p, .lst us) :: cc z) H' ∧ Dts K F4 us (done.map em) ∧ lcS f z (xs.drop (i + 1)) = some (s1, rest) ∧ done ++ rest = ys, fun H' h' => ⟨xs.length - (i + 1), by omega, rfl, h'⟩, fun x H' y => ?_⟩
    obtain ⟨F5, g5, s5, d5⟩ := hy i x H' (en xs[i]) (by rw [List.getElem?_map, List.getElem?_eq_getElem hlt]; rfl) y
    obtain ⟨σ2, h1, h2, h3, hn, h4⟩ := turn xs[i] z z' o x F5 p us (g1.tr (g2.tr (g4.tr g5))) d5 ho
    refine h1 H' _ s5 ⟨h2, h3 F5 H' .rfl s5 _ fun F6 H6 g6 s6 => ?_⟩
    cases o with
    | none =>
      cases hr
      cases hn rfl
      exact ⟨hlt, us, done, zs, z, F6, Nat.le_succ_of_le hu, g4.tr (g5.tr g6), s6, hd.gr (g5.tr g6), hz, he⟩
    | some y1 =>
      cases hr
      refine (h4 y1 rfl) F6 H6 g6 s6 _ fun v F7 H7 g7 s7 hv => ⟨us, s7.at List.mem_cons_self, szl (by omega), hlt, us ++ [v], done ++ [y1], zs, z', F7, by rw [List.length_append]; exact Nat.succ_le_succ hu, g4.tr (g5.tr (g6.tr g7)), s7.put, ?_, hz, ?_⟩
      · rw [List.map_append]
        exact (hd.gr (g5.tr (g6.tr g7))).app (.cons hv .nil)
      · rw [List.append_assoc]; exact he
  · have e : i = xs.length := by omega
    subst e
    rw [List.drop_length] at hr
    cases hr
    rw [List.append_nil] at he
    subst he
    exact .inl ⟨by simpa using hstop, q p us F4 H4 (g2.tr g4) s4 hd⟩
/-! changes of a cell, where the values change other cells -/
theorem s_appX {k1 k2 l1 l2 : Cs} {i : Nat} {p : Addr} {vs : List V} (s : Sta F (k1 ++ (p, .lst vs) :: k2) H) (hi : σ[i]? = some (some (.ref p))) (h : EvD K te σ F (k1 ++ (p, .lst vs) :: k2) d (l1 ++ (p, .lst vs) :: l2)) (hl : vs.length < 100000)
    (q : ∀ v F2 H2, Gr F F2 → Sta F2 (l1 ++ (p, .lst (vs ++ [v])) :: l2) H2 → Dt K F2 v d → nx σ H2) : tDrop (tBM K "list" rAppend (tVar i) (tCons te tNil)) ⟨nx, rt, bk, ct⟩ σ H :=
  ⟨.ref p, hi, .inl ⟨rfl, _, .inl (.inl s.getAt)⟩, h F H .rfl s _ fun v F2 H2 g2 s2 h2 => ⟨p, vs, v, rfl, rfl, s2.getAt, szl hl, q v F2 _ g2 s2.putAt h2⟩⟩
theorem s_appFX {α : Type} {vf : α → V} {en : α → PyData} {k1 k2 l1 l2 : Cs} {i : Nat} {p : Addr} {xs ys : List α} {x : α} (hw : ∀ F v x, Dt K F v (en x) → v = vf x) (s : Sta F (k1 ++ (p, .lst (xs.map vf)) :: k2) H) (hi : σ[i]? = some (some (.ref p))) (h : EvD K te σ F (k1 ++ (p, .lst (xs.map vf)) :: k2) (en x) (l1 ++ (p, .lst (xs.map vf)) :: l2)) (hm : appM xs x = some ys)
    (q : ∀ F2 H2, Gr F F2 → Sta F2 (l1 ++ (p, .lst (ys.map vf)) :: l2) H2 → nx σ H2) : tDrop (tBM K "list" rAppend (tVar i) (tCons te tNil)) ⟨nx, rt, bk, ct⟩ σ H := by
  obtain ⟨hl, rfl⟩ := appM_some hm
  refine s_appX s hi h (by rw [List.length_map]; exact hl) fun v F2 H2 g2 s2 h2 => q F2 H2 g2 ?_
  cases hw F2 v x h2
  rw [List.map_append]; exact s2
theorem s_appGX {α : Type} {en : α → PyData} {k1 k2 l1 l2 : Cs} {i : Nat} {p : Addr} {vs : List V} {xs ys : List α} {x : α} (s : Sta F (k1 ++ (p, .lst vs) :: k2) H) (hf : Dts K F vs (xs.map en)) (hi : σ[i]? = some (some (.ref p))) (h : EvD K te σ F (k1 ++ (p, .lst vs) :: k2) (en x) (l1 ++ (p, .lst vs) :: l2)) (hm : appM xs x = some ys)
    (q : ∀ us F2 H2, Gr F F2 → Sta F2 (l1 ++ (p, .lst us) :: l2) H2 → Dts K F2 us (ys.map en) → nx σ H2) : tDrop (tBM K "list" rAppend (tVar i) (tCons te tNil)) ⟨nx, rt, bk, ct⟩ σ H := by
  obtain ⟨hl, rfl⟩ := appM_some hm
  refine s_appX s hi h (by rw [hf.len, List.length_map]; exact hl) fun v F2 H2 g2 s2 h2 => q _ F2 H2 g2 s2 ?_
  rw [List.map_append]; exact (hf.gr g2).app (.cons h2 .nil)
theorem s_itemX {k1 k2 m1 m2 l1 l2 : Cs} {i : Nat} {p : Addr} {vs : List V} {ti : TE} {k : Int} {j : Nat} (s : Sta F (k1 ++ (p, .lst vs) :: k2) H) (hi : σ[i]? = some (some (.ref p))) (h : EvD K te σ F (k1 ++ (p, .lst vs) :: k2) d (m1 ++ (p, .lst vs) :: m2))
    (h2 : EvD K ti σ F (m1 ++ (p, .lst vs) :: m2) (.int k) (l1 ++ (p, .lst vs) :: l2)) (hj : ixN vs.length k = some j) (q : ∀ v F2 H2, Gr F F2 → Sta F2 (l1 ++ (p, .lst (vs.set j v)) :: l2) H2 → Dt K F2 v d → nx σ H2) : tAsg te (gSub (tVar i) ti rSetL) ⟨nx, rt, bk, ct⟩ σ H :=
  h F H .rfl s _ fun v F2 H2 g2 s2 hv => ⟨.ref p, hi, h2 F2 H2 g2 s2 _ fun w F3 H3 g3 s3 hw => ⟨p, vs, k, j, rfl, hw.toInt, s3.getAt, hj, q v F3 _ (g2.tr g3) s3.putAt (hv.gr g3)⟩⟩
theorem s_itemFX {α : Type} {vf : α → V} {en : α → PyData} {k1 k2 m1 m2 l1 l2 : Cs} {i : Nat} {p : Addr} {xs ys : List α} {x : α} {ti : TE} {k : Int} (hw : ∀ F v x, Dt K F v (en x) → v = vf x) (s : Sta F (k1 ++ (p, .lst (xs.map vf)) :: k2) H) (hi : σ[i]? = some (some (.ref p))) (h : EvD K te σ F (k1 ++ (p, .lst (xs.map vf)) :: k2) (en x) (m1 ++ (p, .lst (xs.map vf)) :: m2))
    (h2 : EvD K ti σ F (m1 ++ (p, .lst (xs.map vf)) :: m2) (.int k) (l1 ++ (p, .lst (xs.map vf)) :: l2)) (hm : setM xs k x = some ys) (q : ∀ F2 H2, Gr F F2 → Sta F2 (l1 ++ (p, .lst (ys.map vf)) :: l2) H2 → nx σ H2) : tAsg te (gSub (tVar i) ti rSetL) ⟨nx, rt, bk, ct⟩ σ H := by
  obtain ⟨j, hj, rfl⟩ := setM_some hm
  refine s_itemX (j := j) s hi h h2 (by rw [List.length_map]; exact hj) fun v F2 H2 g2 s2 hv => q F2 H2 g2 ?_
  cases hw F2 v x hv
  rw [List.map_set]; exact s2
theorem s_itemGX {α : Type} {en : α → PyData} {k1 k2 m1 m2 l1 l2 : Cs} {i : Nat} {p : Addr} {vs : List V} {xs ys : List α} {x : α} {ti : TE} {k : Int} (s : Sta F (k1 ++ (p, .lst vs) :: k2) H) (hf : Dts K F vs (xs.map en)) (hi : σ[i]? = some (some (.ref p))) (h : EvD K te σ F (k1 ++ (p, .lst vs) :: k2) (en x) (m1 ++ (p, .lst vs) :: m2))
    (h2 : EvD K ti σ F (m1 ++ (p, .lst vs) :: m2) (.int k) (l1 ++ (p, .lst vs) :: l2)) (hm : setM xs k x = some ys) (q : ∀ us F2 H2, Gr F F2 → Sta F2 (l1 ++ (p, .lst us) :: l2) H2 → Dts K F2 us (ys.map en) → nx σ H2) : tAsg te (gSub (tVar i) ti rSetL) ⟨nx, rt, bk, ct⟩ σ H := by
  obtain ⟨j, hj, rfl⟩ := setM_some hm
  refine s_itemX (j := j) s hi h h2 (by rw [hf.len, List.length_map]; exact hj) fun v F2 H2 g2 s2 hv => q _ F2 H2 g2 s2 ?_
  rw [List.map_set]; exact (hf.gr g2).setAt j hv
end
end Bw
namespace Bw
open PySem L2
section
variable {K : PySem.W.Frag} {σ : St} {F F' : Hp} {cs cs1 cs2 cs3 : Cs} {ta tb tc te : TE} {d e : PyData} {as : TA} {a b c : Int} {nx bk ct : St → Hp → Prop} {rt : VK} {H : Hp} {t u : TS}
theorem s_augI {i : Nat} {σ' : St} {w b : Int} {f : Int → Int → Int} (hx : σ[i]? = some (some (.int w))) (s : Sta F cs H) (h : EvD K te σ F cs (.int b) cs1) (hσ : σ.set i (some (.int (f w b))) = σ') (q : ∀ F2 H2, Gr F F2 → Sta F2 cs1 H2 → nx σ' H2) : tAug i te (ipI f) ⟨nx, rt, bk, ct⟩ σ H :=
  ⟨.int w, hx, h F H .rfl s _ fun v F2 H2 g2 s2 h2 => ⟨w, b, rfl, h2.toInt, by show nx (σ.set i (some (.int (f w b)))) H2; rw [hσ]; exact q F2 H2 g2 s2⟩⟩
def rGetL (K : PySem.W.Frag) : V → V → Hp → VK → Prop := rIxL K
/-- o[i] op= e, o a cell of ints -/
theorem s_augS {k1 k2 m1 m2 l1 l2 : Cs} {i : Nat} {p : Addr} {xs ys : List Int} {ti : TE} {k w b : Int} {f : Int → Int → Int} (s : Sta F (k1 ++ (p, .lst (xs.map V.int)) :: k2) H) (hi : σ[i]? = some (some (.ref p))) (h1 : EvD K ti σ F (k1 ++ (p, .lst (xs.map V.int)) :: k2) (.int k) (m1 ++ (p, .lst (xs.map V.int)) :: m2)) (hg : atI xs k = some w)
    (h2 : EvD K te σ F (m1 ++ (p, .lst (xs.map V.int)) :: m2) (.int b) (l1 ++ (p, .lst (xs.map V.int)) :: l2)) (hm : setM xs k (f w b) = some ys) (q : ∀ F2 H2, Gr F F2 → Sta F2 (l1 ++ (p, .lst (ys.map V.int)) :: l2) H2 → nx σ H2) : tAugS (tVar i) ti te (rIxL K) (ipI f) rSetL ⟨nx, rt, bk, ct⟩ σ H := by
  obtain ⟨j, hj, rfl⟩ := setM_some hm
  refine ⟨.ref p, hi, h1 F H .rfl s _ fun v F2 H2 g2 s2 hv => ⟨p, xs.map V.int, k, .int w, rfl, hv.toInt, .inl (.inl s2.getAt), by rw [atI_map, hg]; rfl, h2 F2 H2 g2 s2 _ fun y F3 H3 g3 s3 hy => ⟨w, b, rfl, hy.toInt, p, xs.map V.int, k, j, rfl, hv.toInt, s3.getAt, by rw [List.length_map]; exact hj, q F3 _ (g2.tr g3) ?_⟩⟩⟩
  rw [List.map_set]; exact s3.putAt
theorem s_popFX {α : Type} {vf : α → V} {en : α → PyData} {k1 k2 l1 l2 : Cs} {i j : Nat} {p : Addr} {xs ys : List α} {x : α} {ti : TE} {k : Int} {σ' : St} (hd : ∀ F x, Dt K F (vf x) (en x)) (s : Sta F (k1 ++ (p, .lst (xs.map vf)) :: k2) H) (hi : σ[i]? = some (some (.ref p)))
    (h2 : EvD K ti σ F (k1 ++ (p, .lst (xs.map vf)) :: k2) (.int k) (l1 ++ (p, .lst (xs.map vf)) :: l2)) (hm : popM xs k = some (x, ys)) (hσ : σ.set j (some (vf x)) = σ') (q : ∀ F2 H2, Gr F F2 → Sta F2 (l1 ++ (p, .lst (ys.map vf)) :: l2) H2 → nx σ' H2) : tAsg (tBM K "list" rPopAt (tVar i) (tCons ti tNil)) (gName j) ⟨nx, rt, bk, ct⟩ σ H := by
  obtain ⟨⟨a1, a2⟩, m, b1, b2, rfl⟩ := popM_some hm
  refine ⟨.ref p, hi, .inl ⟨rfl, _, .inl (.inl s.getAt)⟩, h2 F H .rfl s _ fun w F3 H3 g3 s3 hw => ⟨p, xs.map vf, k, m, vf x, rfl, by cases hw.toInt; rfl, s3.getAt, a1, a2, by rw [List.length_map]; exact b1, by rw [List.getElem?_map, b2]; rfl, ?_⟩⟩
  show nx (σ.set j (some (vf x))) _
  rw [hσ]
  refine q F3 _ g3 ?_
  have s4 := s3.putAt (o' := .lst ((xs.map vf).eraseIdx m))
  rw [er_map]
  exact s4
theorem s_remFX {k1 k2 l1 l2 : Cs} {i : Nat} {p : Addr} {xs ys : List Int} {ti : TE} {k : Int} (s : Sta F (k1 ++ (p, .lst (xs.map V.int)) :: k2) H) (hi : σ[i]? = some (some (.ref p)))
    (h2 : EvD K ti σ F (k1 ++ (p, .lst (xs.map V.int)) :: k2) (.int k) (l1 ++ (p, .lst (xs.map V.int)) :: l2)) (hm : remM xs k = some ys) (q : ∀ F2 H2, Gr F F2 → Sta F2 (l1 ++ (p, .lst (ys.map V.int)) :: l2) H2 → nx σ H2) : tDrop (tBM K "list" rRemI (tVar i) (tCons ti tNil)) ⟨nx, rt, bk, ct⟩ σ H := by
  unfold remM at hm; split at hm
  · rename_i hin
    cases hm
    obtain ⟨j, e1, e2, e3⟩ := rem_at hin
    refine ⟨.ref p, hi, .inl ⟨rfl, _, .inl (.inl s.getAt)⟩, h2 F H .rfl s _ fun w F3 H3 g3 s3 hw => ⟨p, xs, k, j, rfl, by cases hw.toInt; rfl, s3.getAt, e1, e2, q F3 _ g3 ?_⟩⟩
    rw [e3]
    exact s3.putAt
  · cases hm
/-! f-strings -/
def EvJ (K : PySem.W.Frag) (ts : List TE) (σ : St) (F : Hp) (cs : Cs) (acc out : Str) (cs' : Cs) : Prop :=
  ∀ F1 H1, Gr F F1 → Sta F1 cs H1 → ∀ Q : Str → Hp → Prop, (∀ F2 H2, Gr F1 F2 → Sta F2 cs' H2 → Q out H2) → tJs ts acc σ H1 Q
theorem j_nil {acc : Str} : EvJ K [] σ F cs acc acc cs := fun F1 H1 g s Q q => q F1 H1 .rfl s
theorem j_cons {acc x y out : Str} {ts : List TE} (h : EvD K te σ F cs (.str x) cs1) (hy : scatM acc x = some y) (h2 : EvJ K ts σ F cs1 y out cs2) : EvJ K (te :: ts) σ F cs acc out cs2 := fun F1 H1 g1 s Q q =>
  h F1 H1 g1 s _ fun v F2 H2 g2 s2 hv => by
    obtain ⟨hl, rfl⟩ := scatM_some hy
    refine ⟨x, hv.toStr, ?_, h2 F2 H2 (g1.tr g2) s2 Q fun F3 H3 g3 s3 => q F3 H3 (g2.tr g3) s3⟩
    rw [TL.len_tl, TL.tl_append, List.length_append, ← TL.len_tl, ← TL.len_tl]
    exact sz hl
theorem d_fstr {ts : List TE} {out : Str} (h : EvJ K ts σ F cs Str.empty out cs1) : EvD K (fun σ H Q => tJs ts Str.empty σ H fun out H1 => Q (.str out) H1) σ F cs (.str out) cs1 := fun F1 H1 g1 s Q q =>
  h F1 H1 g1 s _ fun F2 H2 g2 s2 => q _ F2 H2 g2 s2 (.str _)
theorem d_fmtS {x : Str} (h : EvD K te σ F cs (.str x) cs1) (hl : lenS x = some a) : EvD K (tFmt te) σ F cs (.str x) cs1 := fun F1 H1 g1 s Q q =>
  h F1 H1 g1 s _ fun v F2 H2 g2 s2 hv => .inl ⟨x, hv.toStr, sz (lenS_some hl).1, q _ F2 H2 g2 s2 (.str _)⟩
theorem d_fmtI {x : Str} (h : EvD K te σ F cs (.int a) cs1) (hn : strM a = some x) : EvD K (tFmt te) σ F cs (.str x) cs1 := fun F1 H1 g1 s Q q =>
  h F1 H1 g1 s _ fun v F2 H2 g2 s2 hv => by
    obtain ⟨h1, rfl⟩ := strM_some hn
    exact .inr ⟨a, hv.toInt, h1, q _ F2 H2 g2 s2 (.str _)⟩
end
end Bw
namespace Bw
open PySem L2
theorem get_list {X : Cx} : PGet X (rIxL X.K) := by
  intro pins s σ H x y v u Q I rx ry h
  obtain ⟨p, xs, i, z, rfl, rfl, hq, he, q⟩ := h
  cases rx
  obtain ⟨t, rfl⟩ := ry
  obtain ⟨its, r, pl, hz⟩ := I.list hq
  obtain ⟨j, h1, h2, h3, h4, h5⟩ := atI_get he
  obtain ⟨w, ew, rw'⟩ := r.get h2
  have hl := r.length
  have hn := line63
  have fin : EP X pins σ Q w s := ⟨z, H, I, rw', q⟩
  by_cases h0 : 0 ≤ i
  · have hj : i.toNat = j := by
      rw [seqIndex_of h0 h5] at h1
      exact Option.some.inj h1
    exact wpAny_getItem_list pl.isList h0 (by omega) (by rw [hj]; simpa using ew) fin
  · have hj : (i + (its.toArray.size : Int)).toNat = j := by
      rw [seqIndex_neg (by omega) h4] at h1
      rw [List.size_toArray, ← hl]
      exact Option.some.inj h1
    exact wpAny_getItem_list_neg pl.isList (by omega) (by rw [List.size_toArray] <;> omega) (by omega) (by rw [hj]; simpa using ew) fin
end Bw
namespace Bw
open PySem L2
section
variable {K : PySem.W.Frag} {σ : St} {F F' : Hp} {cs cs1 cs2 cs3 : Cs} {ta tb tc te : TE} {d e : PyData} {as : TA} {a b c : Int} {nx bk ct : St → Hp → Prop} {rt : VK} {H : Hp} {t u : TS}
/-! what keeps the state true: another order, fewer cells -/
def Sb (c c' : Cs) : Prop := ∀ F H, Sta F c H → Sta F c' H
theorem sb_rfl : Sb cs cs := fun _ _ s => s
theorem sb_perm (p : cs.Perm cs1) : Sb cs cs1 := fun _ _ s => s.perm p
theorem sb_drop {c : Addr × HO} : Sb (c :: cs) cs := fun F H s => ⟨s.fr, fun p hp => s.sep p (List.mem_cons_of_mem _ hp), fun p hp => s.has p (List.mem_cons_of_mem _ hp), by have := s.nd; rw [List.map_cons, List.nodup_cons] at this; exact this.2⟩
theorem Sb.tr (h : Sb cs cs1) (k : Sb cs1 cs2) : Sb cs cs2 := fun F H s => k F H (h F H s)
/-- a function that changes cells, and tells data -/
theorem d_callX {α β : Type} {A : α → List Ar} {B : β → PyData} {C : β → List (List V)} {f : α → Option β} {x : α} {y : β} {E : XK} {cc cs' : Cs} (h : EvR K as σ F cs (A x) cc cs1) (hp : Sb cs1 (cc ++ cs')) (hf : f x = some y) (hq : Sb (upC cc (C y) ++ cs') cs2) : EvD K (tCall (spC K A B C f) [] E as) σ F cs (B y) cs2 := fun F1 H1 g1 s Q q =>
  h F1 H1 g1 s _ fun vs F2 H2 g2 s2 h2 => ⟨F2, cc, cs', x, y, by rw [List.append_nil]; exact h2, hp _ _ s2, hf, fun v F3 H3 g3 s3 h3 => q v F3 H3 (g2.tr g3) (hq _ _ s3) h3⟩
/-- .. that tells a new list -/
def spF (K : PySem.W.Frag) {α β : Type} (A : α → List Ar) (B : β → List PyData) (C : β → List (List V)) (f : α → Option β) : Sp := fun vs H Q _ => ∃ F cc cs x y, ArgR K F vs (A x) cc ∧ Sta F (cc ++ cs) H ∧ f x = some y ∧ ∀ p us F2 H2, Gr F F2 → Sta F2 ((p, .lst us) :: (upC cc (C y) ++ cs)) H2 → Dts K F2 us (B y) → Q (.ref p) H2
theorem c_callX {α β : Type} {A : α → List Ar} {B : β → List PyData} {C : β → List (List V)} {f : α → Option β} {x : α} {y : β} {E : XK} {cc cs' : Cs} (h : EvR K as σ F cs (A x) cc cs1) (hp : Sb cs1 (cc ++ cs')) (hf : f x = some y) (hq : ∀ z, Sb (z :: (upC cc (C y) ++ cs')) (z :: cs2)) : EvC K (tCall (spF K A B C f) [] E as) σ F cs (B y) cs2 := fun F1 H1 g1 s Q q =>
  h F1 H1 g1 s _ fun vs F2 H2 g2 s2 h2 => ⟨F2, cc, cs', x, y, by rw [List.append_nil]; exact h2, hp _ _ s2, hf, fun p us F3 H3 g3 s3 h3 => q p us F3 H3 (g2.tr g3) (hq _ _ _ s3) h3⟩
/-- an argument that is a new list of flat things -/
theorem r_n {xs : List Ar} {cc : Cs} {ds : List PyData} {us : List V} (h : EvC K te σ F cs ds cs1) (hu : ∀ F vs, Dts K F vs ds → vs = us) (h2 : ∀ p, EvR K as σ F ((p, .lst us) :: cs1) xs cc cs2) : True := trivial
theorem s_retC {ds : List PyData} (s : Sta F cs H) (h : EvC K te σ F cs ds cs1) (q : ∀ p us F2 H2, Gr F F2 → Sta F2 ((p, .lst us) :: cs1) H2 → Dts K F2 us ds → rt (.ref p) H2) : tRet te ⟨nx, rt, bk, ct⟩ σ H := h F H .rfl s _ q
theorem s_retV {i : Nat} {v : V} (hi : σ[i]? = some (some v)) (q : rt v H) : tRet (tVar i) ⟨nx, rt, bk, ct⟩ σ H := ⟨v, hi, q⟩
def fuel : Nat := 100000000
end
end Bw
namespace Bw
open PySem L2
section
variable {K : PySem.W.Frag} {σ : St} {F F' : Hp} {cs cs1 cs2 cs3 : Cs} {ta tb tc te : TE} {d e : PyData} {as : TA}
/-- the first argument is a new list of flat things, which nobody keeps -/
theorem d_callN {α β : Type} {A : α → List Ar} {B : β → PyData} {C : β → List (List V)} {f : α → Option β} {x : α} {y : β} {E : XK} {cc cs' : Cs} {ds : List PyData} {us : List V} {xs : List Ar} (h : EvC K te σ F cs ds cs1) (hu : ∀ F vs, Dts K F vs ds → vs = us) (hA : A x = .c us :: xs) (h2 : ∀ p, EvR K as σ F ((p, .lst us) :: cs1) xs cc ((p, .lst us) :: cs2))
    (hp : ∀ p, Sb ((p, .lst us) :: cs2) ((p, .lst us) :: cc ++ cs')) (hf : f x = some y) (hq : ∀ p, Sb (upC ((p, .lst us) :: cc) (C y) ++ cs') cs3) : EvD K (tCall (spC K A B C f) [] E (tCons te as)) σ F cs (B y) cs3 := fun F1 H1 g1 s Q q =>
  h F1 H1 g1 s _ fun p vs F2 H2 g2 s2 hv => by
    cases hu F2 vs hv
    refine h2 p F2 H2 (g1.tr g2) s2 _ fun ws F3 H3 g3 s3 h3 => ⟨F3, (p, .lst us) :: cc, cs', x, y, by rw [List.append_nil, hA]; exact .c h3, hp p _ _ s3, hf, fun v F4 H4 g4 s4 h4 => q v F4 H4 ((g2.tr g3).tr g4) (hq p _ _ s4) h4⟩
theorem c_callN {α β : Type} {A : α → List Ar} {B : β → List PyData} {C : β → List (List V)} {f : α → Option β} {x : α} {y : β} {E : XK} {cc cs' : Cs} {ds : List PyData} {us : List V} {xs : List Ar} (h : EvC K te σ F cs ds cs1) (hu : ∀ F vs, Dts K F vs ds → vs = us) (hA : A x = .c us :: xs) (h2 : ∀ p, EvR K as σ F ((p, .lst us) :: cs1) xs cc ((p, .lst us) :: cs2))
    (hp : ∀ p, Sb ((p, .lst us) :: cs2) ((p, .lst us) :: cc ++ cs')) (hf : f x = some y) (hq : ∀ p z, Sb (z :: (upC ((p, .lst us) :: cc) (C y) ++ cs')) (z :: cs3)) : EvC K (tCall (spF K A B C f) [] E (tCons te as)) σ F cs (B y) cs3 := fun F1 H1 g1 s Q q =>
  h F1 H1 g1 s _ fun p vs F2 H2 g2 s2 hv => by
    cases hu F2 vs hv
    refine h2 p F2 H2 (g1.tr g2) s2 _ fun ws F3 H3 g3 s3 h3 => ⟨F3, (p, .lst us) :: cc, cs', x, y, by rw [List.append_nil, hA]; exact .c h3, hp p _ _ s3, hf, fun p' us' F4 H4 g4 s4 h4 => q p' us' F4 H4 ((g2.tr g3).tr g4) (hq p _ _ _ s4) h4⟩
end
end Bw

namespace Bw
open PySem L2
section
variable {K : PySem.W.Frag} {σ : St} {F F' : Hp} {cs cs1 cs2 cs3 : Cs} {ta tb tc te : TE} {d e : PyData} {as : TA} {a b c : Int} {nx bk ct : St → Hp → Prop} {rt : VK} {H : Hp} {t u : TS}
/-- a cell lent for a new list of flat things -/
theorem c_lendX {l1 l2 m1 m2 : Cs} {p : Addr} {o : HO} {ds : List PyData} {ws : List V} (hw : ∀ F vs, Dts K F vs ds → vs = ws) (hd : ∀ F, Dts K F ws ds) (h : ∀ F1, Gr F F1 → F1 p = none → EvC K te σ (upd F1 p o) (l1 ++ l2) ds (m1 ++ m2)) : EvC K te σ F (l1 ++ (p, o) :: l2) ds (m1 ++ (p, o) :: m2) := fun F1 H1 g1 s Q q => by
  refine h F1 g1 s.freeAt (upd F1 p o) H1 .rfl s.frozeAt Q fun p' vs F2 H2 g2 s2 h2 => ?_
  cases hw F2 vs h2
  exact q p' ws (cut F2 p) H2 (gr_cut s.freeAt g2) (Sta.lent (l1 := (p', .lst ws) :: m1) g2 s2) (hd _)
/-- xs.count(k) -/
theorem d_cntI {xs : List Int} (ha : EvD K ta σ F cs (eL eI xs) cs1) (hb : EvD K tb σ F cs1 (.int b) cs2) : EvD K (tBM K "list" (rCntI K) ta (tCons tb tNil)) σ F cs (.int ((xs.count b : Nat) : Int)) cs2 := fun F1 H1 g1 s Q q =>
  ha F1 H1 g1 s _ fun v F2 H2 g2 s2 h2 => by
    obtain ⟨p, vs, rfl, hl, hd⟩ := h2.toLst
    cases hd.ints
    exact ⟨.inl ⟨rfl, _, gr_L s2.fr hl⟩, hb F2 H2 (g1.tr g2) s2 _ fun w F3 H3 g3 s3 h3 => ⟨p, xs, b, rfl, by rw [h3.toInt], gr_L s3.fr (gr_L g3 hl), q _ F3 H3 (g2.tr g3) s3 (.int _)⟩⟩
/-- y.extend(new list) -/
theorem s_ext {k1 k2 l1 l2 : Cs} {i : Nat} {p : Addr} {vs : List V} {ds : List PyData} (s : Sta F (k1 ++ (p, .lst vs) :: k2) H) (hi : σ[i]? = some (some (.ref p))) (h : EvC K te σ F (k1 ++ (p, .lst vs) :: k2) ds (l1 ++ (p, .lst vs) :: l2)) (hl : vs.length + ds.length ≤ 100000)
    (q : ∀ us F2 H2, Gr F F2 → Sta F2 (l1 ++ (p, .lst (vs ++ us)) :: l2) H2 → Dts K F2 us ds → nx σ H2) : tDrop (tBM K "list" rExtend (tVar i) (tCons te tNil)) ⟨nx, rt, bk, ct⟩ σ H :=
  ⟨.ref p, hi, .inl ⟨rfl, _, .inl (.inl s.getAt)⟩, h F H .rfl s _ fun b us F2 H2 g2 s2 h2 => ⟨p, b, vs, us, rfl, rfl, Sta.getAt (l1 := (b, .lst us) :: l1) s2, s2.at List.mem_cons_self, by rw [h2.len]; exact sz hl, q us _ _ (g2.tr s2.gfr) s2.froze.putAt (h2.gr s2.gfr)⟩⟩
theorem s_extFX {α : Type} {vf : α → V} {en : α → PyData} {k1 k2 l1 l2 : Cs} {i : Nat} {p : Addr} {xs ys zs : List α} (hw : ∀ F vs (ys : List α), Dts K F vs (ys.map en) → vs = ys.map vf) (s : Sta F (k1 ++ (p, .lst (xs.map vf)) :: k2) H) (hi : σ[i]? = some (some (.ref p))) (h : EvC K te σ F (k1 ++ (p, .lst (xs.map vf)) :: k2) (ys.map en) (l1 ++ (p, .lst (xs.map vf)) :: l2)) (hm : catM xs ys = some zs)
    (q : ∀ F2 H2, Gr F F2 → Sta F2 (l1 ++ (p, .lst (zs.map vf)) :: l2) H2 → nx σ H2) : tDrop (tBM K "list" rExtend (tVar i) (tCons te tNil)) ⟨nx, rt, bk, ct⟩ σ H := by
  obtain ⟨hl, rfl⟩ := catM_some hm
  refine s_ext s hi h (by rw [List.length_map, List.length_map]; exact hl) fun us F2 H2 g2 s2 h2 => q F2 H2 g2 ?_
  cases hw F2 us ys h2
  rw [List.map_append]; exact s2
theorem s_extGX {α : Type} {en : α → PyData} {k1 k2 l1 l2 : Cs} {i : Nat} {p : Addr} {vs : List V} {xs ys zs : List α} (s : Sta F (k1 ++ (p, .lst vs) :: k2) H) (hf : Dts K F vs (xs.map en)) (hi : σ[i]? = some (some (.ref p))) (h : EvC K te σ F (k1 ++ (p, .lst vs) :: k2) (ys.map en) (l1 ++ (p, .lst vs) :: l2)) (hm : catM xs ys = some zs)
    (q : ∀ us F2 H2, Gr F F2 → Sta F2 (l1 ++ (p, .lst us) :: l2) H2 → Dts K F2 us (zs.map en) → nx σ H2) : tDrop (tBM K "list" rExtend (tVar i) (tCons te tNil)) ⟨nx, rt, bk, ct⟩ σ H := by
  obtain ⟨hl, rfl⟩ := catM_some hm
  refine s_ext s hi h (by rw [hf.len, List.length_map, List.length_map]; exact hl) fun us F2 H2 g2 s2 h2 => q _ F2 H2 g2 s2 ?_
  rw [List.map_append]; exact (hf.gr g2).app h2
/-- y.clear() -/
theorem s_clr {l1 l2 : Cs} {i : Nat} {p : Addr} {vs : List V} (s : Sta F (l1 ++ (p, .lst vs) :: l2) H) (hi : σ[i]? = some (some (.ref p))) (q : Sta F (l1 ++ (p, .lst []) :: l2) (upd H p (.lst [])) → nx σ (upd H p (.lst []))) : tDrop (tBM0 K "list" rClear (tVar i)) ⟨nx, rt, bk, ct⟩ σ H :=
  ⟨.ref p, hi, .inl ⟨rfl, _, .inl (.inl s.getAt)⟩, p, vs, rfl, rfl, s.getAt, q s.putAt⟩
end
end Bw

namespace Bw
open PySem L2
/-! things of any kind: casts -/
def Ck {α : Type} (e : α → PyData) (c : PyData → Option α) : Prop := ∀ d x, c d = some x → d = e x
def asI : PyData → Option Int
  | .int i => some i
  | _ => none
def asB : PyData → Option Bool
  | .bool b => some b
  | _ => none
def asS : PyData → Option Str
  | .str x => some x
  | _ => none
def asN : PyData → Option Unit
  | .none => some ()
  | _ => none
def asAll {α : Type} (c : PyData → Option α) : List PyData → Option (List α)
  | [] => some []
  | d :: ds => (c d).bind fun x => (asAll c ds).bind fun xs => some (x :: xs)
def asL {α : Type} (c : PyData → Option α) : PyData → Option (List α)
  | .list ds => asAll c ds
  | _ => none
def asD (d : PyData) : Option PyData := some d
def asLD : PyData → Option (List PyData)
  | .list ds => some ds
  | _ => none
def asTD : PyData → Option (List PyData)
  | .tuple ds => some ds
  | _ => none
def asT2 {α β : Type} (c : PyData → Option α) (c' : PyData → Option β) : PyData → Option (α × β)
  | .tuple [a, b] => (c a).bind fun x => (c' b).bind fun y => some (x, y)
  | _ => none
def asT3 {α β γ : Type} (c : PyData → Option α) (c' : PyData → Option β) (c'' : PyData → Option γ) : PyData → Option (α × β × γ)
  | .tuple [a, b, d] => (c a).bind fun x => (c' b).bind fun y => (c'' d).bind fun z => some (x, y, z)
  | _ => none
def asT4 {α β γ δ : Type} (c : PyData → Option α) (c' : PyData → Option β) (c'' : PyData → Option γ) (c3 : PyData → Option δ) : PyData → Option (α × β × γ × δ)
  | .tuple [a, b, d, e] => (c a).bind fun x => (c' b).bind fun y => (c'' d).bind fun z => (c3 e).bind fun w => some (x, y, z, w)
  | _ => none
def asO {α : Type} (c : PyData → Option α) : PyData → Option (Option α)
  | .none => some none
  | d => (c d).bind fun x => some (some x)
theorem ck_D : Ck eD asD := fun d x h => by cases h; rfl
theorem ck_I : Ck eI asI := fun d x h => by cases d <;> first | (cases h; rfl) | cases h
theorem ck_B : Ck eB asB := fun d x h => by cases d <;> first | (cases h; rfl) | cases h
theorem ck_S : Ck eS asS := fun d x h => by cases d <;> first | (cases h; rfl) | cases h
theorem ck_N : Ck eN asN := fun d x h => by cases d <;> first | (cases h; rfl) | cases h
theorem ck_all {α : Type} {e : α → PyData} {c : PyData → Option α} (k : Ck e c) : ∀ {ds : List PyData} {xs : List α}, asAll c ds = some xs → ds = xs.map e
  | [], xs, h => by cases h; rfl
  | d :: ds, xs, h => by
    obtain ⟨x, h1, h⟩ := bnd h
    obtain ⟨ys, h2, h⟩ := bnd h
    cases h
    rw [k d x h1, ck_all k h2]; rfl
theorem ck_L {α : Type} {e : α → PyData} {c : PyData → Option α} (k : Ck e c) : Ck (eL e) (asL c) := fun d x h => by
  cases d with
  | list ds => exact congrArg PyData.list (ck_all k (show asAll c ds = some x from h))
  | _ => cases h
theorem ck_LD : Ck (eL eD) asLD := fun d x h => by
  cases d with
  | list ds =>
    cases h
    exact congrArg PyData.list (List.map_id' x).symm
  | _ => cases h
theorem ck_TD {d : PyData} {x : List PyData} (h : asTD d = some x) : d = .tuple x := by
  cases d with
  | tuple ds => cases h; rfl
  | _ => cases h
theorem ck_T2 {α β : Type} {e : α → PyData} {c : PyData → Option α} {e' : β → PyData} {c' : PyData → Option β} (k : Ck e c) (k' : Ck e' c') : Ck (eT2 e e') (asT2 c c') := fun d x h => by
  unfold asT2 at h
  split at h
  · obtain ⟨y, h1, h⟩ := bnd h
    obtain ⟨z, h2, h⟩ := bnd h
    cases h
    rw [k _ _ h1, k' _ _ h2]
  · cases h
theorem ck_T3 {α β γ : Type} {e : α → PyData} {c : PyData → Option α} {e' : β → PyData} {c' : PyData → Option β} {e2 : γ → PyData} {c2 : PyData → Option γ} (k : Ck e c) (k' : Ck e' c') (k2 : Ck e2 c2) : Ck (eT3 e e' e2) (asT3 c c' c2) := fun d x h => by
  unfold asT3 at h
  split at h
  · obtain ⟨y, h1, h⟩ := bnd h
    obtain ⟨z, h2, h⟩ := bnd h
    obtain ⟨z', h3, h⟩ := bnd h
    cases h
    rw [k _ _ h1, k' _ _ h2, k2 _ _ h3]
  · cases h
theorem ck_T4 {α β γ δ : Type} {e : α → PyData} {c : PyData → Option α} {e' : β → PyData} {c' : PyData → Option β} {e2 : γ → PyData} {c2 : PyData → Option γ} {e3 : δ → PyData} {c3 : PyData → Option δ} (k : Ck e c) (k' : Ck e' c') (k2 : Ck e2 c2) (k3 : Ck e3 c3) : Ck (eT4 e e' e2 e3) (asT4 c c' c2 c3) := fun d x h => by
  unfold asT4 at h
  split at h
  · obtain ⟨y, h1, h⟩ := bnd h
    obtain ⟨z, h2, h⟩ := bnd h
    obtain ⟨z', h3, h⟩ := bnd h
    obtain ⟨z2, h4, h⟩ := bnd h
    cases h
    rw [k _ _ h1, k' _ _ h2, k2 _ _ h3, k3 _ _ h4]
  · cases h
theorem ck_O {α : Type} {e : α → PyData} {c : PyData → Option α} (k : Ck e c) : Ck (eO e) (asO c) := fun d x h => by
  unfold asO at h
  split at h
  · cases h; rfl
  · obtain ⟨y, h1, h⟩ := bnd h
    cases h
    exact k _ _ h1
/-! .. and the other way -/
def Cv {α β : Type} (e : α → PyData) (e' : β → PyData) (g : α → β) : Prop := ∀ x, e x = e' (g x)
theorem cv_id {α : Type} {e : α → PyData} : Cv e e (fun x => x) := fun _ => rfl
theorem cv_D {α : Type} {e : α → PyData} : Cv e eD e := fun _ => rfl
theorem cv_some {α β : Type} {e : α → PyData} {e' : β → PyData} {g : α → β} (h : Cv e e' g) : Cv e (eO e') (fun x => some (g x)) := fun x => h x
theorem cv_none {β : Type} {e' : β → PyData} : Cv eN (eO e') (fun _ => (none : Option β)) := fun _ => rfl
theorem cv_O {α β : Type} {e : α → PyData} {e' : β → PyData} {g : α → β} (h : Cv e e' g) : Cv (eO e) (eO e') (fun x => x.map g) := fun x => by cases x with
  | none => rfl
  | some y => exact h y
theorem cv_OD {α : Type} {e : α → PyData} : Cv (eO e) eD (eO e) := fun _ => rfl
theorem cv_L {α β : Type} {e : α → PyData} {e' : β → PyData} {g : α → β} (h : Cv e e' g) : Cv (eL e) (eL e') (fun xs => xs.map g) := fun xs => by
  show PyData.list _ = PyData.list _
  rw [List.map_map]
  exact congrArg PyData.list (List.map_congr_left fun x _ => h x)
theorem cv_T2 {α α' β β' : Type} {e : α → PyData} {e' : α' → PyData} {g : α → α'} {f : β → PyData} {f' : β' → PyData} {k : β → β'} (h : Cv e e' g) (h' : Cv f f' k) : Cv (eT2 e f) (eT2 e' f') (fun x => (g x.1, k x.2)) := fun x => by
  show PyData.tuple _ = PyData.tuple _
  rw [h, h']
theorem cv_T3 {α α' β β' γ γ' : Type} {e : α → PyData} {e' : α' → PyData} {g : α → α'} {f : β → PyData} {f' : β' → PyData} {k : β → β'} {i : γ → PyData} {i' : γ' → PyData} {m : γ → γ'} (h : Cv e e' g) (h' : Cv f f' k) (h2 : Cv i i' m) : Cv (eT3 e f i) (eT3 e' f' i') (fun x => (g x.1, k x.2.1, m x.2.2)) := fun x => by
  show PyData.tuple _ = PyData.tuple _
  rw [h, h', h2]
theorem cv_T4 {α α' β β' γ γ' δ δ' : Type} {e : α → PyData} {e' : α' → PyData} {g : α → α'} {f : β → PyData} {f' : β' → PyData} {k : β → β'} {i : γ → PyData} {i' : γ' → PyData} {m : γ → γ'} {u : δ → PyData} {u' : δ' → PyData} {w : δ → δ'} (h : Cv e e' g) (h' : Cv f f' k) (h2 : Cv i i' m) (h3 : Cv u u' w) : Cv (eT4 e f i u) (eT4 e' f' i' u') (fun x => (g x.1, k x.2.1, m x.2.2.1, w x.2.2.2)) := fun x => by
  show PyData.tuple _ = PyData.tuple _
  rw [h, h', h2, h3]
/-! what is asked of things of any kind -/
def ixD : PyData → Int → Option PyData
  | .list ds, i => atI ds i
  | .tuple ds, i => atI ds i
  | .str x, i => (ixS x i).map PyData.str
  | _, _ => none
def lenD : PyData → Option Int
  | .list ds => some ds.length
  | .tuple ds => some ds.length
  | .str x => lenS x
  | _ => none
abbrev rLenG (K : PySem.W.Frag) : List V → Hp → VK → Prop := fun xs H Q => ∃ x n, xs = [x] ∧ LenV K x H n ∧ Q (.int n) H
theorem cr_lenG {X : Cx} : CallR X (.builtin "len") (rLenG X.K) := call_len
section
variable {K : PySem.W.Frag} {σ : St} {F F' : Hp} {cs cs1 cs2 cs3 : Cs} {ta tb tc te : TE} {d e : PyData} {as : TA} {a b c : Int}
theorem d_ixD {z : PyData} (ha : EvD K ta σ F cs d cs1) (hb : EvD K tb σ F cs1 (.int b) cs2) (hz : ixD d b = some z) : EvD K (tOp (rIx K) ta tb) σ F cs z cs2 := by
  intro F1 H1 g1 s Q q
  refine ha F1 H1 g1 s _ fun v F2 H2 g2 s2 h2 => hb F2 H2 (g1.tr g2) s2 _ fun w F3 H3 g3 s3 h3 => ?_
  cases d with
  | list ds =>
    refine .inl ?_
    have k := d_ixLs (K := K) (σ := [some v, some w]) (F := F3) (cs := cs2) (ta := tVar 0) (tb := tVar 1) (d_var rfl (h2.gr g3)) (d_var rfl h3) hz F3 H3 .rfl s3 Q fun v F4 H4 g4 s4 h4 => q v F4 H4 (g2.tr (g3.tr g4)) s4 h4
    obtain ⟨v', e', w', e'', k⟩ := k
    cases e'; cases e''; exact k
  | tuple ds =>
    refine .inr (.inl ?_)
    have k := d_ixT (K := K) (σ := [some v, some w]) (F := F3) (cs := cs2) (ta := tVar 0) (tb := tVar 1) (d_var rfl (h2.gr g3)) (d_var rfl h3) hz F3 H3 .rfl s3 Q fun v F4 H4 g4 s4 h4 => q v F4 H4 (g2.tr (g3.tr g4)) s4 h4
    obtain ⟨v', e', w', e'', k⟩ := k
    cases e'; cases e''; exact k
  | str x =>
    have hz : (ixS x b).map PyData.str = some z := hz
    cases hx : ixS x b with
    | none => rw [hx] at hz; cases hz
    | some y =>
      rw [hx] at hz; cases hz
      refine .inr (.inr ?_)
      have k := d_ixS (K := K) (σ := [some v, some w]) (F := F3) (cs := cs2) (ta := tVar 0) (tb := tVar 1) (d_var rfl (h2.gr g3)) (d_var rfl h3) hx F3 H3 .rfl s3 Q fun v F4 H4 g4 s4 h4 => q v F4 H4 (g2.tr (g3.tr g4)) s4 h4
      obtain ⟨v', e', w', e'', k⟩ := k
      cases e'; cases e''; exact k
  | none => cases hz
  | bool _ => cases hz
  | int _ => cases hz
  | dict _ => cases hz
theorem d_lenD {n : Int} (ha : EvDs K as σ F cs [d] cs1) (hn : lenD d = some n) : EvD K (tCB (rLenG K) as) σ F cs (.int n) cs1 := d_cb ha fun vs F2 H2 h s Q q => by
  obtain ⟨v, rfl, k1⟩ := h.one
  cases d with
  | list ds =>
    obtain ⟨p, ys, rfl, hl, hd⟩ := k1.toLst
    cases hn
    exact ⟨_, ys.length, rfl, .inl ⟨ys, gr_L s.fr hl, rfl⟩, q _ F2 H2 .rfl s (by rw [hd.len]; exact .int _)⟩
  | tuple ds =>
    obtain ⟨p, ys, rfl, hl, hd⟩ := k1.toTup
    cases hn
    exact ⟨_, ys.length, rfl, .inr ⟨ys, gr_T s.fr hl, rfl⟩, q _ F2 H2 .rfl s (by rw [hd.len]; exact .int _)⟩
  | str x =>
    cases k1.toStr
    obtain ⟨h1, rfl⟩ := lenS_some hn
    exact ⟨_, x.length, rfl, ⟨sz h1, rfl⟩, q _ F2 H2 .rfl s (.int _)⟩
  | none => cases hn
  | bool _ => cases hn
  | int _ => cases hn
  | dict _ => cases hn
/-- is True, is False -/
def isBlD (b : Bool) : PyData → Bool
  | .bool c => decide (c = b)
  | _ => false
/-- a walk over a tuple -/
theorem src_tup {p : Addr} {vs : List V} {ds : List PyData} (h : SqT K F p vs) (hd : Dts K F vs ds) : Src K (Itt K p) F ds := fun F1 c1 H1 g s => by
  have q : SqT K H1 p vs := gr_T s.fr (gr_T g h)
  refine ⟨fun i hi => ?_, ⟨vs, q, by rw [hd.len]; exact Nat.le_refl _⟩, fun i v H2 d e y => ?_⟩
  · have hi' : i < vs.length := by rw [hd.len]; exact hi
    exact ⟨vs, vs[i], q, List.getElem?_eq_getElem hi'⟩
  · obtain ⟨rfl, y⟩ := y
    obtain ⟨d', e', h'⟩ := hd.get (y vs q)
    rw [e] at e'; cases e'
    exact ⟨F1, .rfl, s, h'.gr g⟩
theorem i_tup {ds : List PyData} (h : EvD K te σ F cs (.tuple ds) cs1) : EvI K (iTup K te) σ F cs ds cs1 := fun F1 H1 g1 s R q =>
  h F1 H1 g1 s _ fun v F2 H2 g2 s2 h2 => by
    obtain ⟨p, vs, rfl, hs, hd⟩ := h2.toTup
    exact ⟨p, rfl, ⟨vs, gr_T s2.fr hs⟩, q _ F2 H2 g2 s2 (src_tup hs hd)⟩
/-- xs[::-1] -/
theorem c_rev {α : Type} {en : α → PyData} {xs : List α} (h : EvD K te σ F cs (eL en xs) cs1) : EvC K (tRevL K te) σ F cs (xs.reverse.map en) cs1 := fun F1 H1 g1 s Q q =>
  h F1 H1 g1 s _ fun v F2 H2 g2 s2 hv => by
    obtain ⟨p, vs, rfl, hl, hd⟩ := hv.toLst
    refine ⟨p, vs, rfl, gr_L s2.fr hl, fun l nl => q _ _ _ _ g2 (s2.cell nl) ?_⟩
    have : ∀ {us : List V} {ds : List PyData}, Dts K F2 us ds → Dts K F2 us.reverse ds.reverse := by
      intro us ds h
      induction us generalizing ds with
      | nil => cases h; exact .nil
      | cons u us ih => cases h with | cons a b => rw [List.reverse_cons, List.reverse_cons]; exact (ih b).app (.cons a .nil)
    rw [List.map_reverse]
    exact this hd
/-- slices of a tuple -/
theorem d_slT {ds : List PyData} {tl th : TO} {lo hi : Option Int} (h : EvD K te σ F cs (.tuple ds) cs1) (h1 : EvO tl σ F cs1 lo cs2) (h2 : EvO th σ F cs2 hi cs3) : EvD K (tSl (rSlA K) te tl th) σ F cs (.tuple (cutL ds lo hi)) cs3 := fun F1 H1 g1 s Q q =>
  h F1 H1 g1 s _ fun v F2 H2 g2 s2 hv => h1 F2 H2 (g1.tr g2) s2 _ fun F3 H3 g3 s3 => h2 F3 H3 ((g1.tr g2).tr g3) s3 _ fun F4 H4 g4 s4 => by
    obtain ⟨p, vs, rfl, hl, hd⟩ := hv.toTup
    have hd' := hd.gr (g3.tr g4)
    refine ⟨p, vs, rfl, gr_T s4.fr (gr_T (g3.tr g4) hl), fun hw => q _ F4 H4 (g2.tr (g3.tr g4)) s4 ?_, fun _ l nl => q _ _ _ ((g2.tr (g3.tr g4)).tr (Gr.new (s4.fr.back nl))) (s4.lay nl) (.tup (.inl (.inl upd_same)) ?_)⟩
    · have e : cutL ds lo hi = ds := by
        unfold cutL
        rw [← hd.len, hw.1, hw.2, List.drop_zero, Nat.sub_zero, hd.len, List.take_length]
      rw [e]
      exact .tup (gr_T (g3.tr g4) hl) hd'
    · unfold cutV cutL
      rw [hd.len]
      exact ((hd'.gr (Gr.new (s4.fr.back nl))).drop _).take _
end
end Bw

namespace Bw
open PySem L2
abbrev eT0 : Unit → PyData := fun _ => .tuple []
/-! is True, is False, is None of anything -/
def rIsBl : R2 := fun x y H Q => ∃ b, y = .bl b ∧ Q (.bl (decide (x = .bl b))) H
def rNisBl : R2 := fun x y H Q => ∃ b, y = .bl b ∧ Q (.bl (!decide (x = .bl b))) H
theorem relV_bool {x : V} {v : Value} {b : Bool} (r : RelV x v) : plainIs v (.bool b) = true ∧ (v == Value.bool b) = decide (x = .bl b) := by
  cases x with
  | bl c =>
    cases (show v = Value.bool c from r)
    refine ⟨rfl, ?_⟩
    by_cases h : c = b
    · subst h; simp
    · rw [decide_eq_false (fun z => h (V.bl.inj z))]
      exact beq_eq_false_iff_ne.mpr fun z => h (Value.bool.inj z)
  | non => cases (show v = Value.none from r); exact ⟨rfl, rfl⟩
  | ref a => cases (show v = Value.ref a from r); exact ⟨rfl, rfl⟩
  | ty n => cases (show v = Value.type n from r); exact ⟨rfl, rfl⟩
  | int i => obtain ⟨t, rfl⟩ := r; exact ⟨rfl, rfl⟩
  | str i => obtain ⟨t, rfl⟩ := r; exact ⟨rfl, rfl⟩
  | byt i => obtain ⟨t, rfl⟩ := r; exact ⟨rfl, rfl⟩
  | flt i => obtain ⟨t, rfl⟩ := r; exact ⟨rfl, rfl⟩
theorem op_isB {X : Cx} : OpR X (compareOp .Is) rIsBl := by
  intro pins s σ H x y v u Q I rx ry h
  obtain ⟨b, rfl, q⟩ := h
  cases (show u = Value.bool b from ry)
  obtain ⟨h1, h2⟩ := relV_bool (b := b) rx
  exact wpAny_is_plain h1 ⟨.bl _, H, I, by rw [h2]; rfl, q⟩
theorem op_nisB {X : Cx} : OpR X (compareOp .IsNot) rNisBl := by
  intro pins s σ H x y v u Q I rx ry h
  obtain ⟨b, rfl, q⟩ := h
  cases (show u = Value.bool b from ry)
  obtain ⟨h1, h2⟩ := relV_bool (b := b) rx
  exact wpAny_isNot_plain h1 ⟨.bl _, H, I, by rw [h2]; rfl, q⟩
def isNoD : PyData → Bool
  | .none => true
  | _ => false
section
variable {K : PySem.W.Frag} {σ : St} {F F' : Hp} {cs cs1 cs2 cs3 : Cs} {ta tb tc te : TE} {d e : PyData} {as : TA} {a b c : Int}
theorem Dt.noD {v : V} (h : Dt K F v d) : decide (v = V.non) = isNoD d := by cases h <;> rfl
theorem Dt.blD {v : V} {b : Bool} (h : Dt K F v d) : decide (v = V.bl b) = isBlD b d := by
  cases h with
  | bl c =>
    show decide (V.bl c = V.bl b) = decide (c = b)
    by_cases q : c = b
    · subst q; simp
    · rw [decide_eq_false q, decide_eq_false (fun z => q (V.bl.inj z))]
  | _ => rfl
theorem d_isD (ha : EvD K ta σ F cs d cs1) : EvD K (tOp rIsN ta (tC .non)) σ F cs (.bool (isNoD d)) cs1 := fun F1 H1 g1 s Q q =>
  ha F1 H1 g1 s _ fun v F2 H2 g2 s2 h2 => ⟨rfl, q _ F2 H2 g2 s2 (by rw [h2.noD]; exact .bl _)⟩
theorem d_nisD (ha : EvD K ta σ F cs d cs1) : EvD K (tOp rNotN ta (tC .non)) σ F cs (.bool (!isNoD d)) cs1 := fun F1 H1 g1 s Q q =>
  ha F1 H1 g1 s _ fun v F2 H2 g2 s2 h2 => ⟨rfl, q _ F2 H2 g2 s2 (by rw [h2.noD]; exact .bl _)⟩
theorem d_isBl {b : Bool} (ha : EvD K ta σ F cs d cs1) : EvD K (tOp rIsBl ta (tC (.bl b))) σ F cs (.bool (isBlD b d)) cs1 := fun F1 H1 g1 s Q q =>
  ha F1 H1 g1 s _ fun v F2 H2 g2 s2 h2 => ⟨b, rfl, q _ F2 H2 g2 s2 (by rw [h2.blD]; exact .bl _)⟩
theorem d_nisBl {b : Bool} (ha : EvD K ta σ F cs d cs1) : EvD K (tOp rNisBl ta (tC (.bl b))) σ F cs (.bool (!isBlD b d)) cs1 := fun F1 H1 g1 s Q q =>
  ha F1 H1 g1 s _ fun v F2 H2 g2 s2 h2 => ⟨b, rfl, q _ F2 H2 g2 s2 (by rw [h2.blD]; exact .bl _)⟩
/-! a dict of which nothing is asked but its kind -/
theorem d_dict0 : EvD K tDNewK σ F cs (.dict []) cs := fun F1 H1 g1 s Q q => fun p hp => q _ _ _ (Gr.new (s.fr.back hp)) (s.lay hp) (.dct upd_same)
/-- {k: v}, both written, a text for a key -/
theorem d_dict1 {x : Str} {w : V} : EvD K (tDisp [(tC (.str x), tC w)]) σ F cs (.dict []) cs := fun F1 H1 g1 s Q q => fun p hp => by
  refine ⟨upd_same, [(Sum.inr x, w)], rfl, by show 1 ≤ 15; decide, ?_⟩
  rw [upd_upd]
  exact q _ _ _ (Gr.new (s.fr.back hp)) (s.lay hp) (.dct upd_same)
/-! formats -/
def fmtD : PyData → Option Str
  | .int i => strM i
  | .str x => (lenS x).bind fun _ => some x
  | _ => none
theorem d_fmtD {x : Str} (h : EvD K te σ F cs d cs1) (hn : fmtD d = some x) : EvD K (tFmt te) σ F cs (.str x) cs1 := by
  cases d with
  | int i => exact d_fmtI h hn
  | str y =>
    obtain ⟨n, h1, h2⟩ := bnd (show (lenS y).bind (fun _ => some y) = some x from hn)
    cases h2
    exact d_fmtS h h1
  | none => cases hn
  | bool _ => cases hn
  | list _ => cases hn
  | tuple _ => cases hn
  | dict _ => cases hn
end
end Bw

namespace Bw
open PySem L2
/-! i in range(lo, hi) -/
def rInRng : R2 := fun x y H Q => ∃ i a lo hi, x = V.int i ∧ y = V.ref a ∧ H a = some (.rng lo hi) ∧ Q (.bl (decide (lo ≤ i ∧ i < hi))) H
def rNinRng : R2 := fun x y H Q => ∃ i a lo hi, x = V.int i ∧ y = V.ref a ∧ H a = some (.rng lo hi) ∧ Q (.bl (!decide (lo ≤ i ∧ i < hi))) H
abbrev rRange2 : List V → Hp → VK → Prop := fun vs H Q => ∃ i j, vs = [V.int i, V.int j] ∧ ∀ p, H p = none → Q (.ref p) (upd H p (.rng i j))
theorem op_inRng {X : Cx} : OpR X (compareOp .In) rInRng := op_in_rng
theorem op_ninRng {X : Cx} : OpR X (compareOp .NotIn) rNinRng := by
  intro pins s σ H x y v u Q I rx ry h
  obtain ⟨i, a, lo, hi, rfl, rfl, ha, q⟩ := h
  obtain ⟨k, rfl⟩ := rx
  obtain rfl : u = Value.ref a := ry
  obtain ⟨t1, t2, t3, ho⟩ := I.hok a _ ha
  show wpAny _ _ (contains (Value.ref a) (Value.int i k) >>= fun b => pure (Value.bool (!b))) _ _ s
  refine wpAny_bind (wpAny_contains_slot (T := "range") ⟨_, ho, rfl⟩ F.slot_range_contains (call_meets F.slot_range_contains ⟨_, ho, rfl⟩ F.entry_range_contains (F.args_range_contains_2 _ _)
    (q_contains a lo hi i t1 t2 t3 k) ⟨ho, wpAny_truthy_bool (wpAny_pure ⟨.bl _, H, I, rfl, ?_⟩)⟩))
  rw [place1]
  exact q
theorem cr_range2' {X : Cx} : CallR X (.type "range") rRange2 := cr_range2
section
variable {K : PySem.W.Frag} {σ : St} {F F' : Hp} {cs cs1 cs2 cs3 : Cs} {ta tb tc te : TE} {d e : PyData} {as : TA} {a b c : Int}
theorem d_inRng (ha : EvD K ta σ F cs (.int a) cs1) (hb : EvDs K as σ F cs1 [.int b, .int c] cs2) : EvD K (tOp rInRng ta (tCB rRange2 as)) σ F cs (.bool (decide (b ≤ a ∧ a < c))) cs2 := fun F1 H1 g1 s Q q =>
  ha F1 H1 g1 s _ fun v F2 H2 g2 s2 h2 => hb F2 H2 (g1.tr g2) s2 _ fun vs F3 H3 g3 s3 h3 => by
    cases h2.toInt
    obtain ⟨w, z, rfl, k1, k2⟩ := h3.two; cases k1.toInt; cases k2.toInt
    exact ⟨b, c, rfl, fun p hp => ⟨a, p, b, c, rfl, rfl, upd_same, q _ _ _ ((g2.tr g3).tr (Gr.new (s3.fr.back hp))) (s3.lay hp) (.bl _)⟩⟩
theorem d_ninRng (ha : EvD K ta σ F cs (.int a) cs1) (hb : EvDs K as σ F cs1 [.int b, .int c] cs2) : EvD K (tOp rNinRng ta (tCB rRange2 as)) σ F cs (.bool (!decide (b ≤ a ∧ a < c))) cs2 := fun F1 H1 g1 s Q q =>
  ha F1 H1 g1 s _ fun v F2 H2 g2 s2 h2 => hb F2 H2 (g1.tr g2) s2 _ fun vs F3 H3 g3 s3 h3 => by
    cases h2.toInt
    obtain ⟨w, z, rfl, k1, k2⟩ := h3.two; cases k1.toInt; cases k2.toInt
    exact ⟨b, c, rfl, fun p hp => ⟨a, p, b, c, rfl, rfl, upd_same, q _ _ _ ((g2.tr g3).tr (Gr.new (s3.fr.back hp))) (s3.lay hp) (.bl _)⟩⟩
end
end Bw

namespace Bw
open PySem L2
/-- an expression that tells a known value and changes nothing -/
def VP (to : TE) (σ : St) (F : Hp) (cs : Cs) (v : V) : Prop := ∀ F1 H1, Gr F F1 → Sta F1 cs H1 → ∀ Q : VK, Q v H1 → to σ H1 Q
section
variable {K : PySem.W.Frag} {σ : St} {F F' : Hp} {cs cs1 cs2 cs3 : Cs} {ta tb tc te : TE} {d e : PyData} {as : TA} {a b c : Int} {nx bk ct : St → Hp → Prop} {rt : VK} {H : Hp} {t u : TS}
theorem vp_var {i : Nat} {v : V} (h : σ[i]? = some (some v)) : VP (tVar i) σ F cs v := fun F1 H1 g s Q q => ⟨v, h, q⟩
theorem vp_tup {to : TE} {t : Addr} {vs : List V} {k : Int} {v : V} (h : VP to σ F cs (.ref t)) (ht : SqT K F t vs) (hk : atI vs k = some v) : VP (tOp (rIxT K) to (tC (.int k))) σ F cs v := fun F1 H1 g s Q q =>
  h F1 H1 g s _ ⟨t, vs, k, v, rfl, rfl, gr_T s.fr (gr_T g ht), hk, q⟩
theorem VP.gr {to : TE} {v : V} (g : Gr F F') (h : VP to σ F cs v) : VP to σ F' cs v := fun F1 H1 g1 s Q q => h F1 H1 (g.tr g1) s Q q
theorem d_vp {v : V} (h : VP te σ F cs v) (hd : Dt K F v d) : EvD K te σ F cs d cs := fun F1 H1 g s Q q => h F1 H1 g s Q (q v F1 H1 .rfl s (hd.gr g))
/-! the readings, opened -/
theorem o_asg {g : TG} (h : te σ H fun v H' => g v σ H' nx) : tAsg te g ⟨nx, rt, bk, ct⟩ σ H := h
theorem o_ret (h : te σ H rt) : tRet te ⟨nx, rt, bk, ct⟩ σ H := h
theorem o_drop (h : te σ H fun _ H' => nx σ H') : tDrop te ⟨nx, rt, bk, ct⟩ σ H := h
theorem o_name {i : Nat} {v : V} {σ' : St} {Q : St → Hp → Prop} (e : σ.set i (some v) = σ') (h : Q σ' H) : gName i v σ H Q := by show Q (σ.set i (some v)) H; rw [e]; exact h
theorem o_tup {Q : VK} (h : as σ H fun vs H1 => vs.length ≤ sizeLine ∧ ∀ p, H1 p = none → Q (.ref p) (upd H1 p (.tup vs))) : tTup as σ H Q := h
theorem o_cons {Q : List V → Hp → Prop} (h : te σ H fun v H1 => as σ H1 fun vs H2 => Q (v :: vs) H2) : tCons te as σ H Q := h
theorem o_nil {Q : List V → Hp → Prop} (h : Q [] H) : tNil σ H Q := h
theorem o_d {Q : VK} (s : Sta F cs H) (h : EvD K te σ F cs d cs1) (q : ∀ v F2 H2, Gr F F2 → Sta F2 cs1 H2 → Dt K F2 v d → Q v H2) : te σ H Q := h F H .rfl s Q q
theorem o_c {Q : VK} {ds : List PyData} (s : Sta F cs H) (h : EvC K te σ F cs ds cs1) (q : ∀ p us F2 H2, Gr F F2 → Sta F2 ((p, .lst us) :: cs1) H2 → Dts K F2 us ds → Q (.ref p) H2) : te σ H Q := h F H .rfl s Q q
theorem o_v {Q : VK} {v : V} (s : Sta F cs H) (h : VP te σ F cs v) (q : Q v H) : te σ H Q := h F H .rfl s Q q
/-- the tuple itself stands for good -/
theorem o_tupN {n : Nat} {vs : List V} {Q : VK} (s : Sta F cs H) (hn : vs.length ≤ 1000) (q : ∀ p, Gr F (upd F p (.tup vs)) → Sta (upd F p (.tup vs)) cs (upd H p (.tup vs)) → Q (.ref p) (upd H p (.tup vs))) : vs.length ≤ sizeLine ∧ ∀ p, H p = none → Q (.ref p) (upd H p (.tup vs)) :=
  ⟨Nat.le_trans hn (by decide), fun p hp => q p (Gr.new (s.fr.back hp)) (s.lay hp)⟩
theorem sq_new {p : Addr} {vs : List V} : SqT K (upd F p (.tup vs)) p vs := .inl (.inl upd_same)
theorem dt_t {p : Addr} {vs : List V} {ds : List PyData} (h : SqT K F p vs) (hd : Dts K F vs ds) : Dt K F (.ref p) (.tuple ds) := .tup h hd
theorem s_appV {k1 k2 l1 l2 : Cs} {to : TE} {p : Addr} {vs : List V} (s : Sta F (k1 ++ (p, .lst vs) :: k2) H) (hi : VP to σ F (k1 ++ (p, .lst vs) :: k2) (.ref p)) (h : EvD K te σ F (k1 ++ (p, .lst vs) :: k2) d (l1 ++ (p, .lst vs) :: l2)) (hl : vs.length < 100000)
    (q : ∀ v F2 H2, Gr F F2 → Sta F2 (l1 ++ (p, .lst (vs ++ [v])) :: l2) H2 → Dt K F2 v d → nx σ H2) : tDrop (tBM K "list" rAppend to (tCons te tNil)) ⟨nx, rt, bk, ct⟩ σ H :=
  hi F H .rfl s _ ⟨.inl ⟨rfl, _, .inl (.inl s.getAt)⟩, h F H .rfl s _ fun v F2 H2 g2 s2 h2 => ⟨p, vs, v, rfl, rfl, s2.getAt, szl hl, q v F2 _ g2 s2.putAt h2⟩⟩
theorem s_appFV {α : Type} {vf : α → V} {en : α → PyData} {k1 k2 l1 l2 : Cs} {to : TE} {p : Addr} {xs ys : List α} {x : α} (hw : ∀ F v x, Dt K F v (en x) → v = vf x) (s : Sta F (k1 ++ (p, .lst (xs.map vf)) :: k2) H) (hi : VP to σ F (k1 ++ (p, .lst (xs.map vf)) :: k2) (.ref p)) (h : EvD K te σ F (k1 ++ (p, .lst (xs.map vf)) :: k2) (en x) (l1 ++ (p, .lst (xs.map vf)) :: l2)) (hm : appM xs x = some ys)
    (q : ∀ F2 H2, Gr F F2 → Sta F2 (l1 ++ (p, .lst (ys.map vf)) :: l2) H2 → nx σ H2) : tDrop (tBM K "list" rAppend to (tCons te tNil)) ⟨nx, rt, bk, ct⟩ σ H := by
  obtain ⟨hl, rfl⟩ := appM_some hm
  refine s_appV s hi h (by rw [List.length_map]; exact hl) fun v F2 H2 g2 s2 h2 => q F2 H2 g2 ?_
  cases hw F2 v x h2
  rw [List.map_append]; exact s2
theorem s_appGV {α : Type} {en : α → PyData} {k1 k2 l1 l2 : Cs} {to : TE} {p : Addr} {vs : List V} {xs ys : List α} {x : α} (s : Sta F (k1 ++ (p, .lst vs) :: k2) H) (hf : Dts K F vs (xs.map en)) (hi : VP to σ F (k1 ++ (p, .lst vs) :: k2) (.ref p)) (h : EvD K te σ F (k1 ++ (p, .lst vs) :: k2) (en x) (l1 ++ (p, .lst vs) :: l2)) (hm : appM xs x = some ys)
    (q : ∀ us F2 H2, Gr F F2 → Sta F2 (l1 ++ (p, .lst us) :: l2) H2 → Dts K F2 us (ys.map en) → nx σ H2) : tDrop (tBM K "list" rAppend to (tCons te tNil)) ⟨nx, rt, bk, ct⟩ σ H := by
  obtain ⟨hl, rfl⟩ := appM_some hm
  refine s_appV s hi h (by rw [hf.len, List.length_map]; exact hl) fun v F2 H2 g2 s2 h2 => q _ F2 H2 g2 s2 ?_
  rw [List.map_append]; exact (hf.gr g2).app (.cons h2 .nil)
theorem s_itemV {k1 k2 m1 m2 l1 l2 : Cs} {to : TE} {p : Addr} {vs : List V} {ti : TE} {k : Int} {j : Nat} (s : Sta F (k1 ++ (p, .lst vs) :: k2) H) (hi : VP to σ F (m1 ++ (p, .lst vs) :: m2) (.ref p)) (h : EvD K te σ F (k1 ++ (p, .lst vs) :: k2) d (m1 ++ (p, .lst vs) :: m2))
    (h2 : EvD K ti σ F (m1 ++ (p, .lst vs) :: m2) (.int k) (l1 ++ (p, .lst vs) :: l2)) (hj : ixN vs.length k = some j) (q : ∀ v F2 H2, Gr F F2 → Sta F2 (l1 ++ (p, .lst (vs.set j v)) :: l2) H2 → Dt K F2 v d → nx σ H2) : tAsg te (gSub to ti rSetL) ⟨nx, rt, bk, ct⟩ σ H :=
  h F H .rfl s _ fun v F2 H2 g2 s2 hv => hi F2 H2 g2 s2 _ (h2 F2 H2 g2 s2 _ fun w F3 H3 g3 s3 hw => ⟨p, vs, k, j, rfl, hw.toInt, s3.getAt, hj, q v F3 _ (g2.tr g3) s3.putAt (hv.gr g3)⟩)
theorem s_itemFV {α : Type} {vf : α → V} {en : α → PyData} {k1 k2 m1 m2 l1 l2 : Cs} {to : TE} {p : Addr} {xs ys : List α} {x : α} {ti : TE} {k : Int} (hw : ∀ F v x, Dt K F v (en x) → v = vf x) (s : Sta F (k1 ++ (p, .lst (xs.map vf)) :: k2) H) (hi : VP to σ F (m1 ++ (p, .lst (xs.map vf)) :: m2) (.ref p)) (h : EvD K te σ F (k1 ++ (p, .lst (xs.map vf)) :: k2) (en x) (m1 ++ (p, .lst (xs.map vf)) :: m2))
    (h2 : EvD K ti σ F (m1 ++ (p, .lst (xs.map vf)) :: m2) (.int k) (l1 ++ (p, .lst (xs.map vf)) :: l2)) (hm : setM xs k x = some ys) (q : ∀ F2 H2, Gr F F2 → Sta F2 (l1 ++ (p, .lst (ys.map vf)) :: l2) H2 → nx σ H2) : tAsg te (gSub to ti rSetL) ⟨nx, rt, bk, ct⟩ σ H := by
  obtain ⟨j, hj, rfl⟩ := setM_some hm
  refine s_itemV (j := j) s hi h h2 (by rw [List.length_map]; exact hj) fun v F2 H2 g2 s2 hv => q F2 H2 g2 ?_
  cases hw F2 v x hv
  rw [List.map_set]; exact s2
theorem s_itemGV {α : Type} {en : α → PyData} {k1 k2 m1 m2 l1 l2 : Cs} {to : TE} {p : Addr} {vs : List V} {xs ys : List α} {x : α} {ti : TE} {k : Int} (s : Sta F (k1 ++ (p, .lst vs) :: k2) H) (hf : Dts K F vs (xs.map en)) (hi : VP to σ F (m1 ++ (p, .lst vs) :: m2) (.ref p)) (h : EvD K te σ F (k1 ++ (p, .lst vs) :: k2) (en x) (m1 ++ (p, .lst vs) :: m2))
    (h2 : EvD K ti σ F (m1 ++ (p, .lst vs) :: m2) (.int k) (l1 ++ (p, .lst vs) :: l2)) (hm : setM xs k x = some ys) (q : ∀ us F2 H2, Gr F F2 → Sta F2 (l1 ++ (p, .lst us) :: l2) H2 → Dts K F2 us (ys.map en) → nx σ H2) : tAsg te (gSub to ti rSetL) ⟨nx, rt, bk, ct⟩ σ H := by
  obtain ⟨j, hj, rfl⟩ := setM_some hm
  refine s_itemV (j := j) s hi h h2 (by rw [hf.len, List.length_map]; exact hj) fun v F2 H2 g2 s2 hv => q _ F2 H2 g2 s2 ?_
  rw [List.map_set]; exact (hf.gr g2).setAt j hv
theorem s_augSV {k1 k2 m1 m2 l1 l2 : Cs} {to : TE} {p : Addr} {xs ys : List Int} {ti : TE} {k w b : Int} {f : Int → Int → Int} (s : Sta F (k1 ++ (p, .lst (xs.map V.int)) :: k2) H) (hi : VP to σ F (k1 ++ (p, .lst (xs.map V.int)) :: k2) (.ref p)) (h1 : EvD K ti σ F (k1 ++ (p, .lst (xs.map V.int)) :: k2) (.int k) (m1 ++ (p, .lst (xs.map V.int)) :: m2)) (hg : atI xs k = some w)
    (h2 : EvD K te σ F (m1 ++ (p, .lst (xs.map V.int)) :: m2) (.int b) (l1 ++ (p, .lst (xs.map V.int)) :: l2)) (hm : setM xs k (f w b) = some ys) (q : ∀ F2 H2, Gr F F2 → Sta F2 (l1 ++ (p, .lst (ys.map V.int)) :: l2) H2 → nx σ H2) : tAugS to ti te (rIxL K) (ipI f) rSetL ⟨nx, rt, bk, ct⟩ σ H := by
  obtain ⟨j, hj, rfl⟩ := setM_some hm
  refine hi F H .rfl s _ (h1 F H .rfl s _ fun v F2 H2 g2 s2 hv => ⟨p, xs.map V.int, k, .int w, rfl, hv.toInt, .inl (.inl s2.getAt), by rw [atI_map, hg]; rfl, h2 F2 H2 g2 s2 _ fun y F3 H3 g3 s3 hy => ⟨w, b, rfl, hy.toInt, p, xs.map V.int, k, j, rfl, hv.toInt, s3.getAt, by rw [List.length_map]; exact hj, q F3 _ (g2.tr g3) ?_⟩⟩)
  rw [List.map_set]; exact s3.putAt
theorem s_popFV {α : Type} {vf : α → V} {en : α → PyData} {k1 k2 l1 l2 : Cs} {to : TE} {j : Nat} {p : Addr} {xs ys : List α} {x : α} {ti : TE} {k : Int} {σ' : St} (hd : ∀ F x, Dt K F (vf x) (en x)) (s : Sta F (k1 ++ (p, .lst (xs.map vf)) :: k2) H) (hi : VP to σ F (k1 ++ (p, .lst (xs.map vf)) :: k2) (.ref p))
    (h2 : EvD K ti σ F (k1 ++ (p, .lst (xs.map vf)) :: k2) (.int k) (l1 ++ (p, .lst (xs.map vf)) :: l2)) (hm : popM xs k = some (x, ys)) (hσ : σ.set j (some (vf x)) = σ') (q : ∀ F2 H2, Gr F F2 → Sta F2 (l1 ++ (p, .lst (ys.map vf)) :: l2) H2 → nx σ' H2) : tAsg (tBM K "list" rPopAt to (tCons ti tNil)) (gName j) ⟨nx, rt, bk, ct⟩ σ H := by
  obtain ⟨⟨a1, a2⟩, m, b1, b2, rfl⟩ := popM_some hm
  refine hi F H .rfl s _ ⟨.inl ⟨rfl, _, .inl (.inl s.getAt)⟩, h2 F H .rfl s _ fun w F3 H3 g3 s3 hw => ⟨p, xs.map vf, k, m, vf x, rfl, by cases hw.toInt; rfl, s3.getAt, a1, a2, by rw [List.length_map]; exact b1, by rw [List.getElem?_map, b2]; rfl, ?_⟩⟩
  show nx (σ.set j (some (vf x))) _
  rw [hσ]
  refine q F3 _ g3 ?_
  have s4 := s3.putAt (o' := .lst ((xs.map vf).eraseIdx m))
  rw [er_map]
  exact s4
theorem s_remFV {k1 k2 l1 l2 : Cs} {to : TE} {p : Addr} {xs ys : List Int} {ti : TE} {k : Int} (s : Sta F (k1 ++ (p, .lst (xs.map V.int)) :: k2) H) (hi : VP to σ F (k1 ++ (p, .lst (xs.map V.int)) :: k2) (.ref p))
    (h2 : EvD K ti σ F (k1 ++ (p, .lst (xs.map V.int)) :: k2) (.int k) (l1 ++ (p, .lst (xs.map V.int)) :: l2)) (hm : remM xs k = some ys) (q : ∀ F2 H2, Gr F F2 → Sta F2 (l1 ++ (p, .lst (ys.map V.int)) :: l2) H2 → nx σ H2) : tDrop (tBM K "list" rRemI to (tCons ti tNil)) ⟨nx, rt, bk, ct⟩ σ H := by
  unfold remM at hm; split at hm
  · rename_i hin
    cases hm
    obtain ⟨j, e1, e2, e3⟩ := rem_at hin
    refine hi F H .rfl s _ ⟨.inl ⟨rfl, _, .inl (.inl s.getAt)⟩, h2 F H .rfl s _ fun w F3 H3 g3 s3 hw => ⟨p, xs, k, j, rfl, by cases hw.toInt; rfl, s3.getAt, e1, e2, q F3 _ g3 ?_⟩⟩
    rw [e3]
    exact s3.putAt
  · cases hm
theorem s_extV {k1 k2 l1 l2 : Cs} {to : TE} {p : Addr} {vs : List V} {ds : List PyData} (s : Sta F (k1 ++ (p, .lst vs) :: k2) H) (hi : VP to σ F (k1 ++ (p, .lst vs) :: k2) (.ref p)) (h : EvC K te σ F (k1 ++ (p, .lst vs) :: k2) ds (l1 ++ (p, .lst vs) :: l2)) (hl : vs.length + ds.length ≤ 100000)
    (q : ∀ us F2 H2, Gr F F2 → Sta F2 (l1 ++ (p, .lst (vs ++ us)) :: l2) H2 → Dts K F2 us ds → nx σ H2) : tDrop (tBM K "list" rExtend to (tCons te tNil)) ⟨nx, rt, bk, ct⟩ σ H :=
  hi F H .rfl s _ ⟨.inl ⟨rfl, _, .inl (.inl s.getAt)⟩, h F H .rfl s _ fun b us F2 H2 g2 s2 h2 => ⟨p, b, vs, us, rfl, rfl, Sta.getAt (l1 := (b, .lst us) :: l1) s2, s2.at List.mem_cons_self, by rw [h2.len]; exact sz hl, q us _ _ (g2.tr s2.gfr) s2.froze.putAt (h2.gr s2.gfr)⟩⟩
theorem s_extFV {α : Type} {vf : α → V} {en : α → PyData} {k1 k2 l1 l2 : Cs} {to : TE} {p : Addr} {xs ys zs : List α} (hw : ∀ F vs (ys : List α), Dts K F vs (ys.map en) → vs = ys.map vf) (s : Sta F (k1 ++ (p, .lst (xs.map vf)) :: k2) H) (hi : VP to σ F (k1 ++ (p, .lst (xs.map vf)) :: k2) (.ref p)) (h : EvC K te σ F (k1 ++ (p, .lst (xs.map vf)) :: k2) (ys.map en) (l1 ++ (p, .lst (xs.map vf)) :: l2)) (hm : catM xs ys = some zs)
    (q : ∀ F2 H2, Gr F F2 → Sta F2 (l1 ++ (p, .lst (zs.map vf)) :: l2) H2 → nx σ H2) : tDrop (tBM K "list" rExtend to (tCons te tNil)) ⟨nx, rt, bk, ct⟩ σ H := by
  obtain ⟨hl, rfl⟩ := catM_some hm
  refine s_extV s hi h (by rw [List.length_map, List.length_map]; exact hl) fun us F2 H2 g2 s2 h2 => q F2 H2 g2 ?_
  cases hw F2 us ys h2
  rw [List.map_append]; exact s2
theorem s_extGV {α : Type} {en : α → PyData} {k1 k2 l1 l2 : Cs} {to : TE} {p : Addr} {vs : List V} {xs ys zs : List α} (s : Sta F (k1 ++ (p, .lst vs) :: k2) H) (hf : Dts K F vs (xs.map en)) (hi : VP to σ F (k1 ++ (p, .lst vs) :: k2) (.ref p)) (h : EvC K te σ F (k1 ++ (p, .lst vs) :: k2) (ys.map en) (l1 ++ (p, .lst vs) :: l2)) (hm : catM xs ys = some zs)
    (q : ∀ us F2 H2, Gr F F2 → Sta F2 (l1 ++ (p, .lst us) :: l2) H2 → Dts K F2 us (zs.map en) → nx σ H2) : tDrop (tBM K "list" rExtend to (tCons te tNil)) ⟨nx, rt, bk, ct⟩ σ H := by
  obtain ⟨hl, rfl⟩ := catM_some hm
  refine s_extV s hi h (by rw [hf.len, List.length_map, List.length_map]; exact hl) fun us F2 H2 g2 s2 h2 => q _ F2 H2 g2 s2 ?_
  rw [List.map_append]; exact (hf.gr g2).app h2
theorem s_clrV {l1 l2 : Cs} {to : TE} {p : Addr} {vs : List V} (s : Sta F (l1 ++ (p, .lst vs) :: l2) H) (hi : VP to σ F (l1 ++ (p, .lst vs) :: l2) (.ref p)) (q : Sta F (l1 ++ (p, .lst []) :: l2) (upd H p (.lst [])) → nx σ (upd H p (.lst []))) : tDrop (tBM0 K "list" rClear to) ⟨nx, rt, bk, ct⟩ σ H :=
  hi F H .rfl s _ ⟨.inl ⟨rfl, _, .inl (.inl s.getAt)⟩, p, vs, rfl, rfl, s.getAt, q s.putAt⟩
end
def Su (c c' : Cs) : Prop := ∃ l, c.Perm (l ++ c')
theorem su_rfl {cs : Cs} : Su cs cs := ⟨[], .refl _⟩
theorem su_perm {cs cs1 : Cs} (p : cs.Perm cs1) : Su cs cs1 := ⟨[], p⟩
theorem su_drop {c : Addr × HO} {cs : Cs} : Su (c :: cs) cs := ⟨[c], .refl _⟩
theorem Su.tr {cs cs1 cs2 : Cs} (h : Su cs cs1) (k : Su cs1 cs2) : Su cs cs2 := by
  obtain ⟨l, h⟩ := h
  obtain ⟨m, k⟩ := k
  exact ⟨l ++ m, h.trans (by rw [List.append_assoc]; exact k.append_left l)⟩
theorem sta_tl : ∀ {l : Cs} {cs : Cs} {F H : Hp}, Sta F (l ++ cs) H → Sta F cs H
  | [], _, _, _, s => s
  | c :: l, cs, F, H, s => sta_tl (l := l) (sb_drop (c := c) (cs := l ++ cs) F H s)
theorem Su.sb {cs cs1 : Cs} (h : Su cs cs1) : Sb cs cs1 := fun F H s => by
  obtain ⟨l, h⟩ := h
  exact sta_tl (s.perm h)
theorem su_app {cs cs1 c : Cs} (h : Su cs cs1) : Su (c ++ cs) (c ++ cs1) := by
  obtain ⟨l, h⟩ := h
  refine ⟨l, (h.append_left c).trans ?_⟩
  rw [← List.append_assoc, ← List.append_assoc]
  exact List.perm_append_comm.append_right cs1
section
variable {K : PySem.W.Frag} {σ : St} {F F' : Hp} {cs cs1 cs2 cs3 : Cs} {ta tb tc te : TE} {d e : PyData} {as : TA} {a b c : Int} {nx bk ct : St → Hp → Prop} {rt : VK} {H : Hp} {t u : TS}
/-- list(path) -/
theorem c_listV {l1 l2 : Cs} {to : TE} {p : Addr} {us : List V} {ds : List PyData} (hi : VP to σ F (l1 ++ (p, .lst us) :: l2) (.ref p)) (hd : Dts K F us ds) : EvC K (tCB (rListS K) (tCons to tNil)) σ F (l1 ++ (p, .lst us) :: l2) ds (l1 ++ (p, .lst us) :: l2) := fun F1 H1 g1 s Q q =>
  hi F1 H1 g1 s _ ⟨p, us, rfl, .inl (.inl (.inl s.getAt)), fun l nl => q _ _ _ _ .rfl (s.cell nl) (hd.gr g1)⟩
/-! a function that tells a new thing, some parts of which may change -/
def spR (K : PySem.W.Frag) {α β : Type} (A : α → List Ar) (C : β → List (List V)) (R : β → Hp → V → Cs → Prop) (f : α → Option β) : Sp := fun vs H Q _ => ∃ F cc cs x y, ArgR K F vs (A x) cc ∧ Sta F (cc ++ cs) H ∧ f x = some y ∧ ∀ v c F2 H2, Gr F F2 → Sta F2 (c ++ (upC cc (C y) ++ cs)) H2 → R y F2 v c → Q v H2
theorem o_callR {α β : Type} {A : α → List Ar} {C : β → List (List V)} {R : β → Hp → V → Cs → Prop} {f : α → Option β} {x : α} {y : β} {E : XK} {cc cs' : Cs} {Q : VK} (s : Sta F cs H) (h : EvR K as σ F cs (A x) cc cs1) (hp : Sb cs1 (cc ++ cs')) (hf : f x = some y) (hq : Su (upC cc (C y) ++ cs') cs2)
    (q : ∀ v c F2 H2, Gr F F2 → Sta F2 (c ++ cs2) H2 → R y F2 v c → Q v H2) : tCall (spR K A C R f) [] E as σ H Q :=
  h F H .rfl s _ fun vs F2 H2 g2 s2 h2 => ⟨F2, cc, cs', x, y, by rw [List.append_nil]; exact h2, hp _ _ s2, hf, fun v c F3 H3 g3 s3 r => q v c F3 H3 (g2.tr g3) ((su_app hq).sb _ _ s3) r⟩
theorem d_callR {α β : Type} {A : α → List Ar} {C : β → List (List V)} {R : β → Hp → V → Cs → Prop} {B : β → PyData} {f : α → Option β} {x : α} {y : β} {E : XK} {cc cs' : Cs} (hR : ∀ y F H v c cs, R y F v c → Sta F (c ++ cs) H → ∃ F', Gr F F' ∧ Sta F' cs H ∧ Dt K F' v (B y)) (h : EvR K as σ F cs (A x) cc cs1) (hp : Sb cs1 (cc ++ cs')) (hf : f x = some y) (hq : Su (upC cc (C y) ++ cs') cs2) : EvD K (tCall (spR K A C R f) [] E as) σ F cs (B y) cs2 := fun F1 H1 g1 s Q q =>
  h F1 H1 g1 s _ fun vs F2 H2 g2 s2 h2 => ⟨F2, cc, cs', x, y, by rw [List.append_nil]; exact h2, hp _ _ s2, hf, fun v c F3 H3 g3 s3 r => by
    obtain ⟨F4, g4, s4, d4⟩ := hR y F3 H3 v c cs2 r ((su_app hq).sb _ _ s3)
    exact q v F4 H3 ((g2.tr g3).tr g4) s4 d4⟩
end
end Bw

namespace Bw
open PySem L2
/-! data without lists -/
mutual
def noL : PyData → Bool
  | .list _ => false
  | .dict _ => false
  | .tuple ds => noLs ds
  | _ => true
def noLs : List PyData → Bool
  | [] => true
  | d :: ds => noL d && noLs ds
end
section
variable {K : PySem.W.Frag} {F F2 : Hp} {p : Addr} {us : List V}
mutual
theorem Dt.cutL (hp : F2 p = some (.lst us)) : ∀ {v : V} {d : PyData}, Dt K F2 v d → noL d = true → Dt K (cut F2 p) v d
  | _, _, .non, _ => .non
  | _, _, .bl b, _ => .bl b
  | _, _, .int i, _ => .int i
  | _, _, .str x, _ => .str x
  | _, _, .lst h a, n => by simp [noL] at n
  | _, _, .dct h, n => by simp [noL] at n
  | _, _, .tup (a := a) (ds := ds) h k, n => by
    have n' : noLs ds = true := by simpa [noL] using n
    refine .tup ?_ (Dts.cutL hp k n')
    rcases h with (h | ⟨o, h⟩) | h
    · refine .inl (.inl ?_)
      rw [cut_ne (fun z => by rw [z, hp] at h; cases h)]; exact h
    · refine .inl (.inr ⟨o, ?_⟩)
      rw [cut_ne (fun z => by rw [z, hp] at h; cases h)]; exact h
    · exact .inr h
theorem Dts.cutL (hp : F2 p = some (.lst us)) : ∀ {vs : List V} {ds : List PyData}, Dts K F2 vs ds → noLs ds = true → Dts K (cut F2 p) vs ds
  | _, _, .nil, _ => .nil
  | _, _, .cons h t, n => by
    rw [noLs, Bool.and_eq_true] at n
    exact .cons (Dt.cutL hp h n.1) (Dts.cutL hp t n.2)
end
end
def Nl {α : Type} (e : α → PyData) : Prop := ∀ x, noL (e x) = true
theorem nl_I : Nl eI := fun _ => rfl
theorem nl_B : Nl eB := fun _ => rfl
theorem nl_S : Nl eS := fun _ => rfl
theorem nl_N : Nl eN := fun _ => rfl
theorem nl_O {α : Type} {e : α → PyData} (h : Nl e) : Nl (eO e) := fun x => by cases x with
  | none => rfl
  | some y => exact h y
theorem nl_T2 {α β : Type} {e : α → PyData} {f : β → PyData} (h : Nl e) (k : Nl f) : Nl (eT2 e f) := fun x => by show (noL (e x.1) && (noL (f x.2) && true)) = true; rw [h, k]; rfl
theorem nl_T3 {α β γ : Type} {e : α → PyData} {f : β → PyData} {g : γ → PyData} (h : Nl e) (k : Nl f) (l : Nl g) : Nl (eT3 e f g) := fun x => by show (noL (e x.1) && (noL (f x.2.1) && (noL (g x.2.2) && true))) = true; rw [h, k, l]; rfl
theorem nl_T4 {α β γ δ : Type} {e : α → PyData} {f : β → PyData} {g : γ → PyData} {i : δ → PyData} (h : Nl e) (k : Nl f) (l : Nl g) (m : Nl i) : Nl (eT4 e f g i) := fun x => by show (noL (e x.1) && (noL (f x.2.1) && (noL (g x.2.2.1) && (noL (i x.2.2.2) && true)))) = true; rw [h, k, l, m]; rfl
theorem nls {α : Type} {e : α → PyData} (h : Nl e) : ∀ xs : List α, noLs (xs.map e) = true
  | [] => rfl
  | x :: xs => by show (noL (e x) && noLs (xs.map e)) = true; rw [h, nls h xs]; rfl
section
variable {K : PySem.W.Frag} {σ : St} {F F' : Hp} {cs cs1 cs2 cs3 : Cs} {ta tb tc te : TE} {d e : PyData} {as : TA}
theorem Ev.grC {ds : List PyData} (g : Gr F F') (h : EvC K te σ F cs ds cs1) : EvC K te σ F' cs ds cs1 := fun F1 H1 g1 s Q q => h F1 H1 (g.tr g1) s Q q
theorem Ev.grR {xs : List Ar} {cc : Cs} (g : Gr F F') (h : EvR K as σ F cs xs cc cs1) : EvR K as σ F' cs xs cc cs1 := fun F1 H1 g1 s Q q => h F1 H1 (g.tr g1) s Q q
theorem r_cv {xs : List Ar} {cc : Cs} {to : TE} {p : Addr} {us : List V} (hi : VP to σ F cs (.ref p)) (h2 : EvR K as σ F cs xs cc cs2) : EvR K (tCons to as) σ F cs (.c us :: xs) ((p, .lst us) :: cc) cs2 := fun F1 H1 g1 s Q q =>
  hi F1 H1 g1 s _ (h2 F1 H1 g1 s _ fun vs F2 H2 g2 s2 h => q _ F2 H2 g2 s2 (.c h))
/-- the first argument is a new list of flat things, which nobody keeps -/
theorem o_callRN {α β : Type} {A : α → List Ar} {C : β → List (List V)} {R : β → Hp → V → Cs → Prop} {f : α → Option β} {x : α} {y : β} {E : XK} {cc cs' : Cs} {ds : List PyData} {us : List V} {xs : List Ar} {H : Hp} {Q : VK} (s : Sta F cs H) (h : EvC K te σ F cs ds cs1) (hu : ∀ F vs, Dts K F vs ds → vs = us) (hA : A x = .c us :: xs) (h2 : ∀ p, EvR K as σ F ((p, .lst us) :: cs1) xs cc ((p, .lst us) :: cs2))
    (hp : ∀ p, Sb ((p, .lst us) :: cs2) ((p, .lst us) :: cc ++ cs')) (hf : f x = some y) (hq : ∀ p, Su (upC ((p, .lst us) :: cc) (C y) ++ cs') cs3) (q : ∀ v c F2 H2, Gr F F2 → Sta F2 (c ++ cs3) H2 → R y F2 v c → Q v H2) : tCall (spR K A C R f) [] E (tCons te as) σ H Q :=
  h F H .rfl s _ fun p vs F2 H2 g2 s2 hv => by
    cases hu F2 vs hv
    exact h2 p F2 H2 g2 s2 _ fun ws F3 H3 g3 s3 h3 => ⟨F3, (p, .lst us) :: cc, cs', x, y, by rw [List.append_nil, hA]; exact .c h3, hp p _ _ s3, hf, fun v c F4 H4 g4 s4 r => q v c F4 H4 ((g2.tr g3).tr g4) ((su_app (hq p)).sb _ _ s4) r⟩
theorem d_callRN {α β : Type} {A : α → List Ar} {C : β → List (List V)} {R : β → Hp → V → Cs → Prop} {B : β → PyData} {f : α → Option β} {x : α} {y : β} {E : XK} {cc cs' : Cs} {ds : List PyData} {us : List V} {xs : List Ar} (hR : ∀ y F H v c cs, R y F v c → Sta F (c ++ cs) H → ∃ F', Gr F F' ∧ Sta F' cs H ∧ Dt K F' v (B y)) (h : EvC K te σ F cs ds cs1) (hu : ∀ F vs, Dts K F vs ds → vs = us) (hA : A x = .c us :: xs) (h2 : ∀ p, EvR K as σ F ((p, .lst us) :: cs1) xs cc ((p, .lst us) :: cs2))
    (hp : ∀ p, Sb ((p, .lst us) :: cs2) ((p, .lst us) :: cc ++ cs')) (hf : f x = some y) (hq : ∀ p, Su (upC ((p, .lst us) :: cc) (C y) ++ cs') cs3) : EvD K (tCall (spR K A C R f) [] E (tCons te as)) σ F cs (B y) cs3 := fun F1 H1 g1 s Q q =>
  o_callRN s (Ev.grC g1 h) hu hA (fun p => Ev.grR g1 (h2 p)) hp hf hq fun v c F3 H3 g3 s3 r => by
    obtain ⟨F4, g4, s4, d4⟩ := hR y F3 H3 v c cs3 r s3
    exact q v F4 H3 (g3.tr g4) s4 d4
theorem d_lendT {l1 l2 m1 m2 : Cs} {p : Addr} {us : List V} (hn : noL d = true) (h : ∀ F1, Gr F F1 → F1 p = none → EvD K te σ (upd F1 p (.lst us)) (l1 ++ l2) d (m1 ++ m2)) : EvD K te σ F (l1 ++ (p, .lst us) :: l2) d (m1 ++ (p, .lst us) :: m2) := fun F1 H1 g1 s Q q => by
  refine h F1 g1 s.freeAt (upd F1 p (.lst us)) H1 .rfl s.frozeAt Q fun v F2 H2 g2 s2 h2 => ?_
  exact q v (cut F2 p) H2 (gr_cut s.freeAt g2) (Sta.lent g2 s2) (h2.cutL (g2 p _ upd_same) hn)
theorem c_lendT {l1 l2 m1 m2 : Cs} {p : Addr} {us : List V} {ds : List PyData} (hn : noLs ds = true) (h : ∀ F1, Gr F F1 → F1 p = none → EvC K te σ (upd F1 p (.lst us)) (l1 ++ l2) ds (m1 ++ m2)) : EvC K te σ F (l1 ++ (p, .lst us) :: l2) ds (m1 ++ (p, .lst us) :: m2) := fun F1 H1 g1 s Q q => by
  refine h F1 g1 s.freeAt (upd F1 p (.lst us)) H1 .rfl s.frozeAt Q fun a vs F2 H2 g2 s2 h2 => ?_
  exact q a vs (cut F2 p) H2 (gr_cut s.freeAt g2) (Sta.lent (l1 := (a, .lst vs) :: m1) g2 s2) (h2.cutL (g2 p _ upd_same) hn)
end
end Bw

namespace Bw
open PySem L2
/-! dicts with flat keys and flat values -/
def lookK {κ ν : Type} [DecidableEq κ] (d : List (κ × ν)) (k : κ) : Option ν := (d.find? fun p => decide (p.1 = k)).map (·.2)
def putKV {κ ν : Type} [DecidableEq κ] (d : List (κ × ν)) (k : κ) (v : ν) : List (κ × ν) := if (d.any fun p => decide (p.1 = k)) = true then d.map (fun p => if p.1 = k then (p.1, v) else p) else d ++ [(k, v)]
def hasK {κ ν : Type} [DecidableEq κ] (d : List (κ × ν)) (k : κ) : Bool := (lookK d k).isSome
def putM {κ ν : Type} [DecidableEq κ] (d : List (κ × ν)) (k : κ) (v : ν) : Option (List (κ × ν)) := if d.length < 100000 then some (putKV d k v) else none
def kvE {κ ν : Type} (kf : κ → Key) (vf : ν → V) (d : List (κ × ν)) : List (Key × V) := d.map fun p => (kf p.1, vf p.2)
def Inj {κ : Type} (kf : κ → Key) : Prop := ∀ a b, kf a = kf b → a = b
abbrev kS : Str → Key := fun x => Sum.inr x
abbrev kI : Int → Key := fun x => Sum.inl x
theorem inj_S : Inj kS := fun _ _ h => Sum.inr.inj h
theorem inj_I : Inj kI := fun _ _ h => Sum.inl.inj h
section
variable {κ ν : Type} [DecidableEq κ] {kf : κ → Key} {vf : ν → V}
theorem val_kv (hk : Inj kf) : ∀ (d : List (κ × ν)) (k : κ), valV (kvE kf vf d) (kf k) = (lookK d k).map vf
  | [], _ => rfl
  | p :: d, k => by
    have ih := val_kv hk d k
    unfold valV kvE lookK at ih ⊢
    rw [List.map_cons, List.find?_cons, List.find?_cons]
    by_cases h : p.1 = k
    · rw [decide_eq_true h, decide_eq_true (congrArg kf h)]; rfl
    · rw [decide_eq_false h, decide_eq_false (fun z => h (hk _ _ z))]; exact ih
theorem put_kv (hk : Inj kf) (d : List (κ × ν)) (k : κ) (v : ν) : putK (kvE kf vf d) (kf k) (vf v) = kvE kf vf (putKV d k v) := by
  have e : ∀ d : List (κ × ν), ((kvE kf vf d).any fun kv => decide (kv.1 = kf k)) = d.any fun p => decide (p.1 = k) := fun d => by
    unfold kvE
    rw [List.any_map]
    congr 1
    funext p
    by_cases h : p.1 = k
    · simp [h]
    · have : ¬ kf p.1 = kf k := fun z => h (hk _ _ z)
      simp [h, this]
  unfold putK putKV
  rw [e]
  by_cases q : (d.any fun p => decide (p.1 = k)) = true
  · rw [if_pos q, if_pos q]
    unfold kvE
    rw [List.map_map, List.map_map]
    apply List.map_congr_left
    intro p _
    show (if kf p.1 = kf k then (kf p.1, vf v) else (kf p.1, vf p.2)) = _
    by_cases h : p.1 = k
    · rw [if_pos (congrArg kf h)]; show _ = (kf (if p.1 = k then (p.1, v) else p).1, vf (if p.1 = k then (p.1, v) else p).2); rw [if_pos h]
    · rw [if_neg (fun z => h (hk _ _ z))]; show _ = (kf (if p.1 = k then (p.1, v) else p).1, vf (if p.1 = k then (p.1, v) else p).2); rw [if_neg h]
  · rw [if_neg q, if_neg q]
    unfold kvE
    rw [List.map_append]; rfl
theorem putM_some {d e : List (κ × ν)} {k : κ} {v : ν} (h : putM d k v = some e) : d.length < 100000 ∧ putKV d k v = e := by
  unfold putM at h; split at h
  · rename_i q; exact ⟨q, Option.some.inj h⟩
  · cases h
end
/-- how a key's value stands -/
structure KfOk {κ : Type} (kf : κ → Key) (ek : κ → PyData) : Prop where
  inj : Inj kf
  v : ∀ K F v x, Dt K F v (ek x) → v = kV (kf x)
theorem kf_S : KfOk kS eS := ⟨inj_S, fun _ _ _ _ h => h.toStr⟩
theorem kf_I : KfOk kI eI := ⟨inj_I, fun _ _ _ _ h => h.toInt⟩
section
variable {K : PySem.W.Frag} {σ : St} {F F' : Hp} {cs cs1 cs2 cs3 : Cs} {ta tb tc te td : TE} {d e : PyData} {as : TA} {a b c : Int} {nx bk ct : St → Hp → Prop} {rt : VK} {H : Hp} {t u : TS}
variable {κ ν : Type} [DecidableEq κ] {kf : κ → Key} {vf : ν → V} {ek : κ → PyData} {ev : ν → PyData}
/-- a new dict -/
theorem o_dict0 {Q : VK} (s : Sta F cs H) (q : ∀ p H2, Sta F ((p, .dK (kvE kf vf [])) :: cs) H2 → Q (.ref p) H2) : tDNewK σ H Q := fun p hp => q p _ (s.cell hp)
/-- k in d -/
theorem d_din {D : List (κ × ν)} {k : κ} {p : Addr} (hk : KfOk kf ek) (ha : EvD K ta σ F cs (ek k) cs1) (hd : VP td σ F cs1 (.ref p)) (hF : F p = some (.dK (kvE kf vf D))) : EvD K (tDIn ta td) σ F cs (.bool (hasK D k)) cs1 := fun F1 H1 g1 s Q q =>
  ha F1 H1 g1 s _ fun v F2 H2 g2 s2 h2 => hd F2 H2 (g1.tr g2) s2 _ ⟨p, valV (kvE kf vf D) (kf k), rfl, by rw [hk.v K F2 v k h2]; exact DGet.k (s2.fr _ _ ((g1.tr g2) _ _ hF)), by
    rw [val_kv hk.inj, Option.isSome_map]; exact q _ F2 H2 g2 s2 (.bl _)⟩
theorem d_dnin {D : List (κ × ν)} {k : κ} {p : Addr} (hk : KfOk kf ek) (ha : EvD K ta σ F cs (ek k) cs1) (hd : VP td σ F cs1 (.ref p)) (hF : F p = some (.dK (kvE kf vf D))) : EvD K (tDNotIn ta td) σ F cs (.bool (!hasK D k)) cs1 := fun F1 H1 g1 s Q q =>
  ha F1 H1 g1 s _ fun v F2 H2 g2 s2 h2 => hd F2 H2 (g1.tr g2) s2 _ ⟨p, valV (kvE kf vf D) (kf k), rfl, by rw [hk.v K F2 v k h2]; exact DGet.k (s2.fr _ _ ((g1.tr g2) _ _ hF)), by
    rw [val_kv hk.inj, Option.isSome_map]; exact q _ F2 H2 g2 s2 (.bl _)⟩
/-- d[k] -/
theorem d_dget {D : List (κ × ν)} {k : κ} {x : ν} {p : Addr} (hk : KfOk kf ek) (hv : ∀ F x, Dt K F (vf x) (ev x)) (hd : VP td σ F cs (.ref p)) (ha : EvD K ta σ F cs (ek k) cs1) (hF : F p = some (.dK (kvE kf vf D))) (hx : lookK D k = some x) : EvD K (tDGet td ta) σ F cs (ev x) cs1 := fun F1 H1 g1 s Q q =>
  hd F1 H1 g1 s _ (ha F1 H1 g1 s _ fun v F2 H2 g2 s2 h2 => ⟨p, vf x, rfl, by
    have := DGet.k (k := kf k) (s2.fr _ _ ((g1.tr g2) _ _ hF))
    rw [val_kv hk.inj, hx] at this
    rw [hk.v K F2 v k h2]; exact this, q _ F2 H2 g2 s2 (hv _ _)⟩)
/-- len(d) -/
abbrev rLenD : List V → Hp → VK → Prop := fun xs H Q => ∃ a kvs, xs = [V.ref a] ∧ H a = some (.dK kvs) ∧ Q (.int kvs.length) H
theorem d_lenK {D : List (κ × ν)} {p : Addr} (hd : VP td σ F cs (.ref p)) (hF : F p = some (.dK (kvE kf vf D))) : EvD K (tCB rLenD (tCons td tNil)) σ F cs (.int D.length) cs := fun F1 H1 g1 s Q q =>
  hd F1 H1 g1 s _ ⟨p, _, rfl, s.fr _ _ (g1 _ _ hF), q _ F1 H1 .rfl s (by unfold kvE; rw [List.length_map]; exact .int _)⟩
/-- d[k] = v, d a cell -/
theorem s_dput {k1 k2 m1 m2 l1 l2 : Cs} {D D2 : List (κ × ν)} {k : κ} {x : ν} {p : Addr} (hk : KfOk kf ek) (hw : ∀ F v x, Dt K F v (ev x) → v = vf x) (s : Sta F (k1 ++ (p, .dK (kvE kf vf D)) :: k2) H) (h : EvD K te σ F (k1 ++ (p, .dK (kvE kf vf D)) :: k2) (ev x) (m1 ++ (p, .dK (kvE kf vf D)) :: m2))
    (hd : VP td σ F (m1 ++ (p, .dK (kvE kf vf D)) :: m2) (.ref p)) (ha : EvD K ta σ F (m1 ++ (p, .dK (kvE kf vf D)) :: m2) (ek k) (l1 ++ (p, .dK (kvE kf vf D)) :: l2)) (hm : putM D k x = some D2)
    (q : ∀ F2 H2, Gr F F2 → Sta F2 (l1 ++ (p, .dK (kvE kf vf D2)) :: l2) H2 → nx σ H2) : sDPut td ta te ⟨nx, rt, bk, ct⟩ σ H :=
  h F H .rfl s _ fun v F2 H2 g2 s2 hv => hd F2 H2 g2 s2 _ (ha F2 H2 g2 s2 _ fun y F3 H3 g3 s3 hy => by
    obtain ⟨hl, rfl⟩ := putM_some hm
    refine ⟨p, _, rfl, ?_, q F3 _ (g2.tr g3) (s3.putAt (o' := .dK (kvE kf vf (putKV D k x))))⟩
    rw [hk.v K F3 y k hy, hw F2 v x hv, ← put_kv hk.inj]
    exact DPut.k s3.getAt (by unfold kvE; rw [List.length_map]; exact szl hl))
/-- .. for a new name -/
theorem s_setDict {i : Nat} {σ' : Addr → St} (s : Sta F cs H) (hσ : ∀ p, σ.set i (some (.ref p)) = σ' p) (q : ∀ p H2, Sta F ((p, .dK (kvE kf vf [])) :: cs) H2 → nx (σ' p) H2) : tAsg tDNewK (gName i) ⟨nx, rt, bk, ct⟩ σ H := fun p hp => by
  show nx (σ.set i (some (.ref p))) _
  rw [hσ]
  exact q p _ (s.cell hp)
end
/-! what no tuple is, cut out -/
def nTup (o : HO) : Prop := ∀ xs, o ≠ .tup xs ∧ ∀ ob, o ≠ .frz ob (.tup xs)
theorem nt_d (kvs : List (Key × V)) : nTup (.dK kvs) := fun xs => ⟨fun z => (nomatch z), fun _ z => (nomatch z)⟩
theorem nt_l (kvs : List V) : nTup (.lst kvs) := fun xs => ⟨fun z => (nomatch z), fun _ z => (nomatch z)⟩
section
variable {K : PySem.W.Frag} {F F2 : Hp} {p : Addr} {o : HO}
mutual
theorem Dt.cutO (hp : F2 p = some o) (ho : nTup o) : ∀ {v : V} {d : PyData}, Dt K F2 v d → noL d = true → Dt K (cut F2 p) v d
  | _, _, .non, _ => .non
  | _, _, .bl b, _ => .bl b
  | _, _, .int i, _ => .int i
  | _, _, .str x, _ => .str x
  | _, _, .lst h a, n => by simp [noL] at n
  | _, _, .dct h, n => by simp [noL] at n
  | _, _, .tup (a := a) (ds := ds) h k, n => by
    have n' : noLs ds = true := by simpa [noL] using n
    refine .tup ?_ (Dts.cutO hp ho k n')
    rcases h with (h | ⟨ob, h⟩) | h
    · refine .inl (.inl ?_)
      rw [cut_ne (fun z => by rw [z, hp] at h; exact (ho _).1 (Option.some.inj h))]; exact h
    · refine .inl (.inr ⟨ob, ?_⟩)
      rw [cut_ne (fun z => by rw [z, hp] at h; exact (ho _).2 ob (Option.some.inj h))]; exact h
    · exact .inr h
theorem Dts.cutO (hp : F2 p = some o) (ho : nTup o) : ∀ {vs : List V} {ds : List PyData}, Dts K F2 vs ds → noLs ds = true → Dts K (cut F2 p) vs ds
  | _, _, .nil, _ => .nil
  | _, _, .cons h t, n => by
    rw [noLs, Bool.and_eq_true] at n
    exact .cons (Dt.cutO hp ho h n.1) (Dts.cutO hp ho t n.2)
end
end
section
variable {K : PySem.W.Frag} {σ : St} {F F' : Hp} {cs cs1 cs2 cs3 : Cs} {ta tb tc te : TE} {d e : PyData} {as : TA}
theorem d_lendO {l1 l2 m1 m2 : Cs} {p : Addr} {o : HO} (ho : nTup o) (hn : noL d = true) (h : ∀ F1, Gr F F1 → F1 p = none → EvD K te σ (upd F1 p o) (l1 ++ l2) d (m1 ++ m2)) : EvD K te σ F (l1 ++ (p, o) :: l2) d (m1 ++ (p, o) :: m2) := fun F1 H1 g1 s Q q => by
  refine h F1 g1 s.freeAt (upd F1 p o) H1 .rfl s.frozeAt Q fun v F2 H2 g2 s2 h2 => ?_
  exact q v (cut F2 p) H2 (gr_cut s.freeAt g2) (Sta.lent g2 s2) (h2.cutO (g2 p _ upd_same) ho hn)
theorem c_lendO {l1 l2 m1 m2 : Cs} {p : Addr} {o : HO} {ds : List PyData} (ho : nTup o) (hn : noLs ds = true) (h : ∀ F1, Gr F F1 → F1 p = none → EvC K te σ (upd F1 p o) (l1 ++ l2) ds (m1 ++ m2)) : EvC K te σ F (l1 ++ (p, o) :: l2) ds (m1 ++ (p, o) :: m2) := fun F1 H1 g1 s Q q => by
  refine h F1 g1 s.freeAt (upd F1 p o) H1 .rfl s.frozeAt Q fun a vs F2 H2 g2 s2 h2 => ?_
  exact q a vs (cut F2 p) H2 (gr_cut s.freeAt g2) (Sta.lent (l1 := (a, .lst vs) :: m1) g2 s2) (h2.cutO (g2 p _ upd_same) ho hn)
theorem sb_drop2 {z c : Addr × HO} : Sb (z :: c :: cs) (z :: cs) := Sb.tr (sb_perm (.swap c z cs)) sb_drop
/-- xs.insert(i, x), a cell -/
def insM {α : Type} (xs : List α) (i : Int) (x : α) : Option (List α) := if xs.length < 100000 ∧ 0 ≤ i ∧ i < 2 ^ 63 then some (xs.take i.toNat ++ [x] ++ xs.drop i.toNat) else none
abbrev rInsert : V → List V → Hp → VK → Prop := fun x vs H Q => ∃ (l : Addr) (xs : List V) (i : Int) (y : V), x = .ref l ∧ vs = [.int i, y] ∧ H l = some (.lst xs) ∧ xs.length < sizeLine ∧ 0 ≤ i ∧ i < 2 ^ 63 ∧ Q .non (upd H l (.lst (xs.take i.toNat ++ [y] ++ xs.drop i.toNat)))
theorem s_insFV {α : Type} {vf : α → V} {en : α → PyData} {k1 k2 m1 m2 l1 l2 : Cs} {to ti : TE} {p : Addr} {xs ys : List α} {x : α} {k : Int} {nx bk ct : St → Hp → Prop} {rt : VK} {H : Hp} (hw : ∀ F v x, Dt K F v (en x) → v = vf x) (s : Sta F (k1 ++ (p, .lst (xs.map vf)) :: k2) H) (hi : VP to σ F (k1 ++ (p, .lst (xs.map vf)) :: k2) (.ref p))
    (h1 : EvD K ti σ F (k1 ++ (p, .lst (xs.map vf)) :: k2) (.int k) (m1 ++ (p, .lst (xs.map vf)) :: m2)) (h : EvD K te σ F (m1 ++ (p, .lst (xs.map vf)) :: m2) (en x) (l1 ++ (p, .lst (xs.map vf)) :: l2)) (hm : insM xs k x = some ys)
    (q : ∀ F2 H2, Gr F F2 → Sta F2 (l1 ++ (p, .lst (ys.map vf)) :: l2) H2 → nx σ H2) : tDrop (tBM K "list" rInsert to (tCons ti (tCons te tNil))) ⟨nx, rt, bk, ct⟩ σ H := by
  unfold insM at hm; split at hm
  · rename_i hl
    cases hm
    refine hi F H .rfl s _ ⟨.inl ⟨rfl, _, .inl (.inl s.getAt)⟩, h1 F H .rfl s _ fun v F2 H2 g2 s2 hv => h F2 H2 g2 s2 _ fun w F3 H3 g3 s3 hx => ⟨p, xs.map vf, k, w, rfl, by rw [hv.toInt], s3.getAt, by rw [List.length_map]; exact szl hl.1, hl.2.1, hl.2.2, q F3 _ (g2.tr g3) ?_⟩⟩
    cases hw F3 w x hx
    rw [List.map_append, List.map_append, List.map_take, List.map_drop]
    exact s3.putAt
  · cases hm
end
end Bw

namespace Bw
open PySem L2
theorem eqE_OI : EqE (eO eI) := fun x y => by
  cases x <;> cases y <;> simp [eO, PyData.eqv]
  exact beq_dec _ _
theorem eqE_OS : EqE (eO eS) := fun x y => by
  cases x <;> cases y <;> simp [eO, PyData.eqv]
  exact beq_dec _ _
theorem eqE_OB : EqE (eO eB) := fun x y => by
  cases x <;> cases y <;> simp [eO, PyData.eqv]
  exact beq_dec _ _
theorem sh_OI : ShE 0 (eO eI) := fun x => by cases x <;> exact ⟨by simp [eO, PyData.canLay0], by simp [eO, PyData.depth]⟩
theorem sh_OB : ShE 0 (eO eB) := fun x => by cases x <;> exact ⟨by simp [eO, PyData.canLay0], by simp [eO, PyData.depth]⟩
section
variable {K : PySem.W.Frag} {σ : St} {F F' : Hp} {cs cs1 cs2 cs3 : Cs} {ta tb tc te : TE} {d e : PyData} {as : TA} {nx bk ct : St → Hp → Prop} {rt : VK} {H : Hp}
theorem sqT_cut {p a : Addr} {o : HO} {xs : List V} (hp : F p = some o) (ho : nTup o) (h : SqT K F a xs) : SqT K (cut F p) a xs := by
  rcases h with (h | ⟨ob, h⟩) | h
  · refine .inl (.inl ?_)
    rw [cut_ne (fun z => by rw [z, hp] at h; exact (ho _).1 (Option.some.inj h))]; exact h
  · refine .inl (.inr ⟨ob, ?_⟩)
    rw [cut_ne (fun z => by rw [z, hp] at h; exact (ho _).2 ob (Option.some.inj h))]; exact h
  · exact .inr h
theorem i_tupM {α : Type} {en : α → PyData} {xs : List α} (h : EvD K te σ F cs (.tuple (xs.map en)) cs1) : EvI K (iTup K te) σ F cs (xs.map en) cs1 := i_tup h
/-- xs.pop(k), nothing kept -/
theorem s_popFD {α : Type} {vf : α → V} {k1 k2 l1 l2 : Cs} {to : TE} {p : Addr} {xs ys : List α} {x : α} {ti : TE} {k : Int} (s : Sta F (k1 ++ (p, .lst (xs.map vf)) :: k2) H) (hi : VP to σ F (k1 ++ (p, .lst (xs.map vf)) :: k2) (.ref p))
    (h2 : EvD K ti σ F (k1 ++ (p, .lst (xs.map vf)) :: k2) (.int k) (l1 ++ (p, .lst (xs.map vf)) :: l2)) (hm : popM xs k = some (x, ys)) (q : ∀ F2 H2, Gr F F2 → Sta F2 (l1 ++ (p, .lst (ys.map vf)) :: l2) H2 → nx σ H2) : tDrop (tBM K "list" rPopAt to (tCons ti tNil)) ⟨nx, rt, bk, ct⟩ σ H := by
  obtain ⟨⟨a1, a2⟩, m, b1, b2, rfl⟩ := popM_some hm
  refine hi F H .rfl s _ ⟨.inl ⟨rfl, _, .inl (.inl s.getAt)⟩, h2 F H .rfl s _ fun w F3 H3 g3 s3 hw => ⟨p, xs.map vf, k, m, vf x, rfl, by cases hw.toInt; rfl, s3.getAt, a1, a2, by rw [List.length_map]; exact b1, by rw [List.getElem?_map, b2]; rfl, ?_⟩⟩
  have s4 := s3.putAt (o' := .lst ((xs.map vf).eraseIdx m))
  refine q F3 _ g3 ?_
  rw [er_map]; exact s4
theorem Dts.erase : ∀ {vs : List V} {ds : List PyData} (n : Nat), Dts K F vs ds → Dts K F (vs.eraseIdx n) (ds.eraseIdx n)
  | _, _, _, .nil => .nil
  | _, _, 0, .cons _ t => t
  | _, _, n + 1, .cons h t => .cons h (Dts.erase n t)
theorem s_popGD {α : Type} {en : α → PyData} {k1 k2 l1 l2 : Cs} {to : TE} {p : Addr} {vs : List V} {xs ys : List α} {x : α} {ti : TE} {k : Int} (s : Sta F (k1 ++ (p, .lst vs) :: k2) H) (hf : Dts K F vs (xs.map en)) (hi : VP to σ F (k1 ++ (p, .lst vs) :: k2) (.ref p))
    (h2 : EvD K ti σ F (k1 ++ (p, .lst vs) :: k2) (.int k) (l1 ++ (p, .lst vs) :: l2)) (hm : popM xs k = some (x, ys)) (q : ∀ us F2 H2, Gr F F2 → Sta F2 (l1 ++ (p, .lst us) :: l2) H2 → Dts K F2 us (ys.map en) → nx σ H2) : tDrop (tBM K "list" rPopAt to (tCons ti tNil)) ⟨nx, rt, bk, ct⟩ σ H := by
  obtain ⟨⟨a1, a2⟩, m, b1, b2, rfl⟩ := popM_some hm
  have hl : vs.length = xs.length := by rw [hf.len, List.length_map]
  have hm' : m < vs.length := by rw [hl]; exact (List.getElem?_eq_some_iff.mp b2).1
  refine hi F H .rfl s _ ⟨.inl ⟨rfl, _, .inl (.inl s.getAt)⟩, h2 F H .rfl s _ fun w F3 H3 g3 s3 hw => ⟨p, vs, k, m, vs[m], rfl, by cases hw.toInt; rfl, s3.getAt, a1, a2, by rw [hl]; exact b1, List.getElem?_eq_getElem hm', ?_⟩⟩
  refine q _ F3 _ g3 (s3.putAt (o' := .lst (vs.eraseIdx m))) ?_
  rw [er_map]
  exact Dts.erase m (hf.gr g3)
end
end Bw

namespace Bw
open PySem PySem.Calls PyProof.Rows PySem.W
/-! list(zip(a, b)) -/
/-- the pairs told so far, each in a tuple of its own -/
structure ZG (xs ys : Array Value) (lo : Addr) (h : Heap) (as : List Addr) : Prop where
  rise : as.Pairwise (· < ·)
  above : ∀ a ∈ as, lo < a
  pairs : ∀ (j : Nat) (a : Addr), as[j]? = some a → ∃ x y, xs[j]? = some x ∧ ys[j]? = some y ∧ h.get? a = some { cls := .type "tuple", data := .seq #[x, y] }
theorem ZG.there {xs ys : Array Value} {lo : Addr} {h : Heap} {as : List Addr} (g : ZG xs ys lo h as) {a : Addr} (ha : a ∈ as) : a < h.objs.size := by
  obtain ⟨j, hj⟩ := List.mem_iff_getElem?.mp ha
  obtain ⟨_, _, _, _, e⟩ := g.pairs j a hj
  exact Heap.lt_size e
structure ZSt (h : Heap) (z TI TO i1 i2 l1 l2 S : Addr) (i : Nat) : Prop where
  ti : IsPair h TI (.ref i1) (.ref i2)
  it1 : h.IsListIter i1 l1 i
  it2 : h.IsListIter i2 l2 i
  out : (IsZip h z TI TO .none ∧ ∃ x y, IsPair h TO x y) ∨ ∃ T f oT, IsZipHeld h z TI TO T f ∧ h.get? T = some oT ∧ T ≠ z ∧ T ≠ i1 ∧ T ≠ i2 ∧ T ≠ S
theorem ZSt.keep {h h' : Heap} {z TI TO i1 i2 l1 l2 S : Addr} {i : Nat} (st : ZSt h z TI TO i1 i2 l1 l2 S i) (k : ∀ b o, b ≠ S → h.get? b = some o → h'.get? b = some o)
    (n1 : TI ≠ S) (n2 : i1 ≠ S) (n3 : i2 ≠ S) (n4 : z ≠ S) (n5 : TO ≠ S) : ZSt h' z TI TO i1 i2 l1 l2 S i where
  ti := k _ _ n1 st.ti
  it1 := st.it1.at fun o e => k _ o n2 e
  it2 := st.it2.at fun o e => k _ o n3 e
  out := by
    rcases st.out with ⟨a, x, y, b⟩ | ⟨T, f, oT, a, b, c1, c2, c3, c4⟩
    · exact .inl ⟨k _ _ n4 a, x, y, k _ _ n5 b⟩
    · exact .inr ⟨T, f, oT, k _ _ n4 a, k _ _ c4 b, c1, c2, c3, c4⟩
section
variable {prog : Program} {w : World} {A : Around} {E : Value → Shared → Prop} {s : Shared} {z TI TO i1 i2 l1 l2 S : Addr} {xs ys : Array Value}
theorem zl_item {i : Nat} {x y : Value} {Q : Option Value → Shared → Prop} (D : ZipApart z TI TO i1 i2 l1 l2) (st : ZSt s.heap z TI TO i1 i2 l1 l2 S i) (hS : S < s.heap.objs.size) (hl1 : s.heap.IsList l1 xs) (hl2 : s.heap.IsList l2 ys)
    (hx : xs[i]? = some x) (hy : ys[i]? = some y)
    (hQ : ∀ h', ZSt h' z TI TO i1 i2 l1 l2 S (i + 1) → IsPair h' s.heap.objs.size x y → h'.objs.size = s.heap.objs.size + 1 →
      (∀ c o, c ≠ z → c ≠ TO → c ≠ i1 → c ≠ i2 → s.heap.get? c = some o → h'.get? c = some o) → Q (some (.ref s.heap.objs.size)) { s with heap := h' }) : wpAny (model prog w) A (pyNext (.ref z)) Q E s := by
  have li1 : i1 < s.heap.objs.size := let ⟨_, e, _⟩ := st.it1; Heap.lt_size e
  have li2 : i2 < s.heap.objs.size := let ⟨_, e, _⟩ := st.it2; Heap.lt_size e
  rcases st.out with ⟨hz, a, b, hTO⟩ | ⟨T, f, oT, hz, hT, c1, c2, c3, c4⟩
  · have lz : z < s.heap.objs.size := Heap.lt_size hz
    exact wpAny_pyNext_zip_item D hz st.ti hTO st.it1 st.it2 hl1 hl2 hx hy fun h' hz' _ h1' h2' hp hsz hk =>
      hQ h' ⟨hk _ _ D.TIz D.TITO D.TIi1 D.TIi2 st.ti, h1', h2', .inr ⟨_, false, _, hz', hp, Nat.ne_of_gt lz, Nat.ne_of_gt li1, Nat.ne_of_gt li2, Nat.ne_of_gt hS⟩⟩ hp hsz hk
  · exact wpAny_pyNext_zip_item_held D hz hT st.ti st.it1 st.it2 hl1 hl2 hx hy fun h' hz' h1' h2' hp hsz hk =>
      hQ h' ⟨hk _ _ D.TIz D.TIi1 D.TIi2 st.ti, h1', h2', .inr ⟨T, true, oT, hz', hk _ _ c1 c2 c3 hT, c1, c2, c3, c4⟩⟩ hp hsz fun c o q1 _ q3 q4 e => hk c o q1 q3 q4 e
theorem zl_done {i : Nat} {Q : Option Value → Shared → Prop} (hh : A.handled = none) (D : ZipApart z TI TO i1 i2 l1 l2) (st : ZSt s.heap z TI TO i1 i2 l1 l2 S i) (hl1 : s.heap.IsList l1 xs) (hl2 : s.heap.IsList l2 ys)
    (hend : xs[i]? = none ∨ ys[i]? = none)
    (hQ : ∀ h', (∀ c o, c ≠ z → c ≠ TO → c ≠ i1 → c ≠ i2 → s.heap.get? c = some o → h'.get? c = some o) → Q none { s with heap := h' }) : wpAny (model prog w) A (pyNext (.ref z)) Q E s := by
  rcases st.out with ⟨hz, a, b, hTO⟩ | ⟨T, f, oT, hz, hT, c1, c2, c3, c4⟩
  · exact wpAny_pyNext_zip_end hh D hz st.ti hTO st.it1 st.it2 hl1 hl2 hend hQ
  · exact wpAny_pyNext_zip_end_held hh D hz hT st.ti st.it1 st.it2 hl1 hl2 hend fun h' hk => hQ h' fun c o q1 _ q3 q4 e => hk c o q1 q3 q4 e
end
section
variable {prog : Program} {w : World} {A : Around} {s : Shared} {R : Result → Shared → Prop} {z TI TO i1 i2 l1 l2 S : Addr} {xs ys : Array Value}
theorem zl_loop (hh : A.handled = none) (D : ZipApart z TI TO i1 i2 l1 l2) (nz : z < S) (nTI : TI < S) (nTO : TO < S) (n1 : i1 < S) (n2 : i2 < S) (nl1 : l1 < S) (nl2 : l2 < S) (hn : min xs.size ys.size ≤ sizeLine) (res : Value) {h₁ : Heap}
    (hR : ∀ h' tk acc c as, (∀ b o, b ≠ S → b ≠ z → b ≠ TO → b ≠ i1 → b ≠ i2 → h₁.get? b = some o → h'.get? b = some o) → h'.get? S = some { cls := .type "list", dict := none, data := .seq acc c, slots := #[] } → as.length = min xs.size ys.size →
      ZG xs ys S h' as → acc.toList = as.map Value.ref → R (.ok (.ret res)) { s with heap := h', toks := tk }) :
    ∀ (k i : Nat) (h : Heap) (tk c : Nat) (acc : Array Value) (as : List Addr), min xs.size ys.size - i = k → i ≤ min xs.size ys.size → ZSt h z TI TO i1 i2 l1 l2 S i → h.IsList l1 xs → h.IsList l2 ys →
      (∀ b o, b ≠ S → b ≠ z → b ≠ TO → b ≠ i1 → b ≠ i2 → h₁.get? b = some o → h.get? b = some o) →
      h.get? S = some { cls := .type "list", dict := none, data := .seq acc c, slots := #[] } → acc.toList = as.map Value.ref → as.length = i → ZG xs ys S h as →
      codeAny (model prog w) A (.builtin "list.extend.loop" ⟨[.ref S, .ref z, res], []⟩) R { s with heap := h, toks := tk } := by
  have a1 : S ≠ z := Nat.ne_of_gt nz
  have a2 : S ≠ TO := Nat.ne_of_gt nTO
  have a3 : S ≠ i1 := Nat.ne_of_gt n1
  have a4 : S ≠ i2 := Nat.ne_of_gt n2
  have gt : ∀ {b : Addr}, S < b → b ≠ S ∧ b ≠ z ∧ b ≠ TO ∧ b ≠ i1 ∧ b ≠ i2 := fun {b} hb => ⟨Nat.ne_of_gt hb, Nat.ne_of_gt (Nat.lt_trans nz hb), Nat.ne_of_gt (Nat.lt_trans nTO hb), Nat.ne_of_gt (Nat.lt_trans n1 hb), Nat.ne_of_gt (Nat.lt_trans n2 hb)⟩
  intro k
  induction k with
  | zero =>
    intro i h tk c acc as hk hi st hl1 hl2 hkeep hS hacc hal hG
    have hin : i = min xs.size ys.size := by omega
    refine codeAny_builtin PySem.F.entry_extend_loop ?_
    rw [Around.under_plainId PySem.F.plain_extend_loop _]
    show wpAny _ A.in1 (pyNext (.ref z) >>= _) _ _ _
    have hend : xs[i]? = none ∨ ys[i]? = none := by
      by_cases q : xs.size ≤ i
      · exact .inl (Array.getElem?_eq_none q)
      · exact .inr (Array.getElem?_eq_none (by omega))
    refine wpAny_bind (zl_done (s := { s with heap := h, toks := tk }) (A := A.in1) hh D st hl1 hl2 hend fun h' he => ?_)
    refine wpAny_pure (hR h' tk acc c as (fun b o q0 q1 q2 q3 q4 e => he b o q1 q2 q3 q4 (hkeep b o q0 q1 q2 q3 q4 e)) (he S _ a1 a2 a3 a4 hS) (by omega) ⟨hG.rise, hG.above, fun j a hj => ?_⟩ hacc)
    obtain ⟨x, y, e1, e2, e3⟩ := hG.pairs j a hj
    obtain ⟨_, q1, q2, q3, q4⟩ := gt (hG.above a (List.mem_of_getElem? hj))
    exact ⟨x, y, e1, e2, he a _ q1 q2 q3 q4 e3⟩
  | succ k ih =>
    intro i h tk c acc as hk hi st hl1 hl2 hkeep hS hacc hal hG
    have hlt : i < min xs.size ys.size := by omega
    have hx : xs[i]? = some xs[i] := Array.getElem?_eq_getElem (by omega)
    have hy : ys[i]? = some ys[i] := Array.getElem?_eq_getElem (by omega)
    generalize xs[i] = x at hx
    generalize ys[i] = y at hy
    have hsz : acc.size = i := by rw [← Array.length_toList, hacc, List.length_map, hal]
    refine codeAny_builtin PySem.F.entry_extend_loop ?_
    rw [Around.under_plainId PySem.F.plain_extend_loop _]
    show wpAny _ A.in1 (pyNext (.ref z) >>= _) _ _ _
    refine wpAny_bind (zl_item (s := { s with heap := h, toks := tk }) (S := S) D st (Heap.lt_size hS) hl1 hl2 hx hy fun h' st' ht hz hkp => ?_)
    dsimp only at ht hz hkp ⊢
    have hS' := hkp S _ a1 a2 a3 a4 hS
    have up : ∀ b o, b ≠ S → h'.get? b = some o → (h'.update S (Obj.mapSeq (·.push (Value.ref h.objs.size)))).get? b = some o := fun b o hb e => (Heap.get?_update_other _ _ (Ne.symm hb)).trans e
    have hSl : S < h.objs.size := Heap.lt_size hS
    show wpAny _ A.in1 (updateSeq S (·.push (Value.ref h.objs.size)) >>= _) _ _ _
    refine wpAny_bind ?_
    refine wpAny_updateSeq hS' rfl (wpAny_pure ⟨plainId_quiet PySem.F.plain_extend_loop _, ih (i + 1) _ tk _ (acc.push (Value.ref h.objs.size)) (as ++ [h.objs.size]) (by omega) hlt
      (st'.keep up (Nat.ne_of_lt nTI) (Nat.ne_of_lt n1) (Nat.ne_of_lt n2) (Nat.ne_of_lt nz) (Nat.ne_of_lt nTO)) (hl1.at fun o e => up l1 o (Nat.ne_of_lt nl1) (hkp l1 o D.l1z D.l1TO D.l1i1 D.l1i2 e)) (hl2.at fun o e => up l2 o (Nat.ne_of_lt nl2) (hkp l2 o D.l2z D.l2TO D.l2i1 D.l2i2 e))
      (fun b o q0 q1 q2 q3 q4 e => up b o q0 (hkp b o q1 q2 q3 q4 (hkeep b o q0 q1 q2 q3 q4 e))) (Heap.get?_update_self _ hS' rfl) (by rw [Array.toList_push, hacc, List.map_append]; rfl) (by rw [List.length_append, hal]; rfl) ⟨?_, ?_, ?_⟩⟩) (by rw [hsz]; omega) (by show (acc.push (Value.ref h.objs.size)).size ≤ sizeLine + 1; rw [Array.size_push, hsz]; omega)
    · refine List.pairwise_append.mpr ⟨hG.rise, List.pairwise_singleton _ _, fun a ha b hb => ?_⟩
      rw [List.mem_singleton.mp hb]
      exact hG.there ha
    · intro a ha
      rcases List.mem_append.mp ha with ha | ha
      · exact hG.above a ha
      · rw [List.mem_singleton.mp ha]; exact hSl
    · intro j b hj
      rcases Nat.lt_trichotomy j as.length with h1 | h1 | h1
      · rw [List.getElem?_append_left h1] at hj
        obtain ⟨x', y', e1, e2, e3⟩ := hG.pairs j b hj
        obtain ⟨q0, q1, q2, q3, q4⟩ := gt (hG.above b (List.mem_of_getElem? hj))
        exact ⟨x', y', e1, e2, up b _ q0 (hkp b _ q1 q2 q3 q4 e3)⟩
      · subst h1
        have hb : h.objs.size = b := by simpa using hj
        subst hb
        subst hal
        exact ⟨x, y, hx, hy, up _ _ (Nat.ne_of_gt hSl) ht⟩
      · have hnone : (as ++ [h.objs.size])[j]? = none := List.getElem?_eq_none (by rw [List.length_append, List.length_singleton]; omega)
        rw [hnone] at hj; cases hj
end
theorem zl_len : typeLookup (.type "zip") "__len__" = pure none := by rw [typeLookup_type, builtinLookup_eq_fast]; kernel_rfl
theorem zl_hin : typeLookup (.type "zip") "__length_hint__" = pure none := by rw [typeLookup_type, builtinLookup_eq_fast]; kernel_rfl
section
variable {prog : Program} {w : World} {A : Around} {E : Value → Shared → Prop} {s : Shared} {z TI TO i1 i2 l1 l2 S : Addr} {xs ys : Array Value}
theorem zl_hint {r : Addr} {Q : Bool → Shared → Prop} (hT : s.TypeIs (.ref r) "zip") (h : Q true s) : wpAny (model prog w) A (Builtin.List.listLengthHint (.ref r)) Q E s := by
  unfold Builtin.List.listLengthHint
  refine wpAny_bind (wpAny_specialOf hT zl_len ?_)
  refine wpAny_ite_split (fun hab => absurd hab (by decide)) (fun _ => ?_)
  refine wpAny_ite_split (fun hab => absurd hab (by decide)) (fun _ => ?_)
  refine wpAny_bind (wpAny_specialOf hT zl_hin ?_)
  exact wpAny_pure h
theorem zl_extend {R : Result → Shared → Prop} (hh : A.handled = none) (D : ZipApart z TI TO i1 i2 l1 l2) (st : ZSt s.heap z TI TO i1 i2 l1 l2 S 0) (hl1 : s.heap.IsList l1 xs) (hl2 : s.heap.IsList l2 ys)
    (nz : z < S) (nTI : TI < S) (nTO : TO < S) (n1 : i1 < S) (n2 : i2 < S) (nl1 : l1 < S) (nl2 : l2 < S) (hz : IsZip s.heap z TI TO .none) (res : Value) (c₀ : Nat) (hS : s.heap.get? S = some { cls := .type "list", data := .seq #[] c₀ })
    (hR : ∀ h' tk acc c as, (∀ b o, b ≠ S → b ≠ z → b ≠ TO → b ≠ i1 → b ≠ i2 → s.heap.get? b = some o → h'.get? b = some o) → h'.get? S = some { cls := .type "list", dict := none, data := .seq acc c, slots := #[] } → as.length = min xs.size ys.size →
      ZG xs ys S h' as → acc.toList = as.map Value.ref → R (.ok (.ret res)) { s with heap := h', toks := tk }) (hn : min xs.size ys.size ≤ sizeLine) :
    wpAny (model prog w) A.in1 (Builtin.List.listExtendWith (.ref S) (.ref z) res)
      (fun fin s' => match fin with | .done f => R (.ok f) s' | .again c' => c'.quiet = true ∧ codeAny (model prog w) A c' R s') (fun e s' => R (.error e) s') s := by
  have hT : s.TypeIs (.ref z) "zip" := ⟨_, hz, rfl⟩
  have key : ∀ (h : Heap) (c₁ tk : Nat), (∀ b o, b ≠ S → s.heap.get? b = some o → h.get? b = some o) →
      h.get? S = some { cls := .type "list", data := .seq #[] c₁ } → codeAny (model prog w) A (.builtin "list.extend.loop" ⟨[.ref S, .ref z, res], []⟩) R { s with heap := h, toks := tk } := by
    intro h c₁ tk hk hS₁
    exact zl_loop (s := s) (h₁ := s.heap) hh D nz nTI nTO n1 n2 nl1 nl2 hn res hR (min xs.size ys.size) 0 h tk c₁ #[] [] (Nat.sub_zero _) (Nat.zero_le _)
      (st.keep hk (Nat.ne_of_lt nTI) (Nat.ne_of_lt n1) (Nat.ne_of_lt n2) (Nat.ne_of_lt nz) (Nat.ne_of_lt nTO)) (hl1.at fun o e => hk _ o (Nat.ne_of_lt nl1) e) (hl2.at fun o e => hk _ o (Nat.ne_of_lt nl2) e)
      (fun b o hb _ _ _ _ e => hk b o hb e) hS₁ rfl rfl ⟨List.Pairwise.nil, (fun _ ha => nomatch ha), (fun j a hj => by simp at hj)⟩
  unfold Builtin.List.listExtendWith
  refine wpAny_bind (wpAny_typeOf (T := "zip") hT ?_)
  have h1 : Builtin.List.listSameRef (.ref S) (.ref z) = false := by simp [Builtin.List.listSameRef, Nat.ne_of_gt nz]
  have h2 : (Value.type "zip" == Value.type "list") = false := by decide
  have h3 : (Value.type "zip" == Value.type "tuple") = false := by decide
  simp only [h1, h2, h3, Bool.or_false, Bool.false_eq_true, if_false]
  refine wpAny_bind (wpAny_pyIter_zip hz ?_)
  refine wpAny_bind (wpAny_holding (zl_hint hT ?_))
  refine wpAny_ite_split (fun _ => ?_) (fun hab => absurd rfl hab)
  refine wpAny_bind (wpAny_rule ?_)
  refine wpAny_bind ?_
  show wpAny _ _ (updateSeq S (·.push .none) >>= fun _ => updateSeq S (·.pop)) _ _ _
  refine wpAny_bind (wpAny_updateSeq hS rfl ?_)
  have hS₂ := Heap.get?_update_self (Obj.mapSeq (·.push Value.none)) hS rfl
  refine wpAny_updateSeq (hz := by seq_fits) hS₂ rfl ?_
  have hS₃ := Heap.get?_update_self (Obj.mapSeq (·.pop)) hS₂ rfl
  refine wpAny_pure ⟨plainId_quiet PySem.F.plain_extend_loop _, key _ _ _ (fun b o hb e => ?_) hS₃⟩
  exact (Heap.get?_update_other _ _ (Ne.symm hb)).trans ((Heap.get?_update_other _ _ (Ne.symm hb)).trans e)
theorem zl_init {R : Result → Shared → Prop} (hh : A.handled = none) (D : ZipApart z TI TO i1 i2 l1 l2) (st : ZSt s.heap z TI TO i1 i2 l1 l2 S 0) (hl1 : s.heap.IsList l1 xs) (hl2 : s.heap.IsList l2 ys)
    (nz : z < S) (nTI : TI < S) (nTO : TO < S) (n1 : i1 < S) (n2 : i2 < S) (nl1 : l1 < S) (nl2 : l2 < S) (hz : IsZip s.heap z TI TO .none) (hS : s.heap.get? S = some { cls := .type "list", data := .seq #[] })
    (hR : ∀ h' tk acc c as, (∀ b o, b ≠ S → b ≠ z → b ≠ TO → b ≠ i1 → b ≠ i2 → s.heap.get? b = some o → h'.get? b = some o) → h'.get? S = some { cls := .type "list", dict := none, data := .seq acc c, slots := #[] } → as.length = min xs.size ys.size →
      ZG xs ys S h' as → acc.toList = as.map Value.ref → R (.ok (.ret .none)) { s with heap := h', toks := tk }) (hn : min xs.size ys.size ≤ sizeLine) :
    wpAny (model prog w) A.in1 (Builtin.«list.__init__» ⟨[.ref S, .ref z], []⟩)
      (fun fin s' => match fin with | .done f => R (.ok f) s' | .again c' => c'.quiet = true ∧ codeAny (model prog w) A c' R s') (fun e s' => R (.error e) s') s := by
  show wpAny _ _ (do let old ← Builtin.List.listItems (.ref S); Builtin.List.listUpdate (.ref S) (fun _ => #[]); letGo old.toList.reverse; Builtin.List.listExtendWith (.ref S) (.ref z) .none) _ _ s
  refine wpAny_bind ?_
  unfold Builtin.List.listItems
  refine wpAny_bind (wpAny_seqItems hS rfl (wpAny_pure ?_))
  show wpAny _ _ (updateSeq S (fun _ => #[]) >>= fun _ => letGo (#[] : Array Value).toList.reverse >>= fun _ => Builtin.List.listExtendWith (.ref S) (.ref z) .none) _ _ s
  refine wpAny_bind (wpAny_updateSeq hS rfl ?_)
  have hS₂ := Heap.get?_update_self (Obj.mapSeq (fun _ => (#[] : Array Value))) hS rfl
  have oth : ∀ b o, b ≠ S → s.heap.get? b = some o → (s.heap.update S (Obj.mapSeq (fun _ => (#[] : Array Value)))).get? b = some o :=
    fun b o hb e => (Heap.get?_update_other _ _ (Ne.symm hb)).trans e
  refine wpAny_bind (wpAny_letGo ?_)
  refine zl_extend hh D (st.keep oth (Nat.ne_of_lt nTI) (Nat.ne_of_lt n1) (Nat.ne_of_lt n2) (Nat.ne_of_lt nz) (Nat.ne_of_lt nTO)) (hl1.at fun o e => oth _ o (Nat.ne_of_lt nl1) e) (hl2.at fun o e => oth _ o (Nat.ne_of_lt nl2) e)
    nz nTI nTO n1 n2 nl1 nl2 (oth _ _ (Nat.ne_of_lt nz) hz) .none _ hS₂ (fun h' tk acc c as hk hS' hl hG hacc => ?_) hn
  exact hR h' tk acc c as (fun b o q0 q1 q2 q3 q4 e => hk b o q0 q1 q2 q3 q4 (oth b o q0 e)) hS' hl hG hacc
theorem zl_call {Q : Value → Shared → Prop} {a b : Value} (hh : A.handled = none) (D : ZipApart z TI TO i1 i2 l1 l2) (hz : IsZip s.heap z TI TO .none) (hTI : IsPair s.heap TI (.ref i1) (.ref i2)) (hTO : IsPair s.heap TO a b) (h1 : s.heap.IsListIter i1 l1 0) (h2 : s.heap.IsListIter i2 l2 0)
    (hl1 : s.heap.IsList l1 xs) (hl2 : s.heap.IsList l2 ys) (hn : min xs.size ys.size ≤ sizeLine)
    (hQ : ∀ h' tk acc c as, (∀ b o, b ≠ z → b ≠ TO → b ≠ i1 → b ≠ i2 → s.heap.get? b = some o → h'.get? b = some o) → h'.get? s.heap.objs.size = some { cls := .type "list", dict := none, data := .seq acc c, slots := #[] } → as.length = min xs.size ys.size →
      ZG xs ys s.heap.objs.size h' as → acc.toList = as.map Value.ref → Q (.ref s.heap.objs.size) { s with heap := h', toks := tk }) :
    wpAny (model prog w) A (call (.type "list") [.ref z]) Q E s := by
  refine callType_codes (Q₁ := fun obj s₁ => obj = .ref s.heap.objs.size ∧ s₁ = { s with heap := s.heap.push { cls := .type "list", data := .seq #[] } }) PySem.F.called_list (PySem.F.typeCall_list_1 _) PySem.F.entry_list_init
    (code_list_new _ ⟨rfl, rfl⟩) fun obj s₁ h₁ => ?_
  obtain ⟨rfl, rfl⟩ := h₁
  have hS : (s.heap.push { cls := .type "list", data := .seq #[] }).get? s.heap.objs.size = some { cls := .type "list", data := .seq #[] } := Heap.get?_push_size _ rfl
  have pk : ∀ b o, s.heap.get? b = some o → (s.heap.push { cls := .type "list", data := .seq #[] }).get? b = some o := fun b o e => Heap.get?_push_of_some _ e
  have li1 : i1 < s.heap.objs.size := let ⟨_, e, _⟩ := h1; Heap.lt_size e
  have li2 : i2 < s.heap.objs.size := let ⟨_, e, _⟩ := h2; Heap.lt_size e
  have ll1 : l1 < s.heap.objs.size := let ⟨_, e, _⟩ := hl1; Heap.lt_size e
  have ll2 : l2 < s.heap.objs.size := let ⟨_, e, _⟩ := hl2; Heap.lt_size e
  refine ⟨⟨_, hS, rfl⟩, PySem.F.args_list_init_2 _ _, zl_init (A := A.in1) hh D ⟨pk _ _ hTI, h1.at fun o e => pk _ o e, h2.at fun o e => pk _ o e, .inl ⟨pk _ _ hz, _, _, pk _ _ hTO⟩⟩ (hl1.at fun o e => pk _ o e) (hl2.at fun o e => pk _ o e)
    (Heap.lt_size hz) (Heap.lt_size hTI) (Heap.lt_size hTO) li1 li2 ll1 ll2 (pk _ _ hz) hS (fun h' tk acc c as hk hS' hl hG hacc => ?_) hn⟩
  exact ⟨rfl, hQ h' tk acc c as (fun b o q1 q2 q3 q4 e => hk b o (Nat.ne_of_lt (Heap.lt_size e)) q1 q2 q3 q4 (Heap.get?_push_of_some _ e)) hS' hl hG hacc⟩
end
end Bw
namespace Bw
open PySem L2
/-! the laid pairs -/
def layT : Hp → List (V × V) → List Addr → Hp
  | H, p :: ps, t :: ts => layT (upd H t (.tup [p.1, p.2])) ps ts
  | H, _, _ => H
def freT : Hp → List (V × V) → List Addr → Prop
  | H, p :: ps, t :: ts => H t = none ∧ freT (upd H t (.tup [p.1, p.2])) ps ts
  | _, [], [] => True
  | _, _, _ => False
theorem layT_ne : ∀ (ts : List Addr) (ps : List (V × V)) (H : Hp) (b : Addr), b ∉ ts → layT H ps ts b = H b
  | [], [], _, _, _ => rfl
  | [], _ :: _, _, _, _ => rfl
  | _ :: _, [], _, _, _ => rfl
  | t :: ts, p :: ps, H, b, h => by
    show layT (upd H t _) ps ts b = _
    have n : b ≠ t := fun q => h (by rw [q]; exact List.mem_cons_self)
    rw [layT_ne ts ps _ b fun q => h (List.mem_cons_of_mem _ q), upd_ne n]
theorem freT_of : ∀ (ts : List Addr) (ps : List (V × V)) (H : Hp), ts.length = ps.length → ts.Nodup → (∀ t ∈ ts, H t = none) → freT H ps ts
  | [], [], _, _, _, _ => trivial
  | [], _ :: _, _, h, _, _ => by simp at h
  | _ :: _, [], _, h, _, _ => by simp at h
  | t :: ts, p :: ps, H, hl, nd, hn => by
    rw [List.nodup_cons] at nd
    refine ⟨hn t List.mem_cons_self, freT_of ts ps _ (by simpa using hl) nd.2 fun u hu => ?_⟩
    have n : u ≠ t := fun q => nd.1 (by rw [← q]; exact hu)
    rw [upd_ne n]
    exact hn u (List.mem_cons_of_mem _ hu)
theorem layT_at : ∀ (ts : List Addr) (ps : List (V × V)) (H : Hp) (j : Nat) (t : Addr) (p : V × V), ts.Nodup → ts[j]? = some t → ps[j]? = some p → layT H ps ts t = some (.tup [p.1, p.2])
  | [], _, _, _, _, _, _, h, _ => by simp at h
  | _ :: _, [], _, _, _, _, _, _, h => by simp at h
  | u :: ts, q :: ps, H, j, t, p, nd, h1, h2 => by
    rw [List.nodup_cons] at nd
    show layT (upd H u _) ps ts t = _
    cases j with
    | zero =>
      simp only [List.getElem?_cons_zero, Option.some.injEq] at h1 h2
      subst h1; subst h2
      rw [layT_ne ts ps _ _ nd.1, upd_same]
    | succ j => exact layT_at ts ps _ j t p nd.2 (by simpa using h1) (by simpa using h2)
def tListZip (K : PySem.W.Frag) (ta : TA) : TE := fun σ H Q => ta σ H fun vs H1 => ∃ a b xs ys, vs = [.ref a, .ref b] ∧ SqL K H1 a xs ∧ SqL K H1 b ys ∧
  ∀ (ts : List Addr) (l : Addr), freT H1 (xs.zip ys) ts → layT H1 (xs.zip ys) ts l = none → Q (.ref l) (upd (layT H1 (xs.zip ys) ts) l (.lst (ts.map V.ref)))
/-- many things laid at once -/
theorem inv_many {X : Cx} {pins : List (Addr × Obj)} {σ : St} {H H' : Hp} {s : Shared} {h' : Heap} {t' : Nat} (I : Inv X pins σ H s) (k : ∀ b u, s.heap.get? b = some u → h'.get? b = some u)
    (same : ∀ b, b < s.heap.objs.size → H' b = H b) (new : ∀ b o, s.heap.objs.size ≤ b → H' b = some o → ObjOk X.prog X.w H' h' b o) : Inv X pins σ H' { s with heap := h', toks := t' } := by
  refine I.un ⟨fun b o e _ _ _ => k b o e, fun b o e _ _ _ => ⟨o.slots, k b o e⟩, fun b o e n _ => (same b (Heap.lt_size e)).trans n, fun b o e _ => ⟨o, k b o e⟩, fun b xs e => (same b (I.hok.lt e)).trans e, fun b o u e => (same b (I.hok.lt e)).trans e, fun b ps e => ⟨#[], by rw [same b (I.hok.lt e), e]; simp⟩⟩ fun b o e => ?_
  by_cases q : b < s.heap.objs.size
  · rw [same b q] at e
    exact (I.hok b o e).stay (fun c u _ z => k c u z) (fun c z => (same c (I.hok.lt z)).trans z) fun c xs z => (same c (I.hok.lt z)).trans z
  · exact new b o (Nat.le_of_not_lt q) e
theorem vals_refs : ∀ as : List Addr, Vals (as.map V.ref) (as.map Value.ref)
  | [] => .nil
  | _ :: as => .cons rfl (vals_refs as)
section
variable {X : Cx} {e e2 : Expr} {ta : TA} {p p0 pos pos0 : Pos}
theorem pe_listzip (hg0 : Gl X "list") (hm0 : X.mg "list" = none) (hg : Gl X "zip") (hm : X.mg "zip" = none) (ha : PA X [e, e2] ta) (hc : X.calm = true)
    (hs : starEach [e, e2] X.env = (false, eval e X.env) :: starEach [e2] X.env := by rfl) (hpl : (backTo pos (starEach [e2] X.env)).any (·.1) = false := by rfl) :
    PE X (.Call (.Name "list" p0) [.Call (.Name "zip" p) [e, e2] [] pos] [] pos0) (tListZip X.K ta) := by
  refine ⟨fun pins s σ H Q I h => ?_⟩
  refine wpAny_Call_Name_kw (ld_blt I hg0 hm0 PyProof.Rows.boot_list ?_)
  refine PyProof.Rows.callWith_type1 (Calls.spliced_cons ?_) rfl rfl
  refine PyProof.Rows.Call_ (ld_blt I hg hm PyProof.Rows.boot_zip (PyProof.Rows.callWith_type1 (thn (ha.run pos pins s σ H _ I h) fun us s1 ⟨vs, H1, I1, r1, q1⟩ => ?_) hs hpl))
  obtain ⟨a, b, xs, ys, ex, hqx, hqy, q⟩ := q1
  subst ex
  cases r1 with
  | cons r rr =>
    cases rr with
    | cons r' rr =>
      cases rr
      cases r
      cases r'
      obtain ⟨its, rv, p1, z1⟩ := I1.list hqx
      obtain ⟨its2, rv2, p2, z2⟩ := I1.list hqy
      have la : a < s1.heap.objs.size := p1.lt
      have lb : b < s1.heap.objs.size := p2.lt
      have e1 := rv.length
      have e2 := rv2.length
      refine call_zip_2 p1.isList p2.isList fun h' hz hTI hTO h1 h2 hsz hk => ?_
      refine Calls.spliced_nil ?_
      refine zl_call (s := { s1 with heap := h' }) (xs := its.toArray) (ys := its2.toArray) (I.ok.hd hc) (PySem.W.ktu_apart s1.heap.objs.size a b la lb) hz hTI hTO h1 h2 (p1.isList.at fun o x => hk _ o x) (p2.isList.at fun o x => hk _ o x) (by simp only [List.size_toArray]; omega) fun h'' tk acc c as hk2 hl hlen hG hacc => ?_
      dsimp only at hl hlen hG ⊢
      have keep : ∀ b o, s1.heap.get? b = some o → h''.get? b = some o := fun b o x => by
        have bl : b < s1.heap.objs.size := Heap.lt_size x
        have up : ∀ k : Nat, b ≠ s1.heap.objs.size + k := fun k => Nat.ne_of_lt (Nat.lt_of_lt_of_le bl (Nat.le_add_right _ _))
        exact hk2 b o (up 4) (up 3) (up 0) (up 1) (hk b o x)
      have sz' : s1.heap.objs.size ≤ h'.objs.size := by rw [hsz]; exact Nat.le_add_right _ _
      have nd : as.Nodup := hG.rise.imp fun hab => Nat.ne_of_lt hab
      have hab : ∀ t ∈ as, s1.heap.objs.size + 5 < t := fun t ht => hsz ▸ hG.above t ht
      have zl : (xs.zip ys).length = as.length := by rw [List.length_zip, hlen]; simp only [List.size_toArray]; omega
      have nl : h'.objs.size ∉ as := fun hm => Nat.lt_irrefl _ (hG.above _ hm)
      have fr : ∀ t ∈ as, H1 t = none := fun t ht => I1.hok.fresh (Nat.le_of_lt (Nat.lt_of_le_of_lt (Nat.le_add_right _ 5) (hab t ht)))
      have ln : layT H1 (xs.zip ys) as h'.objs.size = none := by rw [layT_ne _ _ _ _ nl]; exact I1.hok.fresh sz'
      have I2 : Inv X pins σ (upd (layT H1 (xs.zip ys) as) h'.objs.size (.lst (as.map V.ref))) { s1 with heap := h'', toks := tk } := by
        refine inv_many I1 keep (fun b hb => ?_) fun b o hb ho => ?_
        · rw [upd_ne (Nat.ne_of_lt (Nat.lt_of_lt_of_le hb sz')), layT_ne _ _ _ _ fun hm => Nat.lt_irrefl _ (Nat.lt_trans (Nat.lt_of_lt_of_le hb (Nat.le_add_right _ 5)) (hab b hm))]
        · by_cases q1 : b = h'.objs.size
          · subst q1
            rw [upd_same] at ho
            cases ho
            refine ⟨by rw [List.length_map, ← zl, List.length_zip]; omega, acc.toList, c, ?_, by rw [Array.toArray_toList]; exact hl⟩
            rw [hacc]
            exact vals_refs as
          · rw [upd_ne q1] at ho
            by_cases q2 : b ∈ as
            · obtain ⟨j, hj⟩ := List.mem_iff_getElem?.mp q2
              have hjl : j < as.length := (List.getElem?_eq_some_iff.mp hj).1
              have hjz : (xs.zip ys)[j]? = some (xs.zip ys)[j] := List.getElem?_eq_getElem (by omega)
              have hat := layT_at as (xs.zip ys) H1 j b _ nd hj hjz
              rw [hat] at ho
              cases ho
              obtain ⟨x, y, x1, y1, hT⟩ := hG.pairs j b hj
              have hx : xs[j]? = some (xs.zip ys)[j].1 := by
                rw [List.getElem_zip]; exact List.getElem?_eq_getElem _
              have hy : ys[j]? = some (xs.zip ys)[j].2 := by
                rw [List.getElem_zip]; exact List.getElem?_eq_getElem _
              obtain ⟨u, hu1, ru⟩ := rv.get hx
              obtain ⟨u2, hu2, ru2⟩ := rv2.get hy
              have x1' : its[j]? = some x := by simpa using x1
              have y1' : its2[j]? = some y := by simpa using y1
              rw [hu1] at x1'; cases x1'
              rw [hu2] at y1'; cases y1'
              exact ⟨by show 2 ≤ sizeLine; decide, [_, _], .cons ru (.cons ru2 .nil), ⟨_, hT, rfl, _, rfl⟩⟩
            · rw [layT_ne _ _ _ _ q2, I1.hok.fresh hb] at ho
              cases ho
      exact ⟨.ref h'.objs.size, _, I2, rfl, q as _ (freT_of _ _ _ zl.symm nd fr) ln⟩
end
section
variable {K : PySem.W.Frag} {σ : St} {F : Hp} {cs cs1 : Cs} {as : TA}
theorem lay_sta : ∀ (vs ws : List V) (ds es : List PyData) (ts : List Addr) (F H : Hp), Sta F cs H → freT H (vs.zip ws) ts → Dts K F vs ds → Dts K F ws es → ∃ F', Gr F F' ∧ Sta F' cs (layT H (vs.zip ws) ts) ∧ Dts K F' (ts.map V.ref) (List.zipWith (fun d e => PyData.tuple [d, e]) ds es)
  | [], _, _, _, ts, F, H, s, f, h1, h2 => by
    cases h1
    cases ts with
    | nil => exact ⟨F, Gr.rfl, s, .nil⟩
    | cons t ts => exact absurd f id
  | _ :: _, [], _, _, ts, F, H, s, f, h1, h2 => by
    cases h1
    cases h2
    cases ts with
    | nil => exact ⟨F, Gr.rfl, s, .nil⟩
    | cons t ts => exact absurd f id
  | v :: vs, w :: ws, _, _, ts, F, H, s, f, h1, h2 => by
    cases h1 with
    | cons a1 b1 =>
      cases h2 with
      | cons a2 b2 =>
        cases ts with
        | nil => exact absurd f id
        | cons t ts =>
          obtain ⟨nt, f⟩ := f
          have g0 : Gr F (upd F t (.tup [v, w])) := Gr.new (s.fr.back nt)
          obtain ⟨F', g, s', d⟩ := lay_sta vs ws _ _ ts _ _ (s.lay nt) f (b1.gr g0) (b2.gr g0)
          exact ⟨F', g0.tr g, s', .cons (.tup (.inl (.inl (g _ _ upd_same))) (.cons (a1.gr (g0.tr g)) (.cons (a2.gr (g0.tr g)) .nil))) d⟩
theorem c_listzip {α β : Type} {en : α → PyData} {em : β → PyData} {xs : List α} {ys : List β} (h : EvDs K as σ F cs [eL en xs, eL em ys] cs1) : EvC K (tListZip K as) σ F cs ((xs.zip ys).map (eT2 en em)) cs1 := fun F1 H1 g1 s Q q =>
  h F1 H1 g1 s _ fun v F2 H2 g2 s2 h2 => by
    obtain ⟨v, w, rfl, k1, k2⟩ := h2.two
    obtain ⟨p, vs, rfl, hs, hd⟩ := k1.toLst
    obtain ⟨p', ws, rfl, hs', hd'⟩ := k2.toLst
    refine ⟨p, p', vs, ws, rfl, gr_L s2.fr hs, gr_L s2.fr hs', fun ts l f nl => ?_⟩
    obtain ⟨F3, g3, s3, d3⟩ := lay_sta vs ws _ _ ts F2 H2 s2 f hd hd'
    rw [zip_map] at d3
    exact q l _ F3 _ (g2.tr g3) (s3.cell nl) d3
end
end Bw

namespace Bw
open PySem L2
/-! sorted, of ints -/
def insI (x : Int) : List Int → List Int
  | [] => [x]
  | y :: ys => if x ≤ y then x :: y :: ys else y :: insI x ys
def srtI : List Int → List Int
  | [] => []
  | x :: xs => insI x (srtI xs)
theorem insI_perm (x : Int) : ∀ ys, (insI x ys).Perm (x :: ys)
  | [] => List.Perm.refl _
  | y :: ys => by
    unfold insI
    split
    · exact List.Perm.refl _
    · exact ((insI_perm x ys).cons y).trans (List.Perm.swap x y ys)
theorem srtI_perm : ∀ xs, (srtI xs).Perm xs
  | [] => List.Perm.refl _
  | x :: xs => (insI_perm x _).trans ((srtI_perm xs).cons x)
theorem insI_sort (x : Int) : ∀ ys, ys.Pairwise (· ≤ ·) → (insI x ys).Pairwise (· ≤ ·)
  | [], _ => List.pairwise_singleton _ _
  | y :: ys, h => by
    rw [List.pairwise_cons] at h
    unfold insI
    split
    · rename_i q
      rw [List.pairwise_cons]
      exact ⟨fun z hz => by rcases List.mem_cons.mp hz with rfl | hz; (exact q); (exact Int.le_trans q (h.1 z hz)), List.pairwise_cons.mpr h⟩
    · rename_i q
      rw [List.pairwise_cons]
      refine ⟨fun z hz => ?_, insI_sort x ys h.2⟩
      rcases List.mem_cons.mp ((insI_perm x ys).mem_iff.mp hz) with rfl | hz
      · omega
      · exact h.1 z hz
theorem srtI_sort : ∀ xs, (srtI xs).Pairwise (· ≤ ·)
  | [] => List.Pairwise.nil
  | x :: xs => insI_sort x _ (srtI_sort xs)
theorem sort_uniq : ∀ (xs ys : List Int), xs.Perm ys → xs.Pairwise (· ≤ ·) → ys.Pairwise (· ≤ ·) → xs = ys
  | [], ys, p, _, _ => (List.Perm.nil_eq p)
  | x :: xs, [], p, _, _ => by have := p.length_eq; simp at this
  | x :: xs, y :: ys, p, h1, h2 => by
    rw [List.pairwise_cons] at h1 h2
    have e : x = y := by
      have hx : x ∈ y :: ys := p.mem_iff.mp List.mem_cons_self
      have hy : y ∈ x :: xs := p.mem_iff.mpr List.mem_cons_self
      rcases List.mem_cons.mp hx with e | hx
      · exact e
      · rcases List.mem_cons.mp hy with e | hy
        · exact e.symm
        · have := h1.1 y hy; have := h2.1 x hx; omega
    subst e
    rw [sort_uniq xs ys (List.Perm.cons_inv p) h1.2 h2.2]
section
variable {K : PySem.W.Frag} {σ : St} {F : Hp} {cs cs1 : Cs} {as : TA}
theorem c_sortedI {xs : List Int} (h : EvDs K as σ F cs [eL eI xs] cs1) : EvC K (tCB (rSortedI K) as) σ F cs ((srtI xs).map eI) cs1 := fun F1 H1 g1 s Q q =>
  h F1 H1 g1 s _ fun v F2 H2 g2 s2 h2 => by
    obtain ⟨v, rfl, k1⟩ := h2.one
    obtain ⟨p, vs, rfl, hs, hd⟩ := k1.toLst
    have := hd.ints
    subst this
    refine ⟨p, xs, rfl, gr_L s2.fr hs, fun ns' l pr so nl => ?_⟩
    rw [sort_uniq ns' (srtI xs) (pr.trans (srtI_perm xs).symm) so (srtI_sort xs)]
    exact q l _ F2 _ g2 (s2.cell nl) (Dts.of_ints _)
theorem d_sortedI {xs : List Int} (h : EvDs K as σ F cs [eL eI xs] cs1) : EvD K (tCB (rSortedI K) as) σ F cs (eL eI (srtI xs)) cs1 := (c_sortedI h).dd
/-- max, min of a list -/
def maxL : List Int → Option Int
  | [] => none
  | x :: xs => some (xs.foldl max x)
def minL : List Int → Option Int
  | [] => none
  | x :: xs => some (xs.foldl min x)
theorem foldl_max : ∀ (xs : List Int) (x : Int), (xs.foldl max x = x ∨ xs.foldl max x ∈ xs) ∧ x ≤ xs.foldl max x ∧ ∀ y ∈ xs, y ≤ xs.foldl max x
  | [], x => ⟨.inl rfl, Int.le_refl _, fun y hy => by cases hy⟩
  | z :: xs, x => by
    obtain ⟨h1, h2, h3⟩ := foldl_max xs (max x z)
    rw [List.foldl_cons]
    refine ⟨?_, by omega, fun y hy => ?_⟩
    · rcases h1 with h1 | h1
      · rw [h1]
        by_cases q : z ≤ x
        · left; omega
        · right; have : max x z = z := by omega
          rw [this]; exact List.mem_cons_self
      · exact .inr (List.mem_cons_of_mem _ h1)
    · rcases List.mem_cons.mp hy with rfl | hy
      · omega
      · exact h3 y hy
theorem foldl_min : ∀ (xs : List Int) (x : Int), (xs.foldl min x = x ∨ xs.foldl min x ∈ xs) ∧ xs.foldl min x ≤ x ∧ ∀ y ∈ xs, xs.foldl min x ≤ y
  | [], x => ⟨.inl rfl, Int.le_refl _, fun y hy => by cases hy⟩
  | z :: xs, x => by
    obtain ⟨h1, h2, h3⟩ := foldl_min xs (min x z)
    rw [List.foldl_cons]
    refine ⟨?_, by omega, fun y hy => ?_⟩
    · rcases h1 with h1 | h1
      · rw [h1]
        by_cases q : x ≤ z
        · left; omega
        · right; have : min x z = z := by omega
          rw [this]; exact List.mem_cons_self
      · exact .inr (List.mem_cons_of_mem _ h1)
    · rcases List.mem_cons.mp hy with rfl | hy
      · omega
      · exact h3 y hy
theorem d_maxL {xs : List Int} {m : Int} (h : EvDs K as σ F cs [eL eI xs] cs1) (hm : maxL xs = some m) : EvD K (tCB (rMax K) as) σ F cs (.int m) cs1 := fun F1 H1 g1 s Q q =>
  h F1 H1 g1 s _ fun v F2 H2 g2 s2 h2 => by
    obtain ⟨v, rfl, k1⟩ := h2.one
    obtain ⟨p, vs, rfl, hs, hd⟩ := k1.toLst
    have := hd.ints
    subst this
    cases xs with
    | nil => cases hm
    | cons x xs =>
      cases hm
      obtain ⟨a1, a2, a3⟩ := foldl_max xs x
      refine ⟨p, x :: xs, rfl, gr_L s2.fr hs, by simp, fun m hm hle => ?_⟩
      have e : m = xs.foldl max x := by
        have b1 : xs.foldl max x ≤ m := by
          rcases a1 with e | e
          · rw [e]; exact hle x List.mem_cons_self
          · exact hle _ (List.mem_cons_of_mem _ e)
        have b2 : m ≤ xs.foldl max x := by
          rcases List.mem_cons.mp hm with rfl | hm
          · exact a2
          · exact a3 m hm
        omega
      rw [e]
      exact q _ F2 H2 g2 s2 (.int _)
theorem d_minL {xs : List Int} {m : Int} (h : EvDs K as σ F cs [eL eI xs] cs1) (hm : minL xs = some m) : EvD K (tCB (rMin K) as) σ F cs (.int m) cs1 := fun F1 H1 g1 s Q q =>
  h F1 H1 g1 s _ fun v F2 H2 g2 s2 h2 => by
    obtain ⟨v, rfl, k1⟩ := h2.one
    obtain ⟨p, vs, rfl, hs, hd⟩ := k1.toLst
    have := hd.ints
    subst this
    cases xs with
    | nil => cases hm
    | cons x xs =>
      cases hm
      obtain ⟨a1, a2, a3⟩ := foldl_min xs x
      refine ⟨p, x :: xs, rfl, gr_L s2.fr hs, by simp, fun m hm hle => ?_⟩
      have e : m = xs.foldl min x := by
        have b1 : m ≤ xs.foldl min x := by
          rcases a1 with e | e
          · rw [e]; exact hle x List.mem_cons_self
          · exact hle _ (List.mem_cons_of_mem _ e)
        have b2 : xs.foldl min x ≤ m := by
          rcases List.mem_cons.mp hm with rfl | hm
          · exact a2
          · exact a3 m hm
        omega
      rw [e]
      exact q _ F2 H2 g2 s2 (.int _)
end
end Bw
namespace Bw
open PySem L2
section
variable {K : PySem.W.Frag} {σ : St} {F : Hp} {cs cs1 cs2 : Cs} {ta tb : TE} {b : Int}
theorem d_ixTH {α : Type} {e : α → PyData} {xs : List α} {z : α} (ha : EvD K ta σ F cs (.tuple (xs.map e)) cs1) (hb : EvD K tb σ F cs1 (.int b) cs2) (hz : atI xs b = some z) : EvD K (tOp (rIxT K) ta tb) σ F cs (e z) cs2 :=
  d_ixT ha hb (by rw [atI_map, hz]; rfl)
theorem dts_D {α : Type} {e : α → PyData} {xs : List α} {us : List V} (h : Dts K F us (xs.map e)) : Dts K F us ((xs.map e).map eD) := by
  have : (xs.map e).map eD = xs.map e := by rw [List.map_map]; rfl
  rw [this]; exact h
end
end Bw
namespace Bw
open PySem L2
section
variable {K : PySem.W.Frag} {F : Hp}
def tup2M {α : Type} : List α → Option (α × α)
  | [a, b] => some (a, b)
  | _ => none
def tup3M {α : Type} : List α → Option (α × α × α)
  | [a, b, c] => some (a, b, c)
  | _ => none
theorem tup2M_eq {α : Type} {xs : List α} {p : α × α} (h : tup2M xs = some p) : xs = [p.1, p.2] := by
  unfold tup2M at h; split at h
  · cases h; rfl
  · cases h
theorem tup3M_eq {α : Type} {xs : List α} {p : α × α × α} (h : tup3M xs = some p) : xs = [p.1, p.2.1, p.2.2] := by
  unfold tup3M at h; split at h
  · cases h; rfl
  · cases h
theorem ul2 {v : V} {d1 d2 : PyData} (h : Dt K F v (.list [d1, d2])) : ∃ p v1 v2, v = .ref p ∧ SqL K F p [v1, v2] ∧ Dt K F v1 d1 ∧ Dt K F v2 d2 := by
  obtain ⟨p, vs, rfl, h1, h2⟩ := h.toLst
  obtain ⟨v1, v2, rfl, k1, k2⟩ := h2.two
  exact ⟨p, v1, v2, rfl, h1, k1, k2⟩
theorem ul3 {v : V} {d1 d2 d3 : PyData} (h : Dt K F v (.list [d1, d2, d3])) : ∃ p v1 v2 v3, v = .ref p ∧ SqL K F p [v1, v2, v3] ∧ Dt K F v1 d1 ∧ Dt K F v2 d2 ∧ Dt K F v3 d3 := by
  obtain ⟨p, vs, rfl, h1, h2⟩ := h.toLst
  cases h2 with
  | cons a1 h2 =>
    obtain ⟨v2, v3, rfl, k2, k3⟩ := h2.two
    exact ⟨p, _, v2, v3, rfl, h1, a1, k2, k3⟩
end
end Bw

namespace Bw
open PySem L2
/-! exceptions that are kept -/
/-- an exception of the class at C, its dict at d (none: it has none), at a -/
def ExK (C : Addr) (d : Option Addr) (a : Addr) : HO := .ext fun h => ∃ (oe : Obj) (vs : Array Value), h.get? a = some oe ∧ oe.cls = .ref C ∧ oe.dict = d ∧ oe.data = .fields vs
def DOk (H : Hp) (d : Option Addr) : Prop := match d with
  | none => True
  | some dd => ∃ fs, H dd = some (.xd fs)
theorem exK_ok {P : Program} {w : World} {H : Hp} {h : Heap} {a C : Addr} {dd : Option Addr} {oe : Obj} {vs : Array Value} (e : h.get? a = some oe) (c : oe.cls = .ref C) (d : oe.dict = dd) (hd : oe.data = .fields vs) : ObjOk P w H h a (ExK C dd a) :=
  ⟨⟨oe, vs, e, c, d, hd⟩, ⟨oe, e⟩, fun _ _ ⟨o, v, q, r⟩ k => ⟨o, v, k o q, r⟩⟩
/-- what is known of an exception class -/
def ExC (K : PySem.W.Frag) (C : Addr) : Bool := (PySem.W.clsIn K C).isSome && PySem.W.findIn K (.ref C) "__getattribute__" == some (some (.builtin "BaseException.__getattribute__")) && (PySem.W.findIn K (.ref C) "__getattr__").isSome &&
  PySem.W.subIn K (.ref C) (.type "BaseException") == some true && PySem.W.findIn K (.ref C) "__class__" == some (some (.builtin "object.__class__")) && PySem.W.specialIn K (.builtin "object.__class__") "__get__" == some (some (.builtin "getset_descriptor.__get__")) &&
  PySem.W.takesIn K (.builtin "object.__class__") == some true && PySem.W.mroIn K C (.type "object") == some true
theorem kit_ex {K : PySem.W.Frag} {C x : Addr} {ox : Obj} {od : Option Obj} (h : ExC K C = true) : PySem.W.KitX K (.ref x) (.ref C) (fun h => PySem.W.InstAt h x ox C od) := by
  unfold ExC at h
  simp only [Bool.and_eq_true, beq_iff_eq] at h
  obtain ⟨⟨⟨⟨⟨⟨⟨h1, h2⟩, h3⟩, h4⟩, h5⟩, h6⟩, h7⟩, h8⟩ := h
  obtain ⟨gt, h3⟩ := Option.isSome_iff_exists.mp h3
  exact PySem.W.kitx_exc h1 h2 h3 h4 h5 h6 h7 h8
def rIsiE (K : PySem.W.Frag) : List V → Hp → VK → Prop := fun xs H Q => ∃ (a C : Addr) (d : Option Addr) (c : V) (u : Value) (b : Bool), xs = [.ref a, c] ∧ ClsV c u ∧ H a = some (ExK C d a) ∧ DOk H d ∧ ExC K C = true ∧ PySem.W.kitOne K (.ref C) u = some b ∧ Q (.bl b) H
def rIsiTE (K : PySem.W.Frag) : List V → Hp → VK → Prop := fun xs H Q => ∃ (a C : Addr) (d : Option Addr) (tp : Addr) (cs : List V) (us : List Value) (b : Bool), xs = [.ref a, .ref tp] ∧ H tp = some (.tup cs) ∧ Paired ClsV cs us ∧ H a = some (ExK C d a) ∧ DOk H d ∧ ExC K C = true ∧ PySem.W.kitAny K (.ref C) us = some b ∧ Q (.bl b) H
section
variable {X : Cx}
theorem exK_at {pins : List (Addr × Obj)} {σ : St} {H : Hp} {s : Shared} {a C : Addr} {d : Option Addr} (I : Inv X pins σ H s) (h : H a = some (ExK C d a)) (hx : DOk H d) : ∃ oe od, PySem.W.InstAt s.heap a oe C od := by
  have x : ObjOk X.prog X.w H s.heap a (.ext fun h => ∃ (oe : Obj) (vs : Array Value), h.get? a = some oe ∧ oe.cls = .ref C ∧ oe.dict = d ∧ oe.data = .fields vs) := I.hok a _ h
  obtain ⟨⟨oe, vs, e, c, dd, hd⟩, _⟩ := x
  obtain ⟨oc, od, dt, sl⟩ := oe
  dsimp only at c dd hd
  subst c dd hd
  cases od with
  | none => exact ⟨_, none, e, rfl, rfl, trivial⟩
  | some z =>
    obtain ⟨fs, hz⟩ := hx
    obtain ⟨mA, hns, hr⟩ := (show ObjOk X.prog X.w H s.heap z (.xd fs) from I.hok z _ hz)
    obtain ⟨oz, ho, hl⟩ := lookIn_ns hns
    exact ⟨_, some oz, e, rfl, rfl, ho⟩
theorem cr_isiE : CallR X (.builtin "isinstance") (rIsiE X.K) := by
  intro pins s σ H xs us Q I r h
  obtain ⟨a, C, d, c, u, b, rfl, k, ha, hd, hC, e, q⟩ := h
  obtain ⟨u1, u2, rfl, r1, r2⟩ := vals2 r
  have e2 := k.eq r2
  subst e2
  cases (show u1 = Value.ref a from r1)
  obtain ⟨oe, od, J⟩ := exK_at I ha hd
  exact PySem.W.kia_one (kit_ex (ox := oe) (od := od) hC) I.kIn J e (fun z => nomatch z) fun tk => ⟨.bl b, H, I.tok tk, rfl, q⟩
theorem cr_isiTE : CallR X (.builtin "isinstance") (rIsiTE X.K) := by
  intro pins s σ H xs us Q I r h
  obtain ⟨a, C, d, tp, cs, ws, b, rfl, hT, k, ha, hd, hC, e, q⟩ := h
  obtain ⟨u1, u2, rfl, r1, r2⟩ := vals2 r
  cases (show u2 = Value.ref tp from r2)
  cases (show u1 = Value.ref a from r1)
  obtain ⟨oe, od, J⟩ := exK_at I ha hd
  obtain ⟨_, its, rv, o, h1, h2, n, h3⟩ := (show ObjOk X.prog X.w H s.heap tp (.tup cs) from I.hok tp _ hT)
  have e3 := ClsV.all k rv
  subst e3
  obtain ⟨oc, od', dt, sl⟩ := o
  simp only at h2 h3
  subst h2 h3
  exact PySem.W.kia_tup (kit_ex (ox := oe) (od := od) hC) I.kIn J h1 e (fun z => nomatch z) fun tk => ⟨.bl b, H, I.tok tk, rfl, q⟩
/-- an object that was not tracked is tracked from now on -/
theorem inv_track {pins : List (Addr × Obj)} {σ : St} {H : Hp} {s : Shared} {a : Addr} {o : HO} {oe : Obj} {vs : Array Value} (I : Inv X pins σ H s) (na : H a = none) (e : s.heap.get? a = some oe) (hd : oe.data = .fields vs) (nL : a ≠ X.env.locals)
    (n0 : X.s_0.heap.get? a = none) (np : ∀ p ∈ X.pn ++ pins, p.1 ≠ a) (new : ObjOk X.prog X.w (upd H a o) s.heap a o) : Inv X pins σ (upd H a o) s := by
  have ne : ∀ b u, H b = some u → b ≠ a := fun b u q z => by rw [z, na] at q; cases q
  refine ⟨I.ok, I.os, I.bare, ⟨I.base.keep, I.base.slot, fun b ob q n hx => ?_, I.base.there, fun b xs q => ?_, fun b ob u q => ?_, fun b ps q => ?_⟩, I.loc, I.cell, ?_, fun x c q => ?_, fun p hp => ?_, fun b u q => ?_, I.len⟩
  · have : b ≠ a := fun z => by rw [z, n0] at q; cases q
    rw [upd_ne this]; exact I.base.free b ob q n hx
  · have := I.base.tups b xs q
    rw [upd_ne (ne b _ this)]; exact this
  · have := I.base.frzs b ob u q
    rw [upd_ne (ne b _ this)]; exact this
  · obtain ⟨more, q⟩ := I.base.tbls b ps q
    exact ⟨more, by rw [upd_ne (ne b _ q)]; exact q⟩
  · rw [upd_ne (Ne.symm nL)]; exact I.free
  · have : c ≠ a := fun z => by
      obtain ⟨v, oc, h1, h2⟩ := I.cell x c q
      rw [z, e] at h1
      cases h1
      rw [hd] at h2
      cases h2
    rw [upd_ne this]; exact I.freeC x c q
  · obtain ⟨q1, q2, q3⟩ := I.pin p hp
    exact ⟨q1, by rw [upd_ne (np p hp)]; exact q2, q3⟩
  · by_cases z : b = a
    · subst z; rw [upd_same] at q; cases q; exact new
    · rw [upd_ne z] at q
      exact (I.hok b u q).stay (fun c v _ q => q) (fun c q => by rw [upd_ne (ne c _ q)]; exact q) fun c xs q => by rw [upd_ne (ne c _ q)]; exact q
end
/-- 'except x as n: suite', where what is caught may be kept behind the suite -/
def wKeep (K : PySem.W.Frag) (c : Value) (i : Nat) (ts : Addr → Value → Option Addr → TS) (Wout : WX) (D : Ends) : WX := fun cls d σ H =>
  ∃ b, PySem.W.exmOne K cls c = some b ∧ (b = true → ∃ C, cls = .ref C ∧ ∀ a, H a = none → ts a cls d { nx := fun σ' H' => H' a = none ∧ D.nx (σ'.set i none) (upd H' a (ExK C d a)), rt := fun _ _ => False, bk := fun _ _ => False, ct := fun _ _ => False } (σ.set i (some (.ref a))) H) ∧
    (b = false → Wout cls d σ H)
section
open PySem.Spec PyProof.Rows
variable {X : Cx} {x n : Str} {c : Value} {i : Nat} {body suite : List Stmt} {b₀ : Stmt} {np pos pos' : Pos} {tb : WX → TS} {ts : Addr → Value → Option Addr → TS} {Wout : WX}
theorem ps_try_keep (hs : X.stack = X.env :: X.outer) (hf : X.env.frame = some X.env.locals) (hex : X.ex = []) (hN : X.N.Nodup) (hi : X.N[i]? = some n) (hln : X.env.kindOf n = some .local) (hc : Names X x c) (tk : Takes X Wout)
    (hb : ∀ (W : WX) (pn : List (Addr × Obj)) (xe : Value → Shared → Prop), Takes (X.tr pn xe) W → PassesOwn (model X.prog X.w) X.A X.env xe → PSs (X.tr pn xe) body (tb W))
    (hsu : ∀ (a : Addr) (oe : Obj) (cls : Value) (d : Option Addr) (pn : List (Addr × Obj)), Zc cls d oe → (∃ vs, oe.data = .fields vs) → PSs (X.suite a ((a, oe) :: pn)) (b₀ :: suite) (ts a cls d)) :
    PS X (.Try body [.ExceptHandler (some (.Name x np)) (some n) (b₀ :: suite) pos'] [] [] pos) (fun D σ H => tb (wKeep X.K c i ts Wout D) D σ H) := by
  refine ⟨fun pins s σ H D I h => ?_⟩
  have ok := I.ok
  have hfr : X.A.frames = some (X.env :: X.outer) := by rw [ok.frames, hs]
  have hloc : Loc X.env.scope n := .inl hln
  refine wpAny_Try_except ?_
  refine wpAny_mono ((hb (wKeep X.K c i ts Wout D) (X.pn ++ pins) (fun e s₁ => wpAny (model X.prog X.w) X.A (noteFrame e X.env) (fun _ s₂ => wpAny (model X.prog X.w) X.A (setFlight e none) (fun _ s₃ =>
    wpAny (model X.prog X.w) X.A (handleBy e X.env [.ExceptHandler (some (.Name x np)) (some n) (b₀ :: suite) pos']) (SP X pins D) X.xe s₃) X.xe s₂) X.xe s₁) (fun u s' xx => ?_) PassesOwn.looking).run [] s σ H D (I.toTry _) h) (fun f s1 hsp => ?_) (fun e s1 he => he)
  · obtain ⟨a, B, sI, pins', σ', H', cls, d, rfl, J', nb, up, sky, na, os, ag, b, hb1, hyes, hno⟩ := xx
    have J : Inv X pins σ' H' sI := J'.ofTry ok
    have sky' : Sky B (X.env :: X.outer) a (Zc cls d) X.env.locals s'.heap := by rw [← hs]; exact sky
    show wpAny (model X.prog X.w) X.A (noteFrame (.ref a) X.env) _ _ _
    refine Sky.land Zc.steady hfr hf sky' fun h3 fl3 up3 => ?_
    have J3 : Inv X pins σ' H' { s' with heap := h3 } := J.landed nb fl3.1 (up.trans up3) os ag
    obtain ⟨oe3, vs3, he3, hz3, hd3⟩ := fl3.there
    have hBn : B.get? a = none := fl3.2.1
    have notFr : ∀ {h : Heap} {o : Obj} {vs : Array Value}, h.FunFrames B (X.env :: X.outer) → h.get? a = some o → o.data = .fields vs → a ∉ frs (X.env :: X.outer) := fun {h o vs} ff e dd hm => by
      obtain ⟨_, o', e', hnf⟩ := ff.mem hm
      rw [e] at e'; cases e'
      exact hnf _ dd
    have nfr := notFr fl3.2.2.1 he3 hd3
    have nL : a ≠ X.env.locals := fun z => nfr (List.mem_filterMap.mpr ⟨X.env, List.mem_cons_self, by rw [hf, z]⟩)
    have nF : a ∉ X.fs := fun hm => by
      obtain ⟨e, he, q⟩ := List.mem_filterMap.mp hm
      exact nfr (List.mem_filterMap.mpr ⟨e, List.mem_cons_of_mem _ he, q⟩)
    have nSI : sI.heap.get? a = none := by
      cases q : sI.heap.get? a with
      | none => rfl
      | some o =>
        have := nb a o q (by rw [hs]; exact nfr)
        rw [hBn] at this; cases this
    have n0 : X.s_0.heap.get? a = none := by
      cases q : X.s_0.heap.get? a with
      | none => rfl
      | some o =>
        obtain ⟨o', q'⟩ := J.base.there a o q (by rw [hex]; exact List.not_mem_nil)
        rw [nSI] at q'; cases q'
    have npin : ∀ p ∈ X.pn ++ pins, p.1 ≠ a := fun p hp z => by
      have := (J.pin p hp).1
      rw [z, nSI] at this; cases this
    have S3 := J3.suite he3 hd3 na nL nF
    refine wpAny_handleBy_cons (codeAny_handlers_test ?_) (by intro q; cases q)
    have LT : PySem.W.Looks (model X.prog X.w) h3 (typeOf (.ref a)) cls := fun A Q E s k q => wpAny_typeOf_ref (k _ _ he3) (by rw [hz3.1]; exact q)
    have LM := PySem.W.exm_one (M := model X.prog X.w) (J3.kIn) LT hb1
    have test : ∀ {Q : Value → Shared → Prop} {E : Value → Shared → Prop}, Q c { s' with heap := h3 } → wpAny (model X.prog X.w) (X.A.mark (some (.ref a))) (eval (.Name x np) X.env) Q E { s' with heap := h3 } := fun {Q E} q => by
      obtain ⟨hg, hdbg, hm | ⟨hm, hv, hnn⟩⟩ := hc
      · exact ld_glob (X := X.suite a ((a, oe3) :: (X.pn ++ pins))) S3 hg hm q hdbg
      · exact ld_blt (X := X.suite a ((a, oe3) :: (X.pn ++ pins))) S3 hg hm hv q hnn hdbg
    refine test (LM.here ?_)
    cases b with
    | true =>
      obtain ⟨C, hcls, hyes⟩ := hyes rfl
      refine codeAny_handlers_suite_as ?_
      refine HandSPX.lands_againZ fl3 fun h4 fl4 up4 => ?_
      have J4 : Inv X pins σ' H' { s' with heap := h4 } := J.landed nb fl4.1 ((up.trans up3).trans up4) os ag
      obtain ⟨oe4, vs4, he4, hz4, hd4⟩ := fl4.there
      have S4 := J4.suite he4 hd4 na nL nF
      refine store_ok (X := X.suite a ((a, oe4) :: (X.pn ++ pins))) (v := .ref a) S4 hN hi hloc rfl (fun s5 S5 => ?_) (.inr hln)
      refine wpAny_mono ((hsu a oe4 cls d (X.pn ++ pins) hz4 ⟨_, hd4⟩).run [] s5 _ H' _ S5 (hyes a na)) (fun f s6 hsp => ?_) (fun _ _ z => False.elim z)
      cases f with
      | next =>
        obtain ⟨σ6, H6, S6, na6, q6⟩ := hsp
        refine gone_ok (X := X.suite a ((a, oe4) :: (X.pn ++ pins))) S6 hN hi hln fun s7 S7 => ?_
        have he7 : s7.heap.get? a = some oe4 := (S7.pin (a, oe4) (by simp)).1
        have J7 : Inv X pins (σ6.set i none) H6 s7 := S7.unsuite ok
        exact ⟨_, _, inv_track J7 na6 he7 hd4 nL n0 npin (exK_ok he7 (hz4.1.trans hcls) hz4.2 hd4), q6⟩
      | brk =>
        obtain ⟨σ6, H6, S6, q6⟩ := hsp
        exact False.elim q6
      | cont =>
        obtain ⟨σ6, H6, S6, q6⟩ := hsp
        exact False.elim q6
      | ret u =>
        obtain ⟨v6, σ6, H6, S6, r6, q6⟩ := hsp
        exact False.elim q6
    | false =>
      show wpAny _ X.A (handleBy (.ref a) X.env []) _ _ _
      refine wpAny_handleBy_nil ?_
      obtain ⟨k1, k2, k3, oe, vs, T, oT, ts', he, hz, hd, h1, hr⟩ := id fl3
      unfold PySem.passOn
      refine wpAny_bind (wpAny_field he hd h1 ?_)
      rw [if_neg (show ¬ ((Value.ref T == Value.none) = true) from by simp)]
      have fin : wpAny (model X.prog X.w) X.A (setFlight (.ref a) X.env.frame) (fun _ s4 => wpAny (model X.prog X.w) X.A (throw (.ref a) : Sem Flow) (SP X pins D) X.xe s4) X.xe { s' with heap := h3 } := by
        rw [hf]
        refine HandSPX.setFlight_upZ fl3 fun h4 hh4 up4 => wpAny_throw (tk _ _ ?_)
        exact ⟨a, B, sI, pins, σ', H', cls, d, rfl, J, nb, (up.trans up3).trans up4, .inr (.inr (by rw [hs]; exact hh4)), na, os, ag, hno rfl⟩
      first
        | exact wpAny_bind (wpAny_pure (wpAny_bind fin))
        | exact wpAny_bind fin
  · cases f with
    | next =>
      obtain ⟨σ', H', J', q⟩ := hsp
      exact wpAny_execs_nil ⟨σ', H', J'.ofTry ok, q⟩
    | brk =>
      obtain ⟨σ', H', J', q⟩ := hsp
      exact ⟨σ', H', J'.ofTry ok, q⟩
    | cont =>
      obtain ⟨σ', H', J', q⟩ := hsp
      exact ⟨σ', H', J'.ofTry ok, q⟩
    | ret u =>
      obtain ⟨v, σ', H', J', r, q⟩ := hsp
      exact ⟨v, σ', H', J'.ofTry ok, r, q⟩
end
end Bw

namespace Bw
open PySem L2
/-! what raises -/
/-- a class's name, and what its field holds -/
abbrev Xe := Str × PyData
inductive Rs (β : Type) where
  | ok (y : β)
  | ex (c : Xe)
/-- the field of a class -/
def fld (c : Str) : Option Str := if c = "NoStore" then some "part" else if c = "NoPlan" then some "at" else if c = "NoPaper" then some "at" else none
/-- what d, an exception's dict, holds -/
def Xd (K : PySem.W.Frag) (F : Hp) (e : Xe) (d : Option Addr) : Prop := match fld e.1 with
  | none => d = none
  | some f => ∃ a v, d = some a ∧ F a = some (.xd [(f, v)]) ∧ Dt K F v e.2
theorem Xd.gr {K : PySem.W.Frag} {F F' : Hp} {e : Xe} {d : Option Addr} (g : Gr F F') (h : Xd K F e d) : Xd K F' e d := by
  unfold Xd at h ⊢
  split at h
  · exact h
  · obtain ⟨a, v, h1, h2, h3⟩ := h
    exact ⟨a, v, h1, g _ _ h2, h3.gr g⟩
theorem Xd.ok {K : PySem.W.Frag} {F H : Hp} {e : Xe} {d : Option Addr} (g : Gr F H) (h : Xd K F e d) : DOk H d := by
  unfold Xd at h
  split at h
  · subst h; trivial
  · obtain ⟨a, v, rfl, h2, h3⟩ := h
    exact ⟨_, g _ _ h2⟩
def okM {β : Type} : Rs β → Option β
  | .ok y => some y
  | .ex _ => none
theorem okM_some {β : Type} {r : Rs β} {y : β} (h : okM r = some y) : r = .ok y := by
  cases r with
  | ok z => cases h; rfl
  | ex c => cases h
def Rs.map {α β : Type} (g : α → β) : Rs α → Rs β
  | .ok y => .ok (g y)
  | .ex c => .ex c
/-- a promise that may end by an exception of a class of the program -/
def spPX (K : PySem.W.Frag) {α β : Type} (A : α → List PyData) (B : β → PyData) (f : α → Option (Rs β)) : Sp := fun vs H Q E => ∃ F cs x r, Dts K F vs (A x) ∧ Sta F cs H ∧ f x = some r ∧
  (∀ y, r = .ok y → ∀ v F2 H2, Gr F F2 → Sta F2 cs H2 → Dt K F2 v (B y) → Q v H2) ∧ ∀ c, r = .ex c → ∀ d F2 H2, Gr F F2 → Sta F2 cs H2 → Xd K F2 c d → E (.ref (He.ga K c.1)) d H2
structure OkX (P : Program) (w : World) (K : PySem.W.Frag) (mg : Str → Option Value) (base : Heap) (k : Nat) (x : Str) (ps : List Str) (sp : Sp) : Prop where
  ex : ∃ fd, FnOk P w K mg base (L2.CX P w) k (He.ga K x) fd ps sp ∧ Binds K fd ps [] ∧ Lk K (He.ga K x) fd
  kp : PySem.W.keepIn K (.ref (He.ga K x)) = true
  gm : mg x = some (.ref (He.ga K x))
abbrev XF0 : XK := fun _ _ _ => False
abbrev WF0 : WX := fun _ _ _ _ => False
theorem passF {X : Cx} (σ : St) : PassesAt (L2.CX X.prog X.w) X σ XF0 := fun _ _ _ e s' I c => by
  obtain ⟨a, B, H', cls, d, _, _, _, _, _, _, _, h⟩ := c
  exact False.elim h
section
variable {K : PySem.W.Frag} {σ : St} {F : Hp} {cs cs1 : Cs} {H : Hp} {as : TA} {te : TE} {nx bk ct : St → Hp → Prop} {rt : V → Hp → Prop} {W : WX}
/-- called where it does not raise -/
theorem dx_call {α β : Type} {A : α → List PyData} {B : β → PyData} {f : α → Option (Rs β)} {x : α} {y : β} {E : St → XK} (h : EvDs K as σ F cs (A x) cs1) (hf : f x = some (.ok y)) : EvD K (tCallS (spPX K A B f) E as) σ F cs (B y) cs1 := fun F1 H1 g1 s Q q =>
  h F1 H1 g1 s _ fun vs F2 H2 g2 s2 h2 => ⟨F2, cs1, x, .ok y, h2, s2, hf, fun z hz v F3 H3 g3 s3 h3 => by cases hz; exact q v F3 H3 (g2.tr g3) s3 h3, fun c hc => nomatch hc⟩
/-- what may raise: r the end -/
def EvX (K : PySem.W.Frag) (te : TE) (W : WX) (σ : St) (F : Hp) (cs : Cs) (r : Rs PyData) (cs' : Cs) : Prop :=
  ∀ F1 H1, Gr F F1 → Sta F1 cs H1 → ∀ Q : VK, (∀ d, r = .ok d → ∀ v F2 H2, Gr F1 F2 → Sta F2 cs' H2 → Dt K F2 v d → Q v H2) → (∀ c, r = .ex c → ∀ d F2 H2, Gr F1 F2 → Sta F2 cs' H2 → Xd K F2 c d → W (.ref (He.ga K c.1)) d σ H2) → te σ H1 Q
theorem x_call {α β : Type} {A : α → List PyData} {B : β → PyData} {f : α → Option (Rs β)} {x : α} {r : Rs β} (h : EvDs K as σ F cs (A x) cs1) (hf : f x = some r) : EvX K (tCallS (spPX K A B f) (WE W) as) W σ F cs (r.map B) cs1 := fun F1 H1 g1 s Q q qx =>
  h F1 H1 g1 s _ fun vs F2 H2 g2 s2 h2 => ⟨F2, cs1, x, r, h2, s2, hf, fun y hy v F3 H3 g3 s3 h3 => by subst hy; exact q _ rfl v F3 H3 (g2.tr g3) s3 h3, fun c hc d F3 H3 g3 s3 xd => by subst hc; exact qx c rfl d F3 H3 (g2.tr g3) s3 xd⟩
theorem s_dropX {α : Type} {B : α → PyData} {r : Rs α} (s : Sta F cs H) (h : EvX K te W σ F cs (r.map B) cs1) (q : ∀ y, r = .ok y → ∀ F2 H2, Gr F F2 → Sta F2 cs1 H2 → nx σ H2)
    (qx : ∀ c, r = .ex c → ∀ d F2 H2, Gr F F2 → Sta F2 cs1 H2 → Xd K F2 c d → W (.ref (He.ga K c.1)) d σ H2) : tDrop te ⟨nx, rt, bk, ct⟩ σ H :=
  h F H .rfl s _ (fun d hd v F2 H2 g2 s2 _ => by
    cases r with
    | ok y => exact q y rfl F2 H2 g2 s2
    | ex c => cases hd) (fun c hc d F2 H2 g2 s2 xd => by
    cases r with
    | ok y => cases hc
    | ex c' => cases hc; exact qx c rfl d F2 H2 g2 s2 xd)
theorem s_setX {α : Type} {B : α → PyData} {r : Rs α} {i : Nat} {σ' : V → St} (s : Sta F cs H) (h : EvX K te W σ F cs (r.map B) cs1) (hσ : ∀ v, σ.set i (some v) = σ' v) (q : ∀ y, r = .ok y → ∀ v F2 H2, Gr F F2 → Sta F2 cs1 H2 → Dt K F2 v (B y) → nx (σ' v) H2)
    (qx : ∀ c, r = .ex c → ∀ d F2 H2, Gr F F2 → Sta F2 cs1 H2 → Xd K F2 c d → W (.ref (He.ga K c.1)) d σ H2) : tAsg te (gName i) ⟨nx, rt, bk, ct⟩ σ H :=
  h F H .rfl s _ (fun d hd v F2 H2 g2 s2 h2 => by
    cases r with
    | ok y =>
      cases hd
      show nx (σ.set i (some v)) H2
      rw [hσ v]; exact q y rfl v F2 H2 g2 s2 h2
    | ex c => cases hd) (fun c hc d F2 H2 g2 s2 xd => by
    cases r with
    | ok y => cases hc
    | ex c' => cases hc; exact qx c rfl d F2 H2 g2 s2 xd)
theorem s_retX {α : Type} {B : α → PyData} {r : Rs α} (s : Sta F cs H) (h : EvX K te W σ F cs (r.map B) cs1) (q : ∀ y, r = .ok y → ∀ v F2 H2, Gr F F2 → Sta F2 cs1 H2 → Dt K F2 v (B y) → rt v H2)
    (qx : ∀ c, r = .ex c → ∀ d F2 H2, Gr F F2 → Sta F2 cs1 H2 → Xd K F2 c d → W (.ref (He.ga K c.1)) d σ H2) : tRet te ⟨nx, rt, bk, ct⟩ σ H :=
  h F H .rfl s _ (fun d hd v F2 H2 g2 s2 h2 => by
    cases r with
    | ok y => cases hd; exact q y rfl v F2 H2 g2 s2 h2
    | ex c => cases hd) (fun c hc d F2 H2 g2 s2 xd => by
    cases r with
    | ok y => cases hc
    | ex c' => cases hc; exact qx c rfl d F2 H2 g2 s2 xd)
/-- a kept exception, or None -/
def Xv (K : PySem.W.Frag) (cl : List Str) (F : Hp) (v : V) : Option Xe → Prop
  | none => v = .non
  | some c => c.1 ∈ cl ∧ ∃ a d, v = .ref a ∧ F a = some (ExK (He.ga K c.1) d a) ∧ Xd K F c d
theorem Xv.gr {cl : List Str} {F F' : Hp} {v : V} {o : Option Xe} (g : Gr F F') (h : Xv K cl F v o) : Xv K cl F' v o := by
  cases o with
  | none => exact h
  | some c => obtain ⟨h0, a, d, h1, h2, h3⟩ := h; exact ⟨h0, a, d, h1, g _ _ h2, h3.gr g⟩
def subX (c d : Str) : Bool := c == d || d == "CartError"
def isX (o : Option Xe) (d : Str) : Bool := match o with
  | none => false
  | some c => subX c.1 d
def anyX (o : Option Xe) (ds : List Str) : Bool := ds.any fun d => isX o d
/-- what is known of the classes: cl may be raised, ts are asked for -/
structure XFc (K : PySem.W.Frag) (cl ts : List Str) : Prop where
  ex : ∀ c ∈ cl, ExC K (He.ga K c) = true
  kit : ∀ c ∈ cl, ∀ d ∈ ts, PySem.W.kitOne K (.ref (He.ga K c)) (.ref (He.ga K d)) = some (subX c d)
  kitV : ∀ c ∈ cl, PySem.W.kitOne K (.ref (He.ga K c)) (.type "ValueError") = some true
  kitN : ∀ d ∈ ts, PySem.W.kitOne K (.type "NoneType") (.ref (He.ga K d)) = some false
  exm : ∀ c ∈ cl, PySem.W.exmOne K (.ref (He.ga K c)) (.ref (He.ga K "CartError")) = some true
  fl : ∀ c ∈ cl, ∀ f, fld c = some f → xfB K (He.ga K c) = true ∧ PySem.W.findIn K (.ref (He.ga K c)) f = some none
abbrev rIsiX (K : PySem.W.Frag) : List V → Hp → VK → Prop := fun xs H Q => rIsi K xs H Q ∨ rIsiE K xs H Q
abbrev rIsiXT (K : PySem.W.Frag) : List V → Hp → VK → Prop := fun xs H Q => rIsiT K xs H Q ∨ rIsiTE K xs H Q
theorem cr_isiX {X : Cx} : CallR X (.builtin "isinstance") (rIsiX X.K) := call_isi.or cr_isiE
theorem cr_isiXT {X : Cx} : CallR X (.builtin "isinstance") (rIsiXT X.K) := call_isiT.or cr_isiTE
theorem kitN_V : kitB "NoneType" "ValueError" = some false := by decide +kernel
theorem d_isiX {cl ts : List Str} {o : Option Xe} {v : V} {i : Nat} {d : Str} (X : XFc K cl ts) (hi : σ[i]? = some (some v)) (hx : Xv K cl F v o) (hd : d ∈ ts) : EvD K (tCB (rIsiX K) (tCons (tVar i) (tCons (tC (.ref (He.ga K d))) tNil))) σ F cs (.bool (isX o d)) cs := fun F1 H1 g1 s Q q => by
  refine ⟨v, hi, ?_⟩
  show rIsiX K [v, .ref (He.ga K d)] H1 Q
  cases o with
  | none =>
    cases (show v = .non from hx)
    exact .inl ⟨.non, _, .type "NoneType", .ref (He.ga K d), false, rfl, .own _, .base .non, X.kitN d hd, q _ F1 H1 .rfl s (.bl _)⟩
  | some c =>
    obtain ⟨hc, a, dd, rfl, ha, hxd⟩ := hx
    exact .inr ⟨a, He.ga K c.1, dd, _, .ref (He.ga K d), subX c.1 d, rfl, .own _, s.fr _ _ (g1 _ _ ha), hxd.ok (g1.tr s.fr), X.ex c.1 hc, X.kit c.1 hc d hd, q _ F1 H1 .rfl s (.bl _)⟩
theorem d_isiXV {cl ts : List Str} {o : Option Xe} {v : V} {i : Nat} (X : XFc K cl ts) (hi : σ[i]? = some (some v)) (hx : Xv K cl F v o) : EvD K (tCB (rIsiX K) (tCons (tVar i) (tCons (tC (.ty "ValueError")) tNil))) σ F cs (.bool o.isSome) cs := fun F1 H1 g1 s Q q => by
  refine ⟨v, hi, ?_⟩
  show rIsiX K [v, .ty "ValueError"] H1 Q
  cases o with
  | none =>
    cases (show v = .non from hx)
    exact .inl ⟨.non, _, .type "NoneType", .type "ValueError", false, rfl, .ty _, .base .non, kit_ty kitN_V, q _ F1 H1 .rfl s (.bl _)⟩
  | some c =>
    obtain ⟨hc, a, dd, rfl, ha, hxd⟩ := hx
    exact .inr ⟨a, He.ga K c.1, dd, _, .type "ValueError", true, rfl, .ty _, s.fr _ _ (g1 _ _ ha), hxd.ok (g1.tr s.fr), X.ex c.1 hc, X.kitV c.1 hc, q _ F1 H1 .rfl s (.bl _)⟩
def clsV (K : PySem.W.Frag) (ds : List Str) : List V := ds.map fun d => .ref (He.ga K d)
theorem clsV_paired : ∀ ds : List Str, Paired ClsV (clsV K ds) (ds.map fun d => Value.ref (He.ga K d))
  | [] => .nil
  | d :: ds => .cons (.own _) (clsV_paired ds)
theorem kitAny_none {cl ts : List Str} (X : XFc K cl ts) : ∀ ds : List Str, (∀ d ∈ ds, d ∈ ts) → PySem.W.kitAny K (.type "NoneType") (ds.map fun d => Value.ref (He.ga K d)) = some false
  | [], _ => rfl
  | d :: ds, h => kitAny_cons (X.kitN d (h d List.mem_cons_self)) (fun _ => kitAny_none X ds fun e he => h e (List.mem_cons_of_mem _ he)) (fun z => nomatch z)
theorem kitAny_some {cl ts : List Str} (X : XFc K cl ts) {c : Xe} (hc : c.1 ∈ cl) : ∀ ds : List Str, (∀ d ∈ ds, d ∈ ts) → PySem.W.kitAny K (.ref (He.ga K c.1)) (ds.map fun d => Value.ref (He.ga K d)) = some (anyX (some c) ds)
  | [], _ => rfl
  | d :: ds, h => by
    refine kitAny_cons (X.kit c.1 hc d (h d List.mem_cons_self)) (fun z => ?_) (fun z => ?_)
    · have := kitAny_some X hc ds fun e he => h e (List.mem_cons_of_mem _ he)
      rw [this]
      show some _ = some (subX c.1 d || _)
      rw [z]; rfl
    · show (subX c.1 d || _) = true
      rw [z]; rfl
/-- isinstance(x, (A, B, ..)); ta the written tuple's parts -/
theorem d_isiXT {cl ts ds : List Str} {o : Option Xe} {v : V} {i : Nat} {ta : TA} (X : XFc K cl ts) (hi : σ[i]? = some (some v)) (hx : Xv K cl F v o) (hd : ∀ d ∈ ds, d ∈ ts) (hl : ds.length ≤ 100000)
    (ht : ∀ H (Q : List V → Hp → Prop), Q (clsV K ds) H → ta σ H Q) : EvD K (tCB (rIsiXT K) (tCons (tVar i) (tCons (tTup ta) tNil))) σ F cs (.bool (anyX o ds)) cs := fun F1 H1 g1 s Q q => by
  refine ⟨v, hi, ?_⟩
  show tTup ta σ H1 fun w H2 => rIsiXT K [v, w] H2 Q
  refine ht H1 _ ⟨by unfold clsV; rw [List.length_map]; exact sz hl, fun p hp => ?_⟩
  have s2 : Sta (upd F1 p (.tup (clsV K ds))) cs (upd H1 p (.tup (clsV K ds))) := s.lay hp
  have g2 : Gr F1 (upd F1 p (.tup (clsV K ds))) := Gr.new (s.fr.back hp)
  cases o with
  | none =>
    cases (show v = .non from hx)
    refine .inl ⟨.non, p, clsV K ds, .type "NoneType", _, false, rfl, upd_same, clsV_paired ds, .base .non, kitAny_none X ds hd, ?_⟩
    have : anyX none ds = false := by unfold anyX; rw [List.any_eq_false]; intro d _; exact Bool.false_ne_true
    rw [this] at q
    exact q _ _ _ g2 s2 (.bl _)
  | some c =>
    obtain ⟨hc, a, dd, rfl, ha, hxd⟩ := hx
    exact .inr ⟨a, He.ga K c.1, dd, p, clsV K ds, _, anyX (some c) ds, rfl, upd_same, clsV_paired ds, s2.fr _ _ (g2 _ _ (g1 _ _ ha)), hxd.ok ((g1.tr g2).tr s2.fr), X.ex c.1 hc, kitAny_some X hc ds hd, q _ _ _ g2 s2 (.bl _)⟩
/-- caught and kept: `except CartError as e: kept = e`; i is e's place, j the keeper's -/
theorem s_catch {cl ts : List Str} {i j : Nat} {c : Xe} {dd : Option Addr} {D : Ends} {Wout : WX} {σ' : Addr → St} (X : XFc K cl ts) (hc : c.1 ∈ cl) (s : Sta F cs H) (xd : Xd K F c dd) (hij : ∀ v, (σ.set i (some v))[i]? = some (some v)) (hσ : ∀ a, (((σ.set i (some (.ref a))).set j (some (.ref a))).set i none) = σ' a)
    (q : ∀ a F2 H2, Gr F F2 → Sta F2 cs H2 → Xv K cl F2 (.ref a) (some c) → D.nx (σ' a) H2) :
    wKeep K (.ref (He.ga K "CartError")) i (fun _ _ _ => tAsg (tVar i) (gName j)) Wout D (.ref (He.ga K c.1)) dd σ H := by
  refine ⟨true, X.exm c.1 hc, fun _ => ⟨_, rfl, fun a ha => ?_⟩, fun z => nomatch z⟩
  refine ⟨.ref a, hij _, ha, ?_⟩
  rw [hσ a]
  exact q a _ _ (Gr.new (s.fr.back ha)) (s.lay ha) ⟨hc, a, dd, rfl, upd_same, xd.gr (Gr.new (s.fr.back ha))⟩
end
end Bw

namespace Bw
open PySem L2
/-! tuple(xs), list(a tuple), tuple + tuple -/
abbrev rTupleL (K : PySem.W.Frag) : List V → Hp → VK → Prop := fun xs H Q => ∃ p ys, xs = [.ref p] ∧ ((SqL K H p ys ∧ ∀ l, H l = none → Q (.ref l) (upd H l (.tup ys))) ∨ (SqT K H p ys ∧ Q (.ref p) H))
theorem cr_tuple {X : Cx} : CallR X (.type "tuple") (rTupleL X.K) := call_tuple_of
section
variable {K : PySem.W.Frag} {σ : St} {F : Hp} {cs cs1 cs2 : Cs} {as : TA} {ta tb : TE}
theorem d_tupleL {ds : List PyData} (h : EvDs K as σ F cs [.list ds] cs1) : EvD K (tCB (rTupleL K) as) σ F cs (.tuple ds) cs1 := fun F1 H1 g1 s Q q =>
  h F1 H1 g1 s _ fun v F2 H2 g2 s2 h2 => by
    obtain ⟨v, rfl, k⟩ := h2.one
    obtain ⟨p, ys, rfl, hl, hd⟩ := k.toLst
    refine ⟨p, ys, rfl, .inl ⟨gr_L s2.fr hl, fun l nl => ?_⟩⟩
    have g3 : Gr F2 (upd F2 l (.tup ys)) := Gr.new (s2.fr.back nl)
    exact q _ _ _ (g2.tr g3) (s2.lay nl) (.tup (.inl (.inl upd_same)) (hd.gr g3))
theorem d_tupleT {ds : List PyData} (h : EvDs K as σ F cs [.tuple ds] cs1) : EvD K (tCB (rTupleL K) as) σ F cs (.tuple ds) cs1 := fun F1 H1 g1 s Q q =>
  h F1 H1 g1 s _ fun v F2 H2 g2 s2 h2 => by
    obtain ⟨v, rfl, k⟩ := h2.one
    obtain ⟨p, ys, rfl, hl, hd⟩ := k.toTup
    exact ⟨p, ys, rfl, .inr ⟨gr_T s2.fr hl, q _ _ _ g2 s2 (.tup hl hd)⟩⟩
theorem c_listT {ds : List PyData} (h : EvDs K as σ F cs [.tuple ds] cs1) : EvC K (tCB (rListS K) as) σ F cs ds cs1 := fun F1 H1 g1 s Q q =>
  h F1 H1 g1 s _ fun v F2 H2 g2 s2 h2 => by
    obtain ⟨v, rfl, k⟩ := h2.one
    obtain ⟨p, ys, rfl, hl, hd⟩ := k.toTup
    exact ⟨p, ys, rfl, .inr (gr_T s2.fr hl), fun l nl => q _ _ _ _ g2 (s2.cell nl) hd⟩
theorem d_catT {ds es : List PyData} (ha : EvD K ta σ F cs (.tuple ds) cs1) (hb : EvD K tb σ F cs1 (.tuple es) cs2) (hn : ds ≠ []) (he : es ≠ []) (hl : ds.length + es.length ≤ 100000) : EvD K (tOp (rCatT K) ta tb) σ F cs (.tuple (ds ++ es)) cs2 :=
  d_op ha hb fun x y F2 H2 hx hy s _ Q q => by
    obtain ⟨p, vs, rfl, h1, k1⟩ := hx.toTup
    obtain ⟨p', ws, rfl, h2, k2⟩ := hy.toTup
    have l1 := k1.len
    have l2 := k2.len
    have e2 : ws ≠ [] := fun z => he (List.length_eq_zero_iff.mp (by rw [← l2, z]; rfl))
    refine ⟨p, p', vs, ws, rfl, rfl, gr_T s.fr h1, gr_T s.fr h2, fun z => hn (List.length_eq_zero_iff.mp (by rw [← l1, z]; rfl)), by rw [l1, l2]; exact sz hl, fun z => absurd z e2, fun _ l nl => ?_⟩
    have g3 : Gr F2 (upd F2 l (.tup (vs ++ ws))) := Gr.new (s.fr.back nl)
    exact q _ _ _ g3 (s.lay nl) (.tup (.inl (.inl upd_same)) ((k1.gr g3).app (k2.gr g3)))
end
end Bw

namespace Bw
open PySem L2
/-! raise and try, put together for the generator -/
abbrev WX0 (E : XK) : WX := fun cls d _ H => E cls d H
def tRaiseX (W : WX) (C : Addr) : TS := fun _ σ H => W (.ref C) none σ H
/-- a plain exception class of the program -/
def excB (K : PySem.W.Frag) (x : Str) : Bool := PySem.W.excIn K (He.ga K x) [.type "ValueError", .type "Exception", .type "BaseException", .type "object"] "ValueError.__new__" && PySem.W.keepIn K (.ref (He.ga K x)) &&
  PySem.W.subIn K (.ref (He.ga K x)) (.type "BaseException") == some true && PySem.W.typeIn K (.ref (He.ga K x)) == some (.type "type")
structure ExD (K : PySem.W.Frag) (mg : Str → Option Value) (x : Str) : Prop where
  b : excB K x = true
  gm : mg x = some (.ref (He.ga K x))
section
variable {X : Cx} {W : WX} {body : List Stmt} {t : TS}
theorem pss_tk (tk : Takes X W) (h : Takes X W → PSs X body t) : PSs X body t := h tk
theorem ps_raiseX {x m : Str} {j : Nat} {p p2 pos pos' : Pos} (hc : X.calm = true) (tk : Takes X W) (e : ExD X.K X.mg x) (hg : Gl X x) (hdb : (x == ("__debug__" : Str)) = false := by decide) :
    PS X (.Raise (some (.Call (.Name x p) [.Constant (.str m) j p2] [] pos)) none pos') (tRaiseX W (He.ga X.K x)) := by
  have hb := e.b
  unfold excB at hb
  simp only [Bool.and_eq_true, beq_iff_eq] at hb
  obtain ⟨⟨⟨h1, h2⟩, h3⟩, h4⟩ := hb
  exact ps_raise hc tk (pmk_own PySem.F.excBase_ValueError h1 e.gm h2 (raises_own h3 h4) hg hdb)
theorem takesF : Takes X.nox WF0 := fun u s' h => by
  obtain ⟨a, B, sI, pins, σ, H, cls, d, _, _, _, _, _, _, _, _, w⟩ := h
  exact False.elim w
def tTryK (K : PySem.W.Frag) (i j : Nat) (Wout : WX) (tb : WX → TS) : TS := fun D σ H => tb (wKeep K (.ref (He.ga K "CartError")) i (fun _ _ _ => tAsg (tVar i) (gName j)) Wout D) D σ H
end
section
variable {K : PySem.W.Frag} {σ : St} {F : Hp} {cs : Cs} {H : Hp} {W : WX} {D : Ends}
theorem s_raise {C : Addr} (h : W (.ref C) none σ H) : tRaiseX W C D σ H := h
end
end Bw
namespace Bw
open PySem L2
def tupD2 : PyData → Option (PyData × PyData)
  | .tuple [a, b] => some (a, b)
  | _ => none
def tupD3 : PyData → Option (PyData × PyData × PyData)
  | .tuple [a, b, c] => some (a, b, c)
  | _ => none
def tupD4 : PyData → Option (PyData × PyData × PyData × PyData)
  | .tuple [a, b, c, d] => some (a, b, c, d)
  | _ => none
theorem tupD2_eq {d : PyData} {p : PyData × PyData} (h : tupD2 d = some p) : d = .tuple [p.1, p.2] := by
  unfold tupD2 at h; split at h
  · cases h; rfl
  · cases h
theorem tupD3_eq {d : PyData} {p : PyData × PyData × PyData} (h : tupD3 d = some p) : d = .tuple [p.1, p.2.1, p.2.2] := by
  unfold tupD3 at h; split at h
  · cases h; rfl
  · cases h
theorem tupD4_eq {d : PyData} {p : PyData × PyData × PyData × PyData} (h : tupD4 d = some p) : d = .tuple [p.1, p.2.1, p.2.2.1, p.2.2.2] := by
  unfold tupD4 at h; split at h
  · cases h; rfl
  · cases h
end Bw
namespace Bw
open PySem L2
theorem s_tryJ {K : PySem.W.Frag} {σ : St} {H : Hp} {nx bk ct : St → Hp → Prop} {rt : V → Hp → Prop} {i j : Nat} {Wout : WX} {tb : WX → TS} (J : St → Hp → Prop) (rest : ∀ σ' H', J σ' H' → nx σ' H')
    (body : (∀ σ' H', J σ' H' → nx σ' H') → tb (wKeep K (.ref (He.ga K "CartError")) i (fun _ _ _ => tAsg (tVar i) (gName j)) Wout ⟨nx, rt, bk, ct⟩) ⟨nx, rt, bk, ct⟩ σ H) : tTryK K i j Wout tb ⟨nx, rt, bk, ct⟩ σ H := body rest
end Bw
namespace Bw
open PySem L2
/-! the facts of the classes, told by the head -/
def ceB (K : PySem.W.Frag) : Bool := PySem.W.specialIn K (.ref (He.ga K "CartError")) "__getattribute__" == some (some (.builtin "type.__getattribute__")) && PySem.W.readsIn K (He.ga K "CartError") (.type "type") && (match PySem.W.findCls K (.ref (He.ga K "CartError")) (.type "type") "__init__" with
  | some (.val (.builtin n)) => n == "ValueError.__init__"
  | _ => false) && PySem.W.keepIn K (.ref (He.ga K "CartError"))
/-- a class with an own __init__ and a field -/
def oexB (K : PySem.W.Frag) (C : Addr) (f : Str) : Bool := (match K.lookup C with
  | some ⟨.type "type", _, .cls cd, sl⟩ => (match cd.mro, sl.toList with
    | .ref C' :: bm, [_, _, _, _, some (.builtin n), _] => C' == C && n == "ValueError.__new__" && !cd.hasDel && cd.hasDict && HandSPX.refsVE bm
    | _, _ => false)
  | _ => false) && PySem.W.findIn K (.ref C) "__setattr__" == some (some (.builtin "object.__setattr__")) && PySem.W.subIn K (.ref C) (.type "BaseException") == some true && PySem.W.typeIn K (.ref C) == some (.type "type") && PySem.W.keepIn K (.ref C) &&
  PySem.W.findIn K (.ref C) "__init__" == some (some (.ref (He.ma K C "__init__"))) && PySem.W.typeIn K (.ref (He.ma K C "__init__")) == some (.type "function") && xfB K C && PySem.W.findIn K (.ref C) f == some none
structure OexF (K : PySem.W.Frag) (C : Addr) (f : Str) : Prop where
  T : OexC K C
  iC : PySem.W.findIn K (.ref C) "__init__" = some (some (.ref (He.ma K C "__init__")))
  tI : PySem.W.typeIn K (.ref (He.ma K C "__init__")) = some (.type "function")
  xf : xfB K C = true
  no : PySem.W.findIn K (.ref C) f = some none
theorem oex_of {K : PySem.W.Frag} {C : Addr} {f : Str} (h : oexB K C f = true) : OexF K C f := by
  unfold oexB at h
  simp only [Bool.and_eq_true, beq_iff_eq] at h
  obtain ⟨⟨⟨⟨⟨⟨⟨⟨q, h2⟩, h3⟩, h4⟩, h5⟩, h6⟩, h7⟩, h8⟩, h9⟩ := h
  refine ⟨⟨?_, h2, h3, h4, h5⟩, h6, h7, h8, h9⟩
  split at q
  · rename_i dd cd sl ho
    split at q
    · rename_i C' bm k0 k1 k2 k3 n k5 hm hs
      simp only [Bool.and_eq_true, beq_iff_eq, Bool.not_eq_true'] at q
      obtain ⟨⟨⟨⟨rfl, rfl⟩, hdel⟩, hdi⟩, ht⟩ := q
      obtain ⟨nm, bs, mro, ns, qn, hd, sn, sub, ab, col, del⟩ := cd
      dsimp only at hm hdel hdi
      subst hm hdel hdi
      have hsl : sl = #[k0, k1, k2, k3, some (.builtin "ValueError.__new__"), k5] := by
        obtain ⟨l⟩ := sl
        simp only at hs
        rw [hs]
      subst hsl
      exact ⟨nm, qn, ns, bs, bm, sn, sub, ab, col, dd, k0, k1, k2, k3, k5, ho, ht⟩
    · cases q
  · cases q
def xfcB (cl ts : List Str) (K : PySem.W.Frag) : Bool := (cl.all fun c => ExC K (He.ga K c) && (ts.all fun d => PySem.W.kitOne K (.ref (He.ga K c)) (.ref (He.ga K d)) == some (subX c d)) && PySem.W.kitOne K (.ref (He.ga K c)) (.type "ValueError") == some true &&
  PySem.W.exmOne K (.ref (He.ga K c)) (.ref (He.ga K "CartError")) == some true && (match fld c with
    | none => excB K c
    | some f => oexB K (He.ga K c) f)) && (ts.all fun d => PySem.W.kitOne K (.type "NoneType") (.ref (He.ga K d)) == some false) && ceB K
theorem xfc_of {cl ts : List Str} {K : PySem.W.Frag} (h : xfcB cl ts K = true) : XFc K cl ts := by
  unfold xfcB at h
  rw [Bool.and_eq_true, Bool.and_eq_true, List.all_eq_true, List.all_eq_true] at h
  obtain ⟨⟨h1, h2⟩, _⟩ := h
  have k : ∀ c ∈ cl, _ := fun c hc => h1 c hc
  simp only [Bool.and_eq_true, List.all_eq_true, beq_iff_eq] at k h2
  refine ⟨fun c hc => (k c hc).1.1.1.1, fun c hc d hd => (k c hc).1.1.1.2 d hd, fun c hc => (k c hc).1.1.2, fun d hd => h2 d hd, fun c hc => (k c hc).1.2, fun c hc f hf => ?_⟩
  have z := (k c hc).2
  rw [hf] at z
  exact ⟨(oex_of z).xf, (oex_of z).no⟩
theorem ce_of {cl ts : List Str} {K : PySem.W.Frag} (h : xfcB cl ts K = true) : ceB K = true := by
  unfold xfcB at h
  rw [Bool.and_eq_true] at h
  exact h.2
theorem oxf_of {cl ts : List Str} {K : PySem.W.Frag} (h : xfcB cl ts K = true) {c f : Str} (hc : c ∈ cl) (hf : fld c = some f) : OexF K (He.ga K c) f := by
  unfold xfcB at h
  rw [Bool.and_eq_true, Bool.and_eq_true, List.all_eq_true] at h
  have k := h.1.1 c hc
  simp only [Bool.and_eq_true] at k
  have z := k.2
  rw [hf] at z
  exact oex_of z
theorem exd_of {cl ts : List Str} {K : PySem.W.Frag} {mg : Str → Option Value} (h : xfcB cl ts K = true) {c : Str} (hc : c ∈ cl) (hf : fld c = none) (g : mg c = some (.ref (He.ga K c))) : ExD K mg c := by
  unfold xfcB at h
  rw [Bool.and_eq_true, Bool.and_eq_true, List.all_eq_true] at h
  have k := h.1.1 c hc
  simp only [Bool.and_eq_true] at k
  have z := k.2
  rw [hf] at z
  exact ⟨z, g⟩
def asCS (g : Addr → Option Obj) (n : Nat) : List Addr := He.asD g n ++ [cStatics]
def hookB (n : Nat) (fa : List He.Fa) (fn : List He.DefD) (ex : PySem.W.Frag → Bool) : PySem.W.Hook where
  α := He.AlD × Bool
  obs := fun s => (He.obsD fa fn (He.frG s.heap.get? (asCS s.heap.get? n)), ex (He.frG s.heap.get? (asCS s.heap.get? n)))
  val := fun _ => (He.valD fn, true)
  says := fun _ h => ∃ K : PySem.W.Frag, K.In h ∧ He.SaysD fa fn K ∧ ex K = true
  of := fun _ _ e => ⟨_, He.frG_in, congrArg (fun z : He.AlD × Bool => z.1) e, congrArg (fun z : He.AlD × Bool => z.2) e⟩
  keeps := fun _ _ _ ⟨K, hK, c⟩ k => ⟨K, PySem.W.Frag.In.keeps hK k, c⟩
def obsB (n : Nat) (fa : List He.Fa) (fn : List He.DefD) (ex : PySem.W.Frag → Bool) (g : Addr → Option Obj) : He.AlD × Bool := (He.obsD fa fn (He.frG g (asCS g n)), ex (He.frG g (asCS g n)))
theorem obsB_eq {n : Nat} {fa : List He.Fa} {fn : List He.DefD} {ex : PySem.W.Frag → Bool} {g : Addr → Option Obj} {s : Shared} (h : ∀ a, g a = s.heap.get? a) : obsB n fa fn ex g = (hookB n fa fn ex).obs s := by
  have e : g = s.heap.get? := funext h
  rw [e]; rfl
end Bw

namespace Bw
open PySem L2
/-! dict(a list of pairs) -/
abbrev rDictP (K : PySem.W.Frag) : List V → Hp → VK → Prop := fun xs H Q => ∃ (a : Addr) (ps : List Addr) (kvs : List (Key × V)), xs = [.ref a] ∧ SqL K H a (ps.map V.ref) ∧ Paired (fun p kv => SqT K H p [kV kv.1, kv.2]) ps kvs ∧ ∀ p, H p = none → Q (.ref p) (upd H p (.dK (mergeK [] kvs)))
theorem cr_dictP {X : Cx} (hc : X.calm = true) : CallR X (.type "dict") (rDictP X.K) := call_dictP hc
section
variable {K : PySem.W.Frag} {σ : St} {F : Hp} {cs cs1 : Cs} {as : TA}
theorem dts_pairs {ν : Type} {ev : ν → PyData} {vf : ν → V} (hv : ∀ F v x, Dt K F v (ev x) → v = vf x) {H : Hp} (g : Gr F H) : ∀ {xs : List (Str × ν)} {vs : List V}, Dts K F vs (xs.map (eT2 eS ev)) → ∃ ps : List Addr, vs = ps.map V.ref ∧ Paired (fun p kv => SqT K H p [kV kv.1, kv.2]) ps (kvE kS vf xs)
  | [], vs, h => by cases h; exact ⟨[], rfl, .nil⟩
  | x :: xs, vs, h => by
    cases h with
    | cons a b =>
      obtain ⟨p, v1, v2, rfl, hT, k1, k2⟩ := u2 a
      obtain ⟨ps, rfl, hp⟩ := dts_pairs hv g b
      cases k1.toStr
      cases hv _ _ _ k2
      exact ⟨p :: ps, rfl, .cons (gr_T g hT) hp⟩
/-- .. as a thing -/
theorem d_dictP {ν : Type} {ev : ν → PyData} {vf : ν → V} (hv : ∀ F v x, Dt K F v (ev x) → v = vf x) {xs : List (Str × ν)} (h : EvDs K as σ F cs [eL (eT2 eS ev) xs] cs1) : EvD K (tCB (rDictP K) as) σ F cs (.dict []) cs1 := fun F1 H1 g1 s Q q =>
  h F1 H1 g1 s _ fun v F2 H2 g2 s2 h2 => by
    obtain ⟨v, rfl, k⟩ := h2.one
    obtain ⟨p, ys, rfl, hl, hd⟩ := k.toLst
    obtain ⟨ps, rfl, hp⟩ := dts_pairs hv s2.fr hd
    exact ⟨p, ps, _, rfl, gr_L s2.fr hl, hp, fun l nl => q _ _ _ (g2.tr (Gr.new (s2.fr.back nl))) (s2.lay nl) (.dct upd_same)⟩
end
end Bw

namespace Bw
open PySem L2
/-! exceptions with a field: raised, kept, read -/
/-- what may stand in the text of an exception -/
def FmV (v : V) : Prop := (∃ y : Str, v = .str y ∧ y.length ≤ 1000) ∨ ∃ i : Int, v = .int i ∧ i.natAbs.log2 < 1920 ∧ (toString i : Str).length ≤ 1000
def spI (C : Addr) (f : Str) : Sp := fun vs H Q _ => ∃ a v, vs = [.ref a, v] ∧ H a = some (exo a C none) ∧ FmV v ∧ ∀ dx, H dx = none → dx ≠ a → Q .non (upd (upd H dx (exd dx [(f, v)])) a (exo a C (some dx)))
theorem spI_len {C : Addr} {f : Str} {vs : List V} {H : Hp} {Q : VK} {E : XK} (h : spI C f vs H Q E) : vs.length = 2 := by
  obtain ⟨a, v, rfl, _⟩ := h; rfl
structure OkI (P : Program) (w : World) (K : PySem.W.Frag) (mg : Str → Option Value) (base : Heap) (x f : Str) : Prop where
  ex : ∃ fd, FnOk P w K mg base CX0 1 (He.ma K (He.ga K x) "__init__") fd ["self", f] (spI (He.ga K x) f) ∧ Binds K fd ["self", f] []
  gm : mg x = some (.ref (He.ga K x))
  T : OexF K (He.ga K x) f
section
variable {X : Cx} {e : Expr} {es : List Expr} {te : TE} {ta : TA} {p1 p2 pos p pos' : Pos} {W : WX}
theorem pe_ceinit {pl : Sem Bool} (hg : Gl X "CartError") (hm : X.mg "CartError" = some (.ref (He.ga X.K "CartError"))) (ce : ceB X.K = true) (ha : PA X (e :: es) ta)
    (hc : eval (.Call (.Attribute (.Name "CartError" p1) "__init__" p2) (e :: es) [] pos) X.env = (do
      let ov ← eval (.Name "CartError" p1) X.env
      standAt p2.atName
      let (f, first) ← holding [ov] (getMethod ov "__init__" pl)
      callWith pos f first (backTo pos (starEach (e :: es) X.env)) (backToKw pos (keywordEach [] X.env))) := by rfl)
    (he : starEach (e :: es) X.env = (false, eval e X.env) :: starEach es X.env := by rfl) (hpl : (backTo pos (starEach es X.env)).any (·.1) = false := by rfl) :
    PE X (.Call (.Attribute (.Name "CartError" p1) "__init__" p2) (e :: es) [] pos) (tVeI X.K ta) := by
  unfold ceB at ce
  simp only [Bool.and_eq_true, beq_iff_eq] at ce
  obtain ⟨⟨⟨c1, c2⟩, c3⟩, c4⟩ := ce
  have vV : PySem.W.findCls X.K (.ref (He.ga X.K "CartError")) (.type "type") "__init__" = some (.val (.builtin "ValueError.__init__")) := by
    split at c3
    · rename_i n h; rw [h]; rw [beq_iff_eq] at c3; rw [c3]
    · cases c3
  refine ⟨fun pins s σ H Q I h => ?_⟩
  refine PySem.W.methodCall_KW (ld_glob I hg hm ?_ (by decide)) hc
  refine PySem.W.method_cls I.kIn c1 (PySem.W.cls_value I.kIn c2 vV (by decide +kernel) ?_)
  show wpAny _ _ (callWith pos (Value.builtin "ValueError.__init__") [] (backTo pos (starEach (e :: es) X.env)) []) _ _ _
  refine PyProof.Rows.callWith_method1 (thn (ha.run pos pins _ σ H _ (I.tok _) h) fun us s1 ⟨vs, H1, I1, r1, a, C, ws, ev, hl, T, ea, q⟩ => ?_) he hpl
  subst ev
  cases r1 with
  | @cons _ u0 _ ur ra rw' =>
    obtain rfl : u0 = Value.ref a := ra
    have hlen : ur.length ≤ sizeLine := by
      rw [← Paired.length rw', sizeLine_eq]
      omega
    exact oinit_ok T I1 ea hlen fun s' J => ⟨.non, H1, J, rfl, q⟩
def tRaiseF (K : PySem.W.Frag) (W : WX) (x f : Str) (te : TE) : TS := fun _ σ H => tMkO (He.ga K x) (spI (He.ga K x) f) [] (tCons te tNil) σ H fun cls d H' => W cls d σ H'
theorem ps_raiseF {x f : Str} (hc : X.calm = true) (tk : Takes X W) (F : OkI X.prog X.w X.K X.mg X.base x f) (hr : Room 2 X.A) (hg : Gl X x) (he : PE X e te) (hdb : (x == ("__debug__" : Str)) = false := by decide)
    (hs : starEach [e] X.env = (false, eval e X.env) :: starEach [] X.env := by rfl) (hpl : (backTo pos (starEach [] X.env)).any (·.1) = false := by rfl) :
    PS X (.Raise (some (.Call (.Name x p) [e] [] pos)) none pos') (tRaiseF X.K W x f te) := by
  obtain ⟨fd, F1, hb⟩ := F.ex
  exact ps_raise hc tk (pmk_oex F.T.T F.T.iC F.T.tI F1 hr hb .nil pass0 hg F.gm (pa_cons he pa_nil (hs := hs)) hdb hs hpl)
/-- x.f, where x holds an exception that is kept -/
def tXat (K : PySem.W.Frag) (f : Str) (te : TE) : TE := fun σ H Q => te σ H fun x H1 => ∃ (a C dd : Addr) (fs : List (Str × V)) (v : V), x = .ref a ∧ H1 a = some (ExK C (some dd) a) ∧ H1 dd = some (.xd fs) ∧ xfB K C = true ∧ PySem.W.findIn K (.ref C) f = some none ∧ fs.lookup f = some v ∧ Q v H1
theorem pe_xat {n : Str} (he : PE X e te) (hb : attributeBase e n X.env (eval e X.env) = eval e X.env := by rfl) : PE X (.Attribute e n pos) (tXat X.K n te) := by
  refine ⟨fun pins s σ H Q I h => ?_⟩
  refine attr_of hb (thn (he.run pins s σ H _ I h) fun u s1 hh => ?_)
  obtain ⟨x, H1, I1, rx, a, C, dd, fs, v, ex, ha, ea, xf, hno, l, q⟩ := hh
  subst ex
  obtain rfl : u = Value.ref a := rx
  have T := xfB_ok xf
  have hk : ObjOk X.prog X.w H1 s1.heap a (.ext fun h => ∃ (oe : Obj) (vs : Array Value), h.get? a = some oe ∧ oe.cls = .ref C ∧ oe.dict = some dd ∧ oe.data = .fields vs) := I1.hok a _ ha
  obtain ⟨⟨oe, vs, e1, e2, e3, hd⟩, _⟩ := hk
  have hx : ObjOk X.prog X.w H1 s1.heap dd (.xd fs) := I1.hok dd _ ea
  obtain ⟨mA, hns, hr⟩ := hx
  obtain ⟨od, ho, hl⟩ := lookIn_ns hns
  obtain ⟨u, hu, ru⟩ := RelO.some_of (v := v) (o := mA n) (by rw [← l]; exact hr n)
  have J : PySem.W.InstAt s1.heap a oe C (some od) := ⟨e1, e2, by unfold PySem.W.notCls; rw [hd] <;> rfl, by rw [e3]; exact ho⟩
  exact HandSPX.exc_get I1.kIn J T.ga T.gg T.exC (PySem.W.findObj_own T.hdC hno rfl (by rw [hl, hu])) (handed_of ru) ⟨v, H1, I1.tok _, ru, q⟩
end
/-- self, x: CartError.__init__(self, f'm{x}'); self.x = x -/
def tInit (K : PySem.W.Frag) (f m : Str) : TS := tSeq (tDrop (tVeI K (tCons (tVar 0) (tCons (fun σ H Q => tJs [tC (.str m), tFmt (tVar 1)] Str.empty σ H fun out H1 => Q (.str out) H1) tNil)))) (tOst K f (tVar 0) (tVar 1))
theorem w_init {K : PySem.W.Frag} {C : Addr} {f m : Str} {vs : List V} {H : Hp} {Q : VK} {E : XK} (T : OexF K C f) (hm : m.length ≤ 1000) (h : spI C f vs H Q E) : tInit K f m { nx := fun _ H' => Q .non H', rt := Q } (start ["self", f] vs) H := by
  obtain ⟨a, v, rfl, ha, fm, q⟩ := h
  have sl : sizeLine = sizeLine := rfl
  refine ⟨.ref a, rfl, m, rfl, ?_, v, rfl, ?_⟩
  · rw [sizeLine_eq, Str.length_append]; have : Str.empty.length = 0 := rfl; omega
  have fin : ∀ y : Str, y.length ≤ 1000 → ∃ z : Str, V.str y = V.str z ∧ (Str.empty ++ m ++ z).length ≤ sizeLine ∧ tJs [] (Str.empty ++ m ++ z) [some (.ref a), some v] H fun out H1 => tNil [some (.ref a), some v] H1 fun ws H2 => ∃ (a' C' : Addr) (ws' : List V), (.ref a :: .str out :: ws) = .ref a' :: ws' ∧ ws'.length ≤ 1000 ∧ OexC K C' ∧ H2 a' = some (exo a' C' none) ∧ tOst K f (tVar 0) (tVar 1) { nx := fun _ H' => Q .non H', rt := Q } [some (.ref a), some v] H2 := fun y hy => by
    refine ⟨y, rfl, ?_, ?_⟩
    · rw [sizeLine_eq, Str.length_append, Str.length_append]; have : Str.empty.length = 0 := rfl; omega
    · refine ⟨a, C, _, rfl, Nat.le_of_ble_eq_true rfl, T.T, ha, ?_⟩
      exact ⟨v, rfl, .ref a, rfl, a, C, rfl, T.T, T.no, .inl ⟨ha, fun dx hx hn => q dx hx hn⟩⟩
  rcases fm with ⟨y, rfl, hy⟩ | ⟨i, rfl, hi, hy⟩
  · refine .inl ⟨y, rfl, by rw [sizeLine_eq]; omega, ?_⟩
    exact fin y hy
  · exact .inr ⟨i, rfl, hi, fin _ hy⟩
section
variable {K : PySem.W.Frag} {σ : St} {F : Hp} {cs cs1 : Cs} {H : Hp} {te : TE} {W : WX} {D : Ends}
/-- a thing that may stand in the text of an exception -/
def fmB : PyData → Bool
  | .str y => decide (y.length ≤ 1000)
  | .int i => decide (i.natAbs.log2 < 1920) && decide ((toString i : Str).length ≤ 1000)
  | _ => false
theorem fmV_of {v : V} {d : PyData} (h : Dt K F v d) (b : fmB d = true) : FmV v := by
  cases d with
  | str y => cases h.toStr; exact .inl ⟨y, rfl, of_decide_eq_true b⟩
  | int i =>
    cases h.toInt
    obtain ⟨b1, b2⟩ := Bool.and_eq_true_iff.mp b
    exact .inr ⟨i, rfl, of_decide_eq_true b1, of_decide_eq_true b2⟩
  | _ => cases b
theorem s_raiseF {d : PyData} {x f : Str} (s : Sta F cs H) (h : EvD K te σ F cs d cs1) (b : fmB d = true) (hf : fld x = some f) (q : ∀ dd F2 H2, Gr F F2 → Sta F2 cs1 H2 → Xd K F2 (x, d) dd → W (.ref (He.ga K x)) dd σ H2) : tRaiseF K W x f te D σ H := by
  refine h F H .rfl s _ fun v F2 H2 g2 s2 hv => ⟨Nat.le_of_ble_eq_true rfl, fun a ha => ?_⟩
  refine ⟨a, v, rfl, upd_same, fmV_of hv b, fun dx hx hn => ⟨rfl, dx, [(f, v)], upd_same, ?_, ?_, ?_⟩⟩
  · rw [upd_ne hn, upd_same]
  · rw [upd_ne hn] at hx; exact hx
  · rw [upd_ne hn] at hx
    have e : upd (del (upd (upd (upd H2 a (exo a (He.ga K x) none)) dx (exd dx [(f, v)])) a (exo a (He.ga K x) (some dx))) a) dx (.xd [(f, v)]) = upd H2 dx (.xd [(f, v)]) := by
      funext z
      by_cases hz : z = dx
      · rw [hz, upd_same, upd_same]
      · rw [upd_ne hz, upd_ne hz]
        by_cases hza : z = a
        · rw [hza, del_same, ha]
        · rw [del_ne hza, upd_ne hza, upd_ne hz, upd_ne hza]
    rw [e]
    have g3 : Gr F2 (upd F2 dx (.xd [(f, v)])) := Gr.new (s2.fr.back hx)
    refine q _ _ _ (g2.tr g3) (s2.lay hx) ?_
    unfold Xd
    rw [hf]
    exact ⟨dx, v, rfl, upd_same, hv.gr g3⟩
def partM (f : Str) (o : Option Xe) : Option PyData := match o with
  | some e => if fld e.1 = some f then some e.2 else none
  | none => none
theorem d_xat {cl ts : List Str} {o : Option Xe} {v : V} {i : Nat} {f : Str} {d : PyData} (X : XFc K cl ts) (hi : σ[i]? = some (some v)) (hx : Xv K cl F v o) (h : partM f o = some d) : EvD K (tXat K f (tVar i)) σ F cs d cs := fun F1 H1 g1 s Q q => by
  cases o with
  | none => cases h
  | some e =>
    obtain ⟨hc, a, dd, rfl, ha, hxd⟩ := hx
    unfold partM at h
    dsimp only at h
    split at h
    · rename_i hf
      cases h
      unfold Xd at hxd
      rw [hf] at hxd
      obtain ⟨z, w, rfl, hz, hw⟩ := hxd
      obtain ⟨x1, x2⟩ := X.fl _ hc f hf
      refine ⟨.ref a, hi, a, He.ga K e.1, z, [(f, w)], w, rfl, s.fr _ _ (g1 _ _ ha), s.fr _ _ (g1 _ _ hz), x1, x2, ?_, q w F1 H1 .rfl s (hw.gr g1)⟩
      simp [List.lookup]
    · cases h
end
end Bw
namespace Bw
open PySem L2
theorem xd0 {K : PySem.W.Frag} {F : Hp} {c : Str} {d : PyData} (h : fld c = none) : Xd K F (c, d) none := by
  unfold Xd; rw [h]
def fmM (d : PyData) : Option Unit := if fmB d = true then some () else none
theorem fmM_ok {d : PyData} {u : Unit} (h : fmM d = some u) : fmB d = true := by
  unfold fmM at h
  split at h
  · assumption
  · cases h
end Bw

namespace Bw
open PySem PySem.Spec PyProof.Rows L2
/-! an old list, repeated -/
def rRepS (K : PySem.W.Frag) : R2 := fun x y H Q => ∃ l k xs, x = .ref l ∧ y = .int k ∧ SqL K H l xs ∧ -(2 ^ 63) ≤ k ∧ k < 2 ^ 63 ∧ xs.length * k.toNat ≤ sizeLine ∧
  ∀ p, H p = none → Q (.ref p) (upd H p (.lst (List.replicate k.toNat xs).flatten))
theorem rmulW (a : Int) (t : Tok) (l : Addr) (items : Array Value) (n : Nat) (dd : Option Addr) (sl : Array (Option Value)) :
    Meets (Builtin.«int.__rmul__» ⟨[.int a t, .ref l], []⟩) (fun _ R s => s.heap.get? l = some { cls := .type "list", dict := dd, data := .seq items n, slots := sl } ∧ R (.ok (.ret Value.notImplemented)) s) :=
  .of_wp fun prog w A R s h => by
    obtain ⟨hp, g, d, tk, os⟩ := s; obtain ⟨hl, h⟩ := h
    wp_walk using PyProof.Rows.wpAny_loadPart' hl
    exact ⟨_, rfl, h⟩
theorem mulW (l : Addr) (items : Array Value) (n : Nat) (dd : Option Addr) (sl : Array (Option Value)) (x : Int) (u : Tok) (hc0 : ¬(!Builtin.List.listFitsIndex x) = true) (hc1 : ¬items.size * x.toNat > (2 ^ 63 - 1) / 8) (hc2 : ¬Builtin.List.listTooLong (items.size * x.toNat) = true) :
    Meets (Builtin.«list.__mul__» ⟨[.ref l, .int x u], []⟩) (fun _ R s => s.heap.get? l = some { cls := .type "list", dict := dd, data := .seq items n, slots := sl } ∧ R (.ok (.ret (Value.ref s.heap.objs.size))) { s with heap := s.heap.push { cls := Value.type "list", data := Data.seq (List.foldl (fun x1 x2 => x1 ++ x2) #[] (List.replicate (if items.isEmpty = true then 0 else x.toNat) items)) }, toks := s.toks }) :=
  .of_wp fun prog w A R s h => by
    obtain ⟨hp, g, d, tk, os⟩ := s; obtain ⟨hl, h⟩ := h
    have hsz := PySem.AutoListH.joined_fits hc2
    wp_walk using PyProof.Rows.wpAny_loadPart' hl
    refine wpAny_ite_false (decide_eq_false (Nat.not_lt.mpr hsz)) ?_
    wp_walk using PyProof.Rows.wpAny_loadPart' hl
    exact ⟨_, rfl, h⟩
theorem op_repS {X : Cx} : OpR X (binaryOp .Mult) (rRepS X.K) := by
  intro pins s σ H x y v u Q I rx ry h
  obtain ⟨l, k, xs, rfl, rfl, hH, h1, h2, hz, q⟩ := h
  cases rx
  obtain ⟨t, rfl⟩ := ry
  obtain ⟨its, r, pl, _⟩ := I.list hH
  have hl := r.length
  obtain ⟨⟨cls, dd, data, sl⟩, e, hc, n, hd⟩ := pl.isList
  simp only at hc hd
  subst hc hd
  have hlen : its.toArray.size * k.toNat ≤ sizeLine := by rw [List.size_toArray, ← hl]; exact hz
  have hcap : ¬ its.toArray.size * k.toNat > (2 ^ 63 - 1) / 8 := by
    have : (sizeLine : Nat) ≤ (2 ^ 63 - 1) / 8 := by decide
    omega
  have hfit : ¬ (!Builtin.List.listFitsIndex k) = true := by
    rw [fitsIndex_both h1 h2]
    exact Bool.false_ne_true
  have hlong : ¬ Builtin.List.listTooLong (its.toArray.size * k.toNat) = true := by
    rw [notLongL hlen]
    exact Bool.false_ne_true
  have hnew : List.foldl (fun x1 x2 => x1 ++ x2) #[] (List.replicate (if its.toArray.isEmpty = true then 0 else k.toNat) its.toArray) = (List.replicate k.toNat its).flatten.toArray := by
    have f0 : ∀ m : Nat, List.foldl (fun x1 x2 => x1 ++ x2) #[] (List.replicate m its.toArray) = (List.replicate m its).flatten.toArray := fun m => by
      have := foldl_rep its m []
      rw [List.nil_append] at this
      exact this
    rw [f0]
    cases its with
    | nil => simp
    | cons a r' => rw [if_neg (by simp)]
  refine wpAny_binaryOp_repeat_ref (T := "list") (U := "int") (by decide) ⟨_, e, rfl⟩ (fun s' => typeIs_int s' k t) PySem.noFill_list_mul F.fills_int_mul F.slot_int_rmul PySem.repeat_list F.slot_int_index.lookup
    (call_meets F.slot_int_rmul (typeIs_int s k t) F.entry_int_rmul (F.args_int_rmul_2 _ _) (rmulW k t l its.toArray n dd sl)
      ⟨e, rfl, ⟨_, e, rfl⟩, call_meets F.slot_list_mul ⟨_, e, rfl⟩ F.entry_list_mul (F.args_list_mul_2 _ _) (mulW l its.toArray n dd sl k t hfit hcap hlong) ⟨e, ?_⟩⟩)
  rw [hnew]
  exact ⟨.ref _, _, I.lnew (t' := s.toks) (r.rep k.toNat) (by rw [PyProof.Rows.lm_len_rep_flat, Nat.mul_comm]; exact hz), rfl, q _ I.fresh⟩
end Bw
namespace Bw
open PySem L2
section
variable {K : PySem.W.Frag} {σ : St} {F : Hp} {cs cs1 cs2 cs3 : Cs} {ta tb te : TE} {as : TA} {b : Int} {d : PyData}
theorem c_repS {α : Type} {en : α → PyData} {xs zs : List α} (ha : EvD K ta σ F cs (eL en xs) cs1) (hb : EvD K tb σ F cs1 (.int b) cs2) (hz : repM xs b = some zs) : EvC K (tOp (rRepS K) ta tb) σ F cs (zs.map en) cs2 := fun F1 H1 g1 s Q q =>
  ha F1 H1 g1 s _ fun v F2 H2 g2 s2 h2 => hb F2 H2 (g1.tr g2) s2 _ fun w F3 H3 g3 s3 h3 => by
    cases h3.toInt
    obtain ⟨p, vs, rfl, hl, hd⟩ := (h2.gr g3).toLst
    obtain ⟨⟨h4, h5, h6⟩, rfl⟩ := repM_some hz
    refine ⟨p, b, vs, rfl, rfl, gr_L s3.fr hl, h4, h5, ?_, fun l nl => q _ _ _ _ (g2.tr g3) (s3.cell nl) ?_⟩
    · rw [hd.len, List.length_map]; exact sz h6
    · rw [List.map_flatten, List.map_replicate]; exact hd.rep b.toNat
/-- {} as a thing -/
theorem d_dnew : EvD K tDNewK σ F cs (.dict []) cs := fun F1 H1 g1 s Q q => fun p hp => q _ _ _ (Gr.new (s.fr.back hp)) (s.lay hp) (.dct upd_same)
/-! a new list among the arguments -/
def EvN (K : PySem.W.Frag) (ta : TA) (σ : St) (F : Hp) (cs : Cs) (as : List Ar) (us : List V) (cc cs' : Cs) : Prop :=
  ∀ F1 H1, Gr F F1 → Sta F1 cs H1 → ∀ Q : List V → Hp → Prop, (∀ p vs F2 H2, Gr F1 F2 → Sta F2 ((p, .lst us) :: cs') H2 → ArgR K F2 vs as ((p, .lst us) :: cc) → Q vs H2) → ta σ H1 Q
theorem n_new {xs : List Ar} {cc : Cs} {ds : List PyData} {us : List V} (h : EvC K te σ F cs ds cs1) (hu : ∀ F vs, Dts K F vs ds → vs = us) (h2 : ∀ p, EvR K as σ F ((p, .lst us) :: cs1) xs cc ((p, .lst us) :: cs2)) : EvN K (tCons te as) σ F cs (.c us :: xs) us cc cs2 := fun F1 H1 g1 s Q q =>
  h F1 H1 g1 s _ fun p vs F2 H2 g2 s2 hv => by
    cases hu F2 vs hv
    exact h2 p F2 H2 (g1.tr g2) s2 _ fun ws F3 H3 g3 s3 h3 => q p _ F3 H3 (g2.tr g3) s3 (.c h3)
theorem n_d {xs : List Ar} {cc : Cs} {us : List V} (h : EvD K te σ F cs d cs1) (h2 : EvN K as σ F cs1 xs us cc cs2) : EvN K (tCons te as) σ F cs (.d d :: xs) us cc cs2 := fun F1 H1 g1 s Q q =>
  h F1 H1 g1 s _ fun v F2 H2 g2 s2 hv => h2 F2 H2 (g1.tr g2) s2 _ fun p vs F3 H3 g3 s3 h3 => q p _ F3 H3 (g2.tr g3) s3 (.d (hv.gr g3) h3)
theorem d_callM {α β : Type} {A : α → List Ar} {B : β → PyData} {C : β → List (List V)} {f : α → Option β} {x : α} {y : β} {E : XK} {cc cs' : Cs} {us : List V} (h : EvN K as σ F cs (A x) us cc cs2)
    (hp : ∀ p, Sb ((p, .lst us) :: cs2) ((p, .lst us) :: cc ++ cs')) (hf : f x = some y) (hq : ∀ p, Sb (upC ((p, .lst us) :: cc) (C y) ++ cs') cs3) : EvD K (tCall (spC K A B C f) [] E as) σ F cs (B y) cs3 := fun F1 H1 g1 s Q q =>
  h F1 H1 g1 s _ fun p vs F3 H3 g3 s3 h3 => ⟨F3, (p, .lst us) :: cc, cs', x, y, by rw [List.append_nil]; exact h3, hp p _ _ s3, hf, fun v F4 H4 g4 s4 h4 => q v F4 H4 (g3.tr g4) (hq p _ _ s4) h4⟩
theorem c_callM {α β : Type} {A : α → List Ar} {B : β → List PyData} {C : β → List (List V)} {f : α → Option β} {x : α} {y : β} {E : XK} {cc cs' : Cs} {us : List V} (h : EvN K as σ F cs (A x) us cc cs2)
    (hp : ∀ p, Sb ((p, .lst us) :: cs2) ((p, .lst us) :: cc ++ cs')) (hf : f x = some y) (hq : ∀ p z, Sb (z :: (upC ((p, .lst us) :: cc) (C y) ++ cs')) (z :: cs3)) : EvC K (tCall (spF K A B C f) [] E as) σ F cs (B y) cs3 := fun F1 H1 g1 s Q q =>
  h F1 H1 g1 s _ fun p vs F3 H3 g3 s3 h3 => ⟨F3, (p, .lst us) :: cc, cs', x, y, by rw [List.append_nil]; exact h3, hp p _ _ s3, hf, fun p' us' F4 H4 g4 s4 h4 => q p' us' F4 H4 (g3.tr g4) (hq p _ _ _ s4) h4⟩
theorem o_callRM {α β : Type} {A : α → List Ar} {C : β → List (List V)} {R : β → Hp → V → Cs → Prop} {f : α → Option β} {x : α} {y : β} {E : XK} {cc cs' : Cs} {us : List V} {H : Hp} {Q : VK} (s : Sta F cs H) (h : EvN K as σ F cs (A x) us cc cs2)
    (hp : ∀ p, Sb ((p, .lst us) :: cs2) ((p, .lst us) :: cc ++ cs')) (hf : f x = some y) (hq : ∀ p, Su (upC ((p, .lst us) :: cc) (C y) ++ cs') cs3) (q : ∀ v c F2 H2, Gr F F2 → Sta F2 (c ++ cs3) H2 → R y F2 v c → Q v H2) : tCall (spR K A C R f) [] E as σ H Q :=
  h F H .rfl s _ fun p vs F3 H3 g3 s3 h3 => ⟨F3, (p, .lst us) :: cc, cs', x, y, by rw [List.append_nil]; exact h3, hp p _ _ s3, hf, fun v c F4 H4 g4 s4 r => q v c F4 H4 (g3.tr g4) ((su_app (hq p)).sb _ _ s4) r⟩
theorem d_callRM {α β : Type} {A : α → List Ar} {C : β → List (List V)} {R : β → Hp → V → Cs → Prop} {B : β → PyData} {f : α → Option β} {x : α} {y : β} {E : XK} {cc cs' : Cs} {us : List V} (hR : ∀ y F H v c cs, R y F v c → Sta F (c ++ cs) H → ∃ F', Gr F F' ∧ Sta F' cs H ∧ Dt K F' v (B y)) (h : EvN K as σ F cs (A x) us cc cs2)
    (hp : ∀ p, Sb ((p, .lst us) :: cs2) ((p, .lst us) :: cc ++ cs')) (hf : f x = some y) (hq : ∀ p, Su (upC ((p, .lst us) :: cc) (C y) ++ cs') cs3) : EvD K (tCall (spR K A C R f) [] E as) σ F cs (B y) cs3 := fun F1 H1 g1 s Q q =>
  o_callRM s (fun F2 H2 g2 => h F2 H2 (g1.tr g2)) hp hf hq fun v c F3 H3 g3 s3 r => by
    obtain ⟨F4, g4, s4, d4⟩ := hR y F3 H3 v c cs3 r s3
    exact q v F4 H3 (g3.tr g4) s4 d4
/-! a function of one thing, a kept exception or None -/
def spX (K : PySem.W.Frag) (cl : List Str) {β : Type} (B : β → PyData) (f : Option Xe → Option β) : Sp := fun vs H Q _ => ∃ F cs v o y, vs = [v] ∧ Xv K cl F v o ∧ Sta F cs H ∧ f o = some y ∧ ∀ v2 F2 H2, Gr F F2 → Sta F2 cs H2 → Dt K F2 v2 (B y) → Q v2 H2
theorem d_callX1 {cl : List Str} {β : Type} {B : β → PyData} {f : Option Xe → Option β} {o : Option Xe} {y : β} {v : V} {i : Nat} {E : XK} (hi : σ[i]? = some (some v)) (hx : Xv K cl F v o) (hf : f o = some y) : EvD K (tCall (spX K cl B f) [] E (tCons (tVar i) tNil)) σ F cs (B y) cs := fun F1 H1 g1 s Q q =>
  ⟨v, hi, F1, cs, v, o, y, rfl, hx.gr g1, s, hf, fun v2 F2 H2 g2 s2 h2 => q v2 F2 H2 g2 s2 h2⟩
end
end Bw
namespace Bw
open PySem L2
section
variable {K : PySem.W.Frag} {σ : St} {F : Hp} {cs cs1 cs2 : Cs} {ta tb : TE}
/-! and, or: where a later part changes cells -/
theorem t_andC {t u : TT} {a r : Bool} (h1 : EvT t σ F cs a cs1) (h2 : a = true → EvT u σ F cs1 r cs2) (h4 : a = false → r = false ∧ cs1 = cs2) : EvT (tAnd t u) σ F cs r cs2 := fun F1 H1 g1 s Q q => h1 F1 H1 g1 s _ fun F2 H2 g2 s2 => by
  cases a with
  | true => exact h2 rfl F2 H2 (g1.tr g2) s2 Q fun F3 H3 g3 s3 => q F3 H3 (g2.tr g3) s3
  | false => obtain ⟨e1, e2⟩ := h4 rfl; rw [e1] at q; rw [e2] at s2; exact q F2 H2 g2 s2
theorem t_orC {t u : TT} {a r : Bool} (h1 : EvT t σ F cs a cs1) (h2 : a = false → EvT u σ F cs1 r cs2) (h4 : a = true → r = true ∧ cs1 = cs2) : EvT (tOr t u) σ F cs r cs2 := fun F1 H1 g1 s Q q => h1 F1 H1 g1 s _ fun F2 H2 g2 s2 => by
  cases a with
  | false => exact h2 rfl F2 H2 (g1.tr g2) s2 Q fun F3 H3 g3 s3 => q F3 H3 (g2.tr g3) s3
  | true => obtain ⟨e1, e2⟩ := h4 rfl; rw [e1] at q; rw [e2] at s2; exact q F2 H2 g2 s2
theorem d_andC {a r : Bool} (h1 : EvD K ta σ F cs (.bool a) cs1) (h2 : a = true → EvD K tb σ F cs1 (.bool r) cs2) (h4 : a = false → r = false ∧ cs1 = cs2) : EvD K (tAndV ta tb) σ F cs (.bool r) cs2 := fun F1 H1 g1 s Q q => h1 F1 H1 g1 s _ fun v F2 H2 g2 s2 hv => ⟨a, hv.toBl, by
  cases a with
  | true => exact h2 rfl F2 H2 (g1.tr g2) s2 Q fun v F3 H3 g3 s3 k => q v F3 H3 (g2.tr g3) s3 k
  | false => obtain ⟨e1, e2⟩ := h4 rfl; rw [e1] at q; rw [e2] at s2; exact q _ F2 H2 g2 s2 (.bl false)⟩
theorem d_orC {a r : Bool} (h1 : EvD K ta σ F cs (.bool a) cs1) (h2 : a = false → EvD K tb σ F cs1 (.bool r) cs2) (h4 : a = true → r = true ∧ cs1 = cs2) : EvD K (tOrV ta tb) σ F cs (.bool r) cs2 := fun F1 H1 g1 s Q q => h1 F1 H1 g1 s _ fun v F2 H2 g2 s2 hv => ⟨a, hv.toBl, by
  cases a with
  | false => exact h2 rfl F2 H2 (g1.tr g2) s2 Q fun v F3 H3 g3 s3 k => q v F3 H3 (g2.tr g3) s3 k
  | true => obtain ⟨e1, e2⟩ := h4 rfl; rw [e1] at q; rw [e2] at s2; exact q _ F2 H2 g2 s2 (.bl true)⟩
end
end Bw
namespace Bw
open PySem L2
def clsB : Stmt → List Stmt
  | .ClassDef (body := b) .. => b
  | _ => []
abbrev eT5 {α β γ δ ε : Type} (e : α → PyData) (f : β → PyData) (g : γ → PyData) (h : δ → PyData) (i : ε → PyData) (x : α × β × γ × δ × ε) : PyData := .tuple [e x.1, f x.2.1, g x.2.2.1, h x.2.2.2.1, i x.2.2.2.2]
end Bw

namespace L2
open PySem PySem.Spec PyProof.Rows
/-! an instance is made, and its __init__ may raise -/
def tMakeS (C : Addr) (sp : Sp) (E : St → XK) (t : TA) : TE := fun σ H Q => t σ H fun vs H1 => ∀ x dx, H1 x = none → H1 dx = none → dx ≠ x →
  sp (.ref x :: vs) (upd (upd H1 dx (.own x)) x (.ins C dx [])) (fun v H2 => v = .non ∧ Q (.ref x) H2) (E σ)
section
variable {X : Cx} {CX : CXT} {k : Nat} {f C : Addr} {fd : FuncData} {ps : List Str} {sp : Sp} {E : St → XK} {x m : Str} {p pos apos : Pos} {e o : Expr} {es : List Expr} {ta : TE} {t : TA}
theorem run_makeS {pins : List (Addr × Obj)} {σ : St} {H : Hp} {s : Shared} {Q : VK} {us : List Value} {vs : List V} (M : Mk X.K C f) (F : FnOk X.prog X.w X.K X.mg X.base CX k f fd ps sp) (hr : Room (k + 1) X.A) (hb : Binds X.K fd ps [])
    (hx : PassesAt CX X σ (E σ)) (I : Inv X pins σ H s) (r : Vals vs us)
    (h : ∀ x dx, H x = none → H dx = none → dx ≠ x → sp (.ref x :: vs) (upd (upd H dx (.own x)) x (.ins C dx [])) (fun v H2 => v = .non ∧ Q (.ref x) H2) (E σ)) :
    wpAny (model X.prog X.w) X.A (call (.ref C) us) (EP X pins σ Q) X.xe s := by
  have hq := h (s.heap.objs.size + 1) s.heap.objs.size (I.hok.fresh (Nat.le_succ _)) (I.hok.fresh (Nat.le_refl _)) (Nat.ne_of_lt (Nat.lt_succ_self _))
  have I2 := Inv.made (C := C) I
  have r2 : Vals (V.ref (s.heap.objs.size + 1) :: vs) (Value.ref (s.heap.objs.size + 1) :: us) := .cons rfl r
  have hl : (Value.ref (s.heap.objs.size + 1) :: us).length = ps.length := by
    have e := r2.length
    rw [F.len _ _ _ _ hq] at e
    exact e.symm
  have b := hb _ (Value.ref (s.heap.objs.size + 1) :: us) I2.kIn (by rw [List.append_nil]; exact hl)
  rw [List.append_nil] at b
  refine wpAny_call (make_map (f := f) I.kIn M.makes M.init (beq_iff_eq.mp M.fn) (codeAny_mono (F.run _ X.stack _ _ ⟨Value.ref (s.heap.objs.size + 1) :: us, []⟩ (Value.ref (s.heap.objs.size + 1) :: us) _ _ (E σ) (hr.make C us [])
    (I2.env0.make C us []) b r2 hq) fun r s' hq' => ?_))
  cases r with
  | error e => exact hx pins _ _ e s' I2 hq'
  | ok fl =>
    cases fl with
    | ret u =>
      obtain ⟨v, H', I3, rv, ev, q3⟩ := I2.after hq'
      subst ev
      exact ⟨rv, ⟨V.ref (s.heap.objs.size + 1), H', I3, rfl, q3⟩⟩
    | next => exact False.elim hq'
    | brk => exact False.elim hq'
    | cont => exact False.elim hq'
theorem pe_makeS (M : Mk X.K C f) (F : FnOk X.prog X.w X.K X.mg X.base CX k f fd ps sp) (hr : Room (k + 1) X.A) (hg : Gl X x) (hm : X.mg x = some (.ref C)) (hb : Binds X.K fd ps []) (hx : ∀ σ, PassesAt CX X σ (E σ))
    (ha : PA X (e :: es) t) (hdb : (x == ("__debug__" : Str)) = false := by decide) (he : starEach (e :: es) X.env = (false, eval e X.env) :: starEach es X.env := by rfl) (hpl : (backTo pos (starEach es X.env)).any (·.1) = false := by rfl) :
    PE X (.Call (.Name x p) (e :: es) [] pos) (tMakeS C sp E t) := by
  refine ⟨fun pins s σ H Q I h => ?_⟩
  refine wpAny_Call_Name_kw (ld_glob I hg hm ?_ hdb)
  refine PySem.W.callWith_K (h₀ := X.base) I.ok.mod.kin M.kp (thn (ha.run pos pins s σ H _ I h) fun us s1 ⟨vs, H1, I1, r, q⟩ => ⟨I1.kIn, ?_⟩) he hpl
  exact run_makeS M F hr hb (hx σ) I1 r q
end
end L2
namespace Bw
open PySem L2
/-- a promise of an __init__ that ends by an exception -/
def spMX (K : PySem.W.Frag) (C : Addr) {α : Type} (A : α → List PyData) (f : α → Option (Rs Unit)) : Sp := fun vs H _ E => ∃ F cs a dx ws x e, vs = .ref a :: ws ∧ Dts K F ws (A x) ∧ Sta F ((a, .ins C dx []) :: (dx, .own a) :: cs) H ∧ f x = some (.ex e) ∧
  ∀ d F2 H2, Gr F F2 → Sta F2 cs H2 → Xd K F2 e d → E (.ref (He.ga K e.1)) d H2
structure OkM (P : Program) (w : World) (K : PySem.W.Frag) (mg : Str → Option Value) (base : Heap) (k : Nat) (x : Str) (ps : List Str) (sp : Sp) : Prop where
  ex : ∃ fd, FnOk P w K mg base (L2.CX P w) k (He.ma K (He.ga K x) "__init__") fd ps sp ∧ Binds K fd ps []
  gm : mg x = some (.ref (He.ga K x))
  mkr : Mk K (He.ga K x) (He.ma K (He.ga K x) "__init__")
/-- a method's def -/
def DfM (K : PySem.W.Frag) (c m q : Str) (st : Stmt) : Prop := ∃ fd, FunD K m q (defArgs st) (defBody st) (defScope st) [] [] (He.ma K (He.ga K c) m) fd
section
variable {K : PySem.W.Frag} {σ : St} {F : Hp} {cs cs1 : Cs} {H : Hp} {as : TA} {W : WX}
theorem x_makeX {α : Type} {C : Addr} {A : α → List PyData} {f : α → Option (Rs Unit)} {x : α} {e : Xe} (h : EvDs K as σ F cs (A x) cs1) (hf : f x = some (.ex e)) : EvX K (tMakeS C (spMX K C A f) (WE W) as) W σ F cs (.ex e) cs1 := fun F1 H1 g1 s Q q qx =>
  h F1 H1 g1 s _ fun vs F2 H2 g2 s2 h2 => fun a dx ha hdx hne => by
    have s3 : Sta F2 ((dx, .own a) :: cs1) (upd H2 dx (.own a)) := s2.cell hdx
    have s4 : Sta F2 ((a, .ins C dx []) :: (dx, .own a) :: cs1) (upd (upd H2 dx (.own a)) a (.ins C dx [])) := s3.cell (by rw [upd_ne (Ne.symm hne)]; exact ha)
    exact ⟨F2, cs1, a, dx, vs, x, e, rfl, h2, s4, hf, fun d F3 H3 g3 s5 xd => qx e rfl d F3 H3 (g2.tr g3) s5 xd⟩
end
end Bw
namespace Bw
open PySem L2
theorem exinj {β : Type} {c e : Xe} (h : some (Rs.ex c : Rs β) = some (.ex e)) : c = e := by cases h; rfl
end Bw
namespace Bw
open PySem L2
theorem ref_inj {a b : Addr} (h : (some (Value.ref a) : Option Value) = some (Value.ref b)) : a = b := by cases h; rfl
end Bw
namespace Bw
open PySem L2
section
variable {K : PySem.W.Frag} {σ : St} {F : Hp} {te : TE}
theorem s_insGV {α : Type} {en : α → PyData} {k1 k2 m1 m2 l1 l2 : Cs} {to ti : TE} {p : Addr} {vs : List V} {xs ys : List α} {x : α} {k : Int} {nx bk ct : St → Hp → Prop} {rt : VK} {H : Hp} (s : Sta F (k1 ++ (p, .lst vs) :: k2) H) (hf : Dts K F vs (xs.map en)) (hi : VP to σ F (k1 ++ (p, .lst vs) :: k2) (.ref p))
    (h1 : EvD K ti σ F (k1 ++ (p, .lst vs) :: k2) (.int k) (m1 ++ (p, .lst vs) :: m2)) (h : EvD K te σ F (m1 ++ (p, .lst vs) :: m2) (en x) (l1 ++ (p, .lst vs) :: l2)) (hm : insM xs k x = some ys)
    (q : ∀ us F2 H2, Gr F F2 → Sta F2 (l1 ++ (p, .lst us) :: l2) H2 → Dts K F2 us (ys.map en) → nx σ H2) : tDrop (tBM K "list" rInsert to (tCons ti (tCons te tNil))) ⟨nx, rt, bk, ct⟩ σ H := by
  unfold insM at hm; split at hm
  · rename_i hl
    cases hm
    refine hi F H .rfl s _ ⟨.inl ⟨rfl, _, .inl (.inl s.getAt)⟩, h1 F H .rfl s _ fun v F2 H2 g2 s2 hv => h F2 H2 g2 s2 _ fun w F3 H3 g3 s3 hx => ⟨p, vs, k, w, rfl, by rw [hv.toInt], s3.getAt, by rw [hf.len, List.length_map]; exact szl hl.1, hl.2.1, hl.2.2, q _ F3 _ (g2.tr g3) s3.putAt ?_⟩⟩
    rw [List.map_append, List.map_append, List.map_take, List.map_drop]
    have hf3 := hf.gr (g2.tr g3)
    exact ((hf3.take _).app (.cons hx .nil)).app (hf3.drop _)
  · cases hm
end
end Bw

namespace Bw
open PySem L2
/-! a dict that is walked is locked the while -/
theorem nt_f {o : Obj} {kvs : List (Key × V)} : nTup (.frz o (.dK kvs)) := fun xs => ⟨fun z => (nomatch z), fun _ z => by cases z⟩
theorem Sta.lockAt {F : Hp} {l1 l2 : Cs} {H : Hp} {p : Addr} {o o' : HO} (s : Sta F (l1 ++ (p, o) :: l2) H) : Sta (upd F p o') (l1 ++ l2) (upd H p o') := (s.putAt (o' := o')).frozeAt
theorem Sta.unlockAt {F F2 : Hp} {l1 l2 : Cs} {H2 : Hp} {p : Addr} {o o' : HO} (g : Gr (upd F p o') F2) (s : Sta F2 (l1 ++ l2) H2) : Sta (cut F2 p) (l1 ++ (p, o) :: l2) (upd H2 p o) := (Sta.lent g s).putAt
section
variable {K : PySem.W.Frag} {σ : St} {F : Hp} {cs cs1 : Cs} {te : TE} {d : PyData}
theorem c_lock {l1 l2 m1 m2 : Cs} {p : Addr} {kvs : List (Key × V)} {ds : List PyData} (hn : noLs ds = true) (h : ∀ od F1, Gr F F1 → F1 p = none → EvC K te σ (upd F1 p (.frz od (.dK kvs))) (l1 ++ l2) ds (m1 ++ m2)) :
    EvC K (tLockE te) σ F (l1 ++ (p, .dK kvs) :: l2) ds (m1 ++ (p, .dK kvs) :: m2) := fun F1 H1 g1 s Q q => by
  refine ⟨p, .dK kvs, s.getAt, True.intro, fun od => ?_⟩
  refine h od F1 g1 s.freeAt (upd F1 p (.frz od (.dK kvs))) _ .rfl s.lockAt _ fun a vs F2 H2 g2 s2 h2 => ?_
  refine ⟨s2.fr _ _ (g2 p _ upd_same), ?_⟩
  exact q a vs (cut F2 p) _ (gr_cut s.freeAt g2) (Sta.unlockAt (l1 := (a, .lst vs) :: m1) g2 s2) (h2.cutO (g2 p _ upd_same) nt_f hn)
theorem src_items {κ ν : Type} {p : Addr} {od : Obj} {xs : List (κ × ν)} {kf : κ → Key} {vf : ν → V} {ek : κ → PyData} {ev : ν → PyData} (hk : ∀ F k, Dt K F (kV (kf k)) (ek k)) (hv : ∀ F x, Dt K F (vf x) (ev x)) (h : F p = some (.frz od (.dK (kvE kf vf xs)))) : Src K (Iti p od (kvE kf vf xs)) F (xs.map (eT2 ek ev)) := fun F1 c1 H1 g s => by
  have hH : H1 p = some (.frz od (.dK (kvE kf vf xs))) := s.fr _ _ (g _ _ h)
  have w := walk_items (d := p) (o := od) (kvs := kvE kf vf xs)
  have len : (kvE kf vf xs).length = xs.length := List.length_map ..
  refine ⟨fun i hi => w.goes i H1 (by rw [len]; simpa using hi) hH, ?_, fun i v H2 d e y => ?_⟩
  · have := w.stops H1 hH
    rw [len] at this
    rw [List.length_map]; exact this
  · rw [List.getElem?_map] at e
    cases ex : xs[i]? with
    | none => rw [ex] at e; cases e
    | some kv =>
      rw [ex] at e
      cases e
      have hi := (List.getElem?_eq_some_iff.mp ex).1
      obtain ⟨T, x, z, rfl, nT, rfl, hx, hz⟩ := w.yields i H1 v H2 (by rw [len]; exact hi) hH y
      have ek : (kvE kf vf xs)[i]? = some (kf kv.1, vf kv.2) := by unfold kvE; rw [List.getElem?_map, ex]; rfl
      dsimp only at hx hz
      rw [ek] at hx hz
      cases hx
      cases hz
      have gg := Gr.new (o := .tup [kV (kf kv.1), vf kv.2]) (s.fr.back nT)
      exact ⟨_, gg, s.lay nT, .tup (.inl (.inl upd_same)) (.cons (hk _ _) (.cons (hv _ _) .nil))⟩
theorem i_items {κ ν : Type} {p : Addr} {od : Obj} {xs : List (κ × ν)} {kf : κ → Key} {vf : ν → V} {ek : κ → PyData} {ev : ν → PyData} (hk : ∀ F k, Dt K F (kV (kf k)) (ek k)) (hv : ∀ F x, Dt K F (vf x) (ev x)) (hi : VP te σ F cs (.ref p)) (h : F p = some (.frz od (.dK (kvE kf vf xs)))) : EvI K (iItems te) σ F cs (xs.map (eT2 ek ev)) cs := fun F1 H1 g1 s R q =>
  hi F1 H1 g1 s _ ⟨p, od, _, rfl, s.fr _ _ (g1 _ _ h), q _ F1 H1 .rfl s (src_items hk hv (g1 _ _ h))⟩
end
end Bw

namespace Bw
open PySem L2
section
variable {K : PySem.W.Frag} {σ : St} {F : Hp} {cs cs1 cs2 : Cs} {te : TE} {d : PyData}
/-! comprehensions whose tests and elements change cells -/
theorem c_lcT {S α β : Type} {wi : TI} {g : TG} {tt : TT} {vs : List Nat} {xs : List α} {en : α → PyData} {em : β → PyData} {f : S → α → Option (S × Option β)} {ys : List β} {s0 s1 : S} (cc : S → Cs)
    (hi : EvI K wi σ F cs (xs.map en) (cc s0)) (hm : lcSC f s0 xs = some (s1, ys))
    (turn : ∀ x z z' o v F1 p us, Gr F F1 → Dt K F1 v (en x) → f z x = some (z', o) → ∃ (σ2 : St) (z1 : S), (∀ H (Q : St → Hp → Prop), Sta F1 ((p, .lst us) :: cc z) H → Q σ2 H → g v (wipe σ vs) H Q) ∧ wipe σ2 vs = wipe σ vs ∧
      EvT tt σ2 F1 ((p, .lst us) :: cc z) o.isSome ((p, .lst us) :: cc z1) ∧ (o = none → z' = z1) ∧ ∀ y, o = some y → EvD K te σ2 F1 ((p, .lst us) :: cc z1) (em y) ((p, .lst us) :: cc z')) :
    EvC K (tLc wi g tt te vs) σ F cs (ys.map em) (cc s1) := fun F1 H1 g1 s Q q => by
  unfold lcSC at hm
  split at hm
  case isFalse => cases hm
  rename_i hl
  refine hi F1 H1 g1 s _ fun J F2 H2 g2 s2 hs => ?_
  intro p hp
  have s3 : Sta F2 ((p, .lst []) :: cc s0) (upd H2 p (.lst [])) := s2.cell hp
  refine ⟨fun i m H4 => m = xs.length - i ∧ i ≤ xs.length ∧ ∃ us done rest z F4, us.length ≤ i ∧ Gr F2 F4 ∧ Sta F4 ((p, .lst us) :: cc z) H4 ∧ Dts K F4 us (done.map em) ∧ lcS f z (xs.drop i) = some (s1, rest) ∧ done ++ rest = ys,
    ⟨xs.length, by simp, Nat.zero_le _, [], [], ys, s0, F2, Nat.le_refl _, .rfl, s3, .nil, by simpa using hm, rfl⟩, ?_⟩
  rintro i m H4 ⟨rfl, hi, us, done, rest, z, F4, hu, g4, s4, hd, hr, he⟩
  obtain ⟨hgo, hstop, hy⟩ := hs F4 _ H4 g4 s4
  by_cases hlt : i < xs.length
  · rw [List.drop_eq_getElem_cons hlt] at hr
    obtain ⟨⟨z', o⟩, ho, hr⟩ := bnd (show (f z xs[i]).bind _ = some (s1, rest) from hr)
    obtain ⟨⟨s1', zs⟩, hz, hr⟩ := bnd hr
    dsimp only at hz hr
    refine .inr ⟨hgo i (by simpa using hlt), fun H' => i + 1 ≤ xs.length ∧ ∃ us done rest z F4, us.length ≤ i + 1 ∧ Gr F2 F4 ∧ Sta F4 ((p, .lst us) :: cc z) H' ∧ Dts K F4 us (done.map em) ∧ lcS f z (xs.drop (i + 1)) = some (s1, rest) ∧ done ++ rest = ys, fun H' h' => ⟨xs.length - (i + 1), by omega, rfl, h'⟩, fun x H' y => ?_⟩
    obtain ⟨F5, g5, s5, d5⟩ := hy i x H' (en xs[i]) (by rw [List.getElem?_map, List.getElem?_eq_getElem hlt]; rfl) y
    obtain ⟨σ2, z1, h1, h2, h3, hn, h4⟩ := turn xs[i] z z' o x F5 p us (g1.tr (g2.tr (g4.tr g5))) d5 ho
    refine h1 H' _ s5 ⟨h2, h3 F5 H' .rfl s5 _ fun F6 H6 g6 s6 => ?_⟩
    cases o with
    | none =>
      cases hr
      cases hn rfl
      exact ⟨hlt, us, done, zs, z', F6, Nat.le_succ_of_le hu, g4.tr (g5.tr g6), s6, hd.gr (g5.tr g6), hz, he⟩
    | some y1 =>
      cases hr
      refine (h4 y1 rfl) F6 H6 g6 s6 _ fun v F7 H7 g7 s7 hv => ⟨us, s7.at List.mem_cons_self, szl (by omega), hlt, us ++ [v], done ++ [y1], zs, z', F7, by rw [List.length_append]; exact Nat.succ_le_succ hu, g4.tr (g5.tr (g6.tr g7)), s7.put, ?_, hz, ?_⟩
      · rw [List.map_append]
        exact (hd.gr (g5.tr (g6.tr g7))).app (.cons hv .nil)
      · rw [List.append_assoc]; exact he
  · have e : i = xs.length := by omega
    subst e
    rw [List.drop_length] at hr
    cases hr
    rw [List.append_nil] at he
    subst he
    exact .inl ⟨by simpa using hstop, q p us F4 H4 (g2.tr g4) s4 hd⟩
/-! tests that may raise -/
def EvTX (K : PySem.W.Frag) (tt : TT) (W : WX) (σ : St) (F : Hp) (cs : Cs) (r : Rs Bool) (cs' : Cs) : Prop :=
  ∀ F1 H1, Gr F F1 → Sta F1 cs H1 → ∀ Q : Bool → Hp → Prop, (∀ b, r = .ok b → ∀ F2 H2, Gr F1 F2 → Sta F2 cs' H2 → Q b H2) → (∀ c, r = .ex c → ∀ d F2 H2, Gr F1 F2 → Sta F2 cs' H2 → Xd K F2 c d → W (.ref (He.ga K c.1)) d σ H2) → tt σ H1 Q
def andXM (a : Rs Bool) (b : Unit → Option (Rs Bool)) : Option (Rs Bool) := match a with
  | .ok true => b ()
  | .ok false => some (.ok false)
  | .ex c => some (.ex c)
def orXM (a : Rs Bool) (b : Unit → Option (Rs Bool)) : Option (Rs Bool) := match a with
  | .ok false => b ()
  | .ok true => some (.ok true)
  | .ex c => some (.ex c)
variable {W : WX} {t u : TT}
theorem tx_of {b : Bool} (h : EvT t σ F cs b cs1) : EvTX K t W σ F cs (.ok b) cs1 := fun F1 H1 g1 s Q q _ => h F1 H1 g1 s _ fun F2 H2 g2 s2 => q b rfl F2 H2 g2 s2
theorem tx_and {a r : Rs Bool} {b : Unit → Option (Rs Bool)} (h1 : EvTX K t W σ F cs a cs1) (hm : andXM a b = some r) (h2 : ∀ r', b () = some r' → EvTX K u W σ F cs1 r' cs1) : EvTX K (tAnd t u) W σ F cs r cs1 := fun F1 H1 g1 s Q q qx =>
  h1 F1 H1 g1 s _ (fun b' hb F2 H2 g2 s2 => by
    subst hb
    cases b' with
    | true => exact (h2 r hm) F2 H2 (g1.tr g2) s2 Q (fun b e F3 H3 g3 s3 => q b e F3 H3 (g2.tr g3) s3) fun c e d F3 H3 g3 s3 xd => qx c e d F3 H3 (g2.tr g3) s3 xd
    | false =>
      cases (show some (Rs.ok false) = some r from hm)
      exact q false rfl F2 H2 g2 s2) fun c hc d F2 H2 g2 s2 xd => by
    subst hc
    cases (show some (Rs.ex c) = some r from hm)
    exact qx c rfl d F2 H2 g2 s2 xd
theorem tx_or {a r : Rs Bool} {b : Unit → Option (Rs Bool)} (h1 : EvTX K t W σ F cs a cs1) (hm : orXM a b = some r) (h2 : ∀ r', b () = some r' → EvTX K u W σ F cs1 r' cs1) : EvTX K (tOr t u) W σ F cs r cs1 := fun F1 H1 g1 s Q q qx =>
  h1 F1 H1 g1 s _ (fun b' hb F2 H2 g2 s2 => by
    subst hb
    cases b' with
    | false => exact (h2 r hm) F2 H2 (g1.tr g2) s2 Q (fun b e F3 H3 g3 s3 => q b e F3 H3 (g2.tr g3) s3) fun c e d F3 H3 g3 s3 xd => qx c e d F3 H3 (g2.tr g3) s3 xd
    | true =>
      cases (show some (Rs.ok true) = some r from hm)
      exact q true rfl F2 H2 g2 s2) fun c hc d F2 H2 g2 s2 xd => by
    subst hc
    cases (show some (Rs.ex c) = some r from hm)
    exact qx c rfl d F2 H2 g2 s2 xd
theorem tx_v {r : Rs Bool} (h : EvX K te W σ F cs (r.map PyData.bool) cs1) : EvTX K (tB te) W σ F cs r cs1 := fun F1 H1 g1 s Q q qx =>
  h F1 H1 g1 s _ (fun d hd v F2 H2 g2 s2 hv => by
    cases r with
    | ok b => cases hd; exact ⟨b, hv.toBl, q b rfl F2 H2 g2 s2⟩
    | ex c => cases hd) fun c hc d F2 H2 g2 s2 xd => by
    cases r with
    | ok b => cases hc
    | ex c' => cases hc; exact qx c rfl d F2 H2 g2 s2 xd
theorem tx_test {r : Rs Bool} (h : EvX K te W σ F cs (r.map PyData.bool) cs1) : EvTX K (tTest te) W σ F cs r cs1 := tx_v h
theorem x_isN {α : Type} {r : Rs α} (h : EvX K te W σ F cs (r.map fun _ => PyData.none) cs1) : EvX K (tOp rIsN te (tC .non)) W σ F cs ((r.map fun _ => true).map PyData.bool) cs1 := fun F1 H1 g1 s Q q qx =>
  h F1 H1 g1 s _ (fun d hd v F2 H2 g2 s2 hv => by
    cases r with
    | ok b =>
      cases hd
      cases hv.toNon
      exact ⟨rfl, q _ rfl _ F2 H2 g2 s2 (.bl _)⟩
    | ex c => cases hd) fun c hc d F2 H2 g2 s2 xd => by
    cases r with
    | ok b => cases hc
    | ex c' => cases hc; exact qx c rfl d F2 H2 g2 s2 xd
theorem x_isi {α : Type} {e : α → PyData} {r : Rs α} {c : String} (hc : c ∈ isiK) (h : EvX K te W σ F cs (r.map e) cs1) : EvX K (tCB (rIsi K) (tCons te (tCons (tC (.ty c)) tNil))) W σ F cs ((r.map fun y => isiD c (e y)).map PyData.bool) cs1 := fun F1 H1 g1 s Q q qx =>
  h F1 H1 g1 s _ (fun d hd v F2 H2 g2 s2 hv => by
    cases r with
    | ok b =>
      cases hd
      exact ⟨v, .ty c, .type (kindD (e b)), .type c, isiD c (e b), rfl, .ty c, ty_of s2.fr hv, kit_isi hc (e b), q _ rfl _ F2 H2 g2 s2 (.bl _)⟩
    | ex c => cases hd) fun c hc d F2 H2 g2 s2 xd => by
    cases r with
    | ok b => cases hc
    | ex c' => cases hc; exact qx c rfl d F2 H2 g2 s2 xd
theorem s_ifX {c : TT} {r r' : Rs Bool} {t u : TS} {H : Hp} {nx bk ct : St → Hp → Prop} {rt : VK} (s : Sta F cs H) (h : EvTX K c W σ F cs r cs1) (e : r = r') (qt : r' = .ok true → ∀ F2 H2, Gr F F2 → Sta F2 cs1 H2 → t ⟨nx, rt, bk, ct⟩ σ H2) (qf : r' = .ok false → ∀ F2 H2, Gr F F2 → Sta F2 cs1 H2 → u ⟨nx, rt, bk, ct⟩ σ H2)
    (qx : ∀ c, r' = .ex c → ∀ d F2 H2, Gr F F2 → Sta F2 cs1 H2 → Xd K F2 c d → W (.ref (He.ga K c.1)) d σ H2) : tIfS c t u ⟨nx, rt, bk, ct⟩ σ H := by
  subst e
  exact h F H .rfl s _ (fun b hb F2 H2 g2 s2 => by
    cases b with
    | true => exact qt hb F2 H2 g2 s2
    | false => exact qf hb F2 H2 g2 s2) qx
end
end Bw
namespace Bw
open PySem L2
/-! in range(n) -/
abbrev rRange1 : List V → Hp → VK → Prop := fun vs H Q => ∃ j, vs = [V.int j] ∧ ∀ p, H p = none → Q (.ref p) (upd H p (.rng 0 j))
theorem cr_range1' {X : Cx} : CallR X (.type "range") rRange1 := by
  intro pins s σ H vs us Q I r h
  obtain ⟨j, rfl, q⟩ := h
  obtain ⟨u1, rfl, rj⟩ := vals1 r
  obtain ⟨u, rfl⟩ := rj
  refine call_range_1 ⟨.ref s.heap.objs.size, upd H s.heap.objs.size (.rng 0 j), I.laid (t' := s.toks + 1 + 1) (fun b o e => Heap.get?_push_of_some _ e) (Nat.le_refl _) ?_, rfl, q _ (I.hok.fresh (Nat.le_refl _))⟩
  exact ⟨s.toks, u, s.toks + 1, Heap.get?_push_size _ rfl⟩
section
variable {K : PySem.W.Frag} {σ : St} {F : Hp} {cs cs1 cs2 : Cs} {ta : TE} {as : TA} {a c : Int}
theorem d_inRng1 (ha : EvD K ta σ F cs (.int a) cs1) (hb : EvDs K as σ F cs1 [.int c] cs2) : EvD K (tOp rInRng ta (tCB rRange1 as)) σ F cs (.bool (decide (0 ≤ a ∧ a < c))) cs2 := fun F1 H1 g1 s Q q =>
  ha F1 H1 g1 s _ fun v F2 H2 g2 s2 h2 => hb F2 H2 (g1.tr g2) s2 _ fun vs F3 H3 g3 s3 h3 => by
    cases h2.toInt
    obtain ⟨w, rfl, k1⟩ := h3.one; cases k1.toInt
    exact ⟨c, rfl, fun p hp => ⟨a, p, 0, c, rfl, rfl, upd_same, q _ _ _ ((g2.tr g3).tr (Gr.new (s3.fr.back hp))) (s3.lay hp) (.bl _)⟩⟩
theorem d_ninRng1 (ha : EvD K ta σ F cs (.int a) cs1) (hb : EvDs K as σ F cs1 [.int c] cs2) : EvD K (tOp rNinRng ta (tCB rRange1 as)) σ F cs (.bool (!decide (0 ≤ a ∧ a < c))) cs2 := fun F1 H1 g1 s Q q =>
  ha F1 H1 g1 s _ fun v F2 H2 g2 s2 h2 => hb F2 H2 (g1.tr g2) s2 _ fun vs F3 H3 g3 s3 h3 => by
    cases h2.toInt
    obtain ⟨w, rfl, k1⟩ := h3.one; cases k1.toInt
    exact ⟨c, rfl, fun p hp => ⟨a, p, 0, c, rfl, rfl, upd_same, q _ _ _ ((g2.tr g3).tr (Gr.new (s3.fr.back hp))) (s3.lay hp) (.bl _)⟩⟩
end
end Bw
namespace Bw
open PySem L2
section
variable {K : PySem.W.Frag} {σ : St} {F : Hp} {cs cs1 cs2 : Cs} {ta tb : TE}
theorem d_inTI {x : Int} {xs : List Int} (ha : EvD K ta σ F cs (.int x) cs1) (hb : EvD K tb σ F cs1 (.tuple (xs.map eI)) cs2) : EvD K (tOp (rIn K false) ta tb) σ F cs (.bool (inL x xs)) cs2 :=
  d_op ha hb fun _ y F2 H2 hx hy s _ Q q => by
    cases hx.toInt
    obtain ⟨p, vs, rfl, hl, hd⟩ := hy.toTup
    cases hd.ints
    refine ⟨p, _, rfl, .inr (gr_T s.fr hl), rfl, flatI xs, q _ F2 H2 .rfl s ?_⟩
    rw [inV_int]; exact .bl _
theorem d_ninTI {x : Int} {xs : List Int} (ha : EvD K ta σ F cs (.int x) cs1) (hb : EvD K tb σ F cs1 (.tuple (xs.map eI)) cs2) : EvD K (tOp (rIn K true) ta tb) σ F cs (.bool (!inL x xs)) cs2 :=
  d_op ha hb fun _ y F2 H2 hx hy s _ Q q => by
    cases hx.toInt
    obtain ⟨p, vs, rfl, hl, hd⟩ := hy.toTup
    cases hd.ints
    refine ⟨p, _, rfl, .inr (gr_T s.fr hl), rfl, flatI xs, q _ F2 H2 .rfl s ?_⟩
    rw [inV_int]; exact .bl _
theorem d_inTS {x : Str} {xs : List Str} (ha : EvD K ta σ F cs (.str x) cs1) (hb : EvD K tb σ F cs1 (.tuple (xs.map eS)) cs2) : EvD K (tOp (rIn K false) ta tb) σ F cs (.bool (inL x xs)) cs2 :=
  d_op ha hb fun _ y F2 H2 hx hy s _ Q q => by
    cases hx.toStr
    obtain ⟨p, vs, rfl, hl, hd⟩ := hy.toTup
    cases hd.strs
    refine ⟨p, _, rfl, .inr (gr_T s.fr hl), rfl, flatS xs, q _ F2 H2 .rfl s ?_⟩
    rw [inV_str]; exact .bl _
theorem d_ninTS {x : Str} {xs : List Str} (ha : EvD K ta σ F cs (.str x) cs1) (hb : EvD K tb σ F cs1 (.tuple (xs.map eS)) cs2) : EvD K (tOp (rIn K true) ta tb) σ F cs (.bool (!inL x xs)) cs2 :=
  d_op ha hb fun _ y F2 H2 hx hy s _ Q q => by
    cases hx.toStr
    obtain ⟨p, vs, rfl, hl, hd⟩ := hy.toTup
    cases hd.strs
    refine ⟨p, _, rfl, .inr (gr_T s.fr hl), rfl, flatS xs, q _ F2 H2 .rfl s ?_⟩
    rw [inV_str]; exact .bl _
end
end Bw
namespace Bw
open PySem L2
/-! list(range(n)) -/
def lrgM (a b : Int) : Option (List Int) := (rngM a b).bind fun xs => if xs.length ≤ 100000 then some xs else none
theorem c_listRg1 {K : PySem.W.Frag} {σ : St} {F : Hp} {cs cs1 : Cs} {ta : TE} {n : Int} {xs : List Int} (h : EvD K ta σ F cs (.int n) cs1) (hm : lrgM 0 n = some xs) : EvC K (tLstRg (tRg1 ta)) σ F cs (xs.map eI) cs1 := fun F1 H1 g1 s Q q => by
  obtain ⟨ys, h1, h2⟩ := bnd hm
  obtain ⟨hr, rfl⟩ := rngM_some h1
  split at h2
  case isFalse => cases h2
  rename_i hl
  cases h2
  refine h F1 H1 g1 s _ fun v F2 H2 g2 s2 hv => ?_
  cases hv.toInt
  have e : rgV 0 n = (rngL 0 n).map V.int := by unfold rgV rngL; rw [List.map_map]; rfl
  refine ⟨n, rfl, ⟨hr.1, hr.2.1, hr.2.2.1, hr.2.2.2, ?_⟩, fun p hp => ?_⟩
  · unfold rngL at hl; rw [List.length_map, List.length_range] at hl; omega
  · rw [e]
    exact q p _ F2 _ g2 (s2.cell hp) (Dts.of_ints _)
end Bw

namespace L2
open PySem PySem.Spec PyProof.Rows
/-! methods that may raise -/
def tMeE (C : Addr) (m : Str) (sp : Sp) (E : St → XK) (ta : TE) (t : TA) : TE := fun σ H Q => ta σ H fun x H1 => ∃ a dx fs, x = .ref a ∧ H1 a = some (.ins C dx fs) ∧ fs.lookup m = none ∧
  t σ H1 fun vs H2 => sp (x :: vs) H2 Q (E σ)
section
variable {X : Cx} {CX : CXT} {k : Nat} {f C : Addr} {fd : FuncData} {ps : List Str} {sp : Sp} {E : St → XK} {x m : Str} {p pos apos : Pos} {e o : Expr} {es : List Expr} {ta : TE} {t : TA}
theorem pe_meE {pl : Sem Bool} (he : PE X o ta) (c : Cls X.K C) (hm : Meth X.K C m f) (F : FnOk X.prog X.w X.K X.mg X.base CX k f fd ps sp) (hr : Room k X.A) (hb : Binds X.K fd ps []) (hx : ∀ σ, PassesAt CX X σ (E σ)) (ha : PA X (e :: es) t)
    (hst : starEach (e :: es) X.env = (false, eval e X.env) :: starEach es X.env := by rfl) (hpl : (backTo pos (starEach es X.env)).any (·.1) = false := by rfl)
    (ht : eval (.Call (.Attribute o m apos) (e :: es) [] pos) X.env = (do
      let ov ← eval o X.env
      standAt apos.atName
      let (f, first) ← holding [ov] (getMethod ov m pl)
      callWith pos f first (backTo pos (starEach (e :: es) X.env)) (backToKw pos (keywordEach [] X.env))) := by rfl) :
    PE X (.Call (.Attribute o m apos) (e :: es) [] pos) (tMeE C m sp E ta t) := by
  refine ⟨fun pins s σ H Q I h => ?_⟩
  refine PySem.W.methodCall_KW (pl := pl) (thn (he.run pins s σ H _ I h) fun u s1 ⟨x, H1, I1, rx, a, dx, fs, ex, ea, l, q⟩ => ?_) ht
  subst ex
  obtain rfl : u = Value.ref a := rx
  refine getmeth_ok I1 ea c hm l ?_
  refine PySem.W.callWith_K (first := [.ref a]) (h₀ := X.base) I.ok.mod.kin hm.kp (thn (ha.run pos pins s1 σ H1 _ I1 q) fun us s2 ⟨vs, H2, I2, r, q2⟩ => ⟨I2.kIn, ?_⟩) hst hpl
  exact run_fnS (us := .ref a :: us) (vs := .ref a :: vs) F hr hb (hx σ) I2 (.cons rfl r) q2
theorem pe_meE0 {pl : Sem Bool} (he : PE X o ta) (c : Cls X.K C) (hm : Meth X.K C m f) (F : FnOk X.prog X.w X.K X.mg X.base CX k f fd ps sp) (hr : Room k X.A) (hb : Binds X.K fd ps []) (hx : ∀ σ, PassesAt CX X σ (E σ))
    (ht : eval (.Call (.Attribute o m apos) [] [] pos) X.env = (do
      let ov ← eval o X.env
      standAt apos.atName
      let (f, first) ← holding [ov] (getMethod ov m pl)
      callWith pos f first (backTo pos (starEach [] X.env)) (backToKw pos (keywordEach [] X.env))) := by rfl) :
    PE X (.Call (.Attribute o m apos) [] [] pos) (tMeE C m sp E ta tNil) := by
  refine ⟨fun pins s σ H Q I h => ?_⟩
  refine PySem.W.methodCall_KW (pl := pl) (thn (he.run pins s σ H _ I h) fun u s1 ⟨x, H1, I1, rx, a, dx, fs, ex, ea, l, q⟩ => ?_) ht
  subst ex
  obtain rfl : u = Value.ref a := rx
  refine getmeth_ok I1 ea c hm l ?_
  exact PySem.W.callWith_K0 (first := [.ref a]) I1.kIn hm.kp (run_fnS (us := [.ref a]) (vs := [.ref a]) F hr hb (hx σ) I1 (.cons rfl .nil) q)
end
end L2
namespace Bw
open PySem L2
/-- a method that holds its promise: the same contexts as Ok (no exception) and OkX -/
structure OkMe (P : Program) (w : World) (K : PySem.W.Frag) (mg : Str → Option Value) (base : Heap) (CX : CXT) (k : Nat) (C m : Str) (ps : List Str) (sp : Sp) : Prop where
  ex : ∃ fd, FnOk P w K mg base CX k (He.ma K (He.ga K C) m) fd ps sp ∧ Binds K fd ps []
  cl : Cls K (He.ga K C)
  me : Meth K (He.ga K C) m (He.ma K (He.ga K C) m)
/-- a class that can be made -/
structure OkMk (P : Program) (w : World) (K : PySem.W.Frag) (mg : Str → Option Value) (base : Heap) (CX : CXT) (k : Nat) (C : Str) (ps : List Str) (sp : Sp) : Prop where
  ex : ∃ fd, FnOk P w K mg base CX k (He.ma K (He.ga K C) "__init__") fd ps sp ∧ Binds K fd ps []
  gm : mg C = some (.ref (He.ga K C))
  mkr : Mk K (He.ga K C) (He.ma K (He.ga K C) "__init__")
def adV : V → Addr
  | .ref a => a
  | _ => (0 : Nat)
section
variable {K : PySem.W.Frag} {σ : St} {F F' : Hp} {cs cs1 cs2 cs3 : Cs} {ta tb te tv : TE} {d : PyData} {as : TA} {nx bk ct : St → Hp → Prop} {rt : VK} {H : Hp} {t u : TS}
/-! fields -/
theorem vp_fld {a C dx : Addr} {fs : List (Str × V)} {f : Str} {v : V} (h : VP te σ F cs (.ref a)) (hm : (a, HO.ins C dx fs) ∈ cs) (c : Cls K C) (n : NoAttr K C f) (hl : fs.lookup f = some v) : VP (tFld K te f) σ F cs v :=
  fun F1 H1 g s Q q => h F1 H1 g s _ ⟨a, C, dx, fs, v, rfl, s.has _ hm, c, n, hl, q⟩
theorem s_fldO {f : Str} (h : tv σ H fun y H1 => ta σ H1 fun x H2 => ∃ a C dx fs, x = .ref a ∧ H2 a = some (.ins C dx fs) ∧ Cls K C ∧ NoAttr K C f ∧ fs.length < 1000 ∧ nx σ (upd H2 a (.ins C dx (putF f y fs)))) :
    sFld K ta tv f ⟨nx, rt, bk, ct⟩ σ H := h
theorem o_fld {Q : Hp → Prop} {l1 l2 : Cs} {a C dx : Addr} {fs fs' : List (Str × V)} {f : Str} {v : V} (s : Sta F (l1 ++ (a, .ins C dx fs) :: l2) H) (hp : VP ta σ F (l1 ++ (a, .ins C dx fs) :: l2) (.ref a)) (c : Cls K C) (n : NoAttr K C f) (hl : fs.length < 1000) (e : putF f v fs = fs')
    (q : ∀ H2, Sta F (l1 ++ (a, .ins C dx fs') :: l2) H2 → Q H2) : ta σ H fun x H2 => ∃ a C dx fs, x = .ref a ∧ H2 a = some (.ins C dx fs) ∧ Cls K C ∧ NoAttr K C f ∧ fs.length < 1000 ∧ Q (upd H2 a (.ins C dx (putF f v fs))) := by
  refine hp F H Gr.rfl s _ ⟨a, C, dx, fs, rfl, s.getAt, c, n, hl, ?_⟩
  rw [e]
  exact q _ s.putAt
theorem s_fldAdd {l1 l2 m1 m2 : Cs} {a C dx : Addr} {fs fs' : List (Str × V)} {f : Str} {w b : Int} (s : Sta F (l1 ++ (a, .ins C dx fs) :: l2) H) (hp : VP ta σ F (l1 ++ (a, .ins C dx fs) :: l2) (.ref a)) (c : Cls K C) (n : NoAttr K C f) (hk : fs.lookup f = some (.int w))
    (h : EvD K tv σ F (l1 ++ (a, .ins C dx fs) :: l2) (.int b) (m1 ++ (a, .ins C dx fs) :: m2)) (hl : fs.length < 1000) (e : putF f (.int (w + b)) fs = fs') (q : ∀ F2 H2, Gr F F2 → Sta F2 (m1 ++ (a, .ins C dx fs') :: m2) H2 → nx σ H2) :
    sFldAug K ta tv rAdd f ⟨nx, rt, bk, ct⟩ σ H := by
  refine hp F H Gr.rfl s _ ⟨a, C, dx, fs, _, rfl, s.getAt, c, n, hk, h F H Gr.rfl s _ fun v F2 H2 g2 s2 hv => ?_⟩
  cases hv.toInt
  refine ⟨w, b, rfl, rfl, dx, fs, s2.getAt, hl, ?_⟩
  rw [e]
  exact q F2 _ g2 s2.putAt
theorem s_fldSub {l1 l2 m1 m2 : Cs} {a C dx : Addr} {fs fs' : List (Str × V)} {f : Str} {w b : Int} (s : Sta F (l1 ++ (a, .ins C dx fs) :: l2) H) (hp : VP ta σ F (l1 ++ (a, .ins C dx fs) :: l2) (.ref a)) (c : Cls K C) (n : NoAttr K C f) (hk : fs.lookup f = some (.int w))
    (h : EvD K tv σ F (l1 ++ (a, .ins C dx fs) :: l2) (.int b) (m1 ++ (a, .ins C dx fs) :: m2)) (hl : fs.length < 1000) (e : putF f (.int (w - b)) fs = fs') (q : ∀ F2 H2, Gr F F2 → Sta F2 (m1 ++ (a, .ins C dx fs') :: m2) H2 → nx σ H2) :
    sFldAug K ta tv rSub f ⟨nx, rt, bk, ct⟩ σ H := by
  refine hp F H Gr.rfl s _ ⟨a, C, dx, fs, _, rfl, s.getAt, c, n, hk, h F H Gr.rfl s _ fun v F2 H2 g2 s2 hv => ?_⟩
  cases hv.toInt
  refine ⟨w, b, rfl, rfl, dx, fs, s2.getAt, hl, ?_⟩
  rw [e]
  exact q F2 _ g2 s2.putAt
/-! promises with things that are owned -/
inductive Ag where
  | d (x : PyData)
  | o (P : Hp → V → Cs → Prop)
inductive ArgG (K : PySem.W.Frag) (F : Hp) : List V → List Ag → Cs → Prop
  | nil : ArgG K F [] [] []
  | d {v : V} {x : PyData} {vs : List V} {as : List Ag} {cs : Cs} : Dt K F v x → ArgG K F vs as cs → ArgG K F (v :: vs) (.d x :: as) cs
  | o {v : V} {P : Hp → V → Cs → Prop} {c : Cs} {vs : List V} {as : List Ag} {cs : Cs} : P F v c → ArgG K F vs as cs → ArgG K F (v :: vs) (.o P :: as) (c ++ cs)
theorem ArgG.no {vs : List V} {cs : Cs} (h : ArgG K F vs [] cs) : vs = [] ∧ cs = [] := by cases h; exact ⟨rfl, rfl⟩
theorem ArgG.hd {vs : List V} {x : PyData} {as : List Ag} {cs : Cs} (h : ArgG K F vs (.d x :: as) cs) : ∃ v ws, vs = v :: ws ∧ Dt K F v x ∧ ArgG K F ws as cs := by
  cases h with | d a b => exact ⟨_, _, rfl, a, b⟩
theorem ArgG.ho {vs : List V} {P : Hp → V → Cs → Prop} {as : List Ag} {cs : Cs} (h : ArgG K F vs (.o P :: as) cs) : ∃ v ws c cs', vs = v :: ws ∧ cs = c ++ cs' ∧ P F v c ∧ ArgG K F ws as cs' := by
  cases h with | o a b => exact ⟨_, _, _, _, rfl, rfl, a, b⟩
theorem ArgG.len : ∀ {vs : List V} {as : List Ag} {cs : Cs}, ArgG K F vs as cs → vs.length = as.length
  | _, _, _, .nil => rfl
  | _, _, _, .d _ t => by rw [List.length_cons, List.length_cons, t.len]
  | _, _, _, .o _ t => by rw [List.length_cons, List.length_cons, t.len]
/-- the general promise: what is owned comes in and goes out changed -/
def spG (K : PySem.W.Frag) {α β : Type} (A : α → List Ag) (R : β → Hp → List V → V → Cs → Prop) (f : α → Option β) : Sp := fun vs H Q _ => ∃ F cc cs x y, ArgG K F vs (A x) cc ∧ Sta F (cc ++ cs) H ∧ f x = some y ∧
  ∀ v c F2 H2, Gr F F2 → Sta F2 (c ++ cs) H2 → R y F2 vs v c → Q v H2
/-- the same, where it may raise: what is owned stays then as it was -/
def spGX (K : PySem.W.Frag) {α β : Type} (A : α → List Ag) (R : β → Hp → List V → V → Cs → Prop) (f : α → Option (Rs β)) : Sp := fun vs H Q E => ∃ F cc cs x r, ArgG K F vs (A x) cc ∧ Sta F (cc ++ cs) H ∧ f x = some r ∧
  (∀ y, r = .ok y → ∀ v c F2 H2, Gr F F2 → Sta F2 (c ++ cs) H2 → R y F2 vs v c → Q v H2) ∧ ∀ e, r = .ex e → ∀ d F2 H2, Gr F F2 → Sta F2 (cc ++ cs) H2 → Xd K F2 e d → E (.ref (He.ga K e.1)) d H2
/-- an __init__ -/
def spMk (K : PySem.W.Frag) (C : Addr) {α β : Type} (A : α → List PyData) (O : β → Hp → Addr → Cs → Prop) (f : α → Option β) : Sp := fun vs H Q _ => ∃ F cs a dx ws x y, vs = .ref a :: ws ∧ Dts K F ws (A x) ∧ Sta F ((a, .ins C dx []) :: (dx, .own a) :: cs) H ∧ f x = some y ∧
  ∀ c F2 H2, Gr F F2 → Sta F2 (c ++ cs) H2 → O y F2 a c → Q .non H2
def spMkX (K : PySem.W.Frag) (C : Addr) {α β : Type} (A : α → List PyData) (O : β → Hp → Addr → Cs → Prop) (f : α → Option (Rs β)) : Sp := fun vs H Q E => ∃ F cs a dx ws x r, vs = .ref a :: ws ∧ Dts K F ws (A x) ∧ Sta F ((a, .ins C dx []) :: (dx, .own a) :: cs) H ∧ f x = some r ∧
  (∀ y, r = .ok y → ∀ c F2 H2, Gr F F2 → Sta F2 (c ++ cs) H2 → O y F2 a c → Q .non H2) ∧ ∀ e, r = .ex e → ∀ d F2 H2, Gr F F2 → Sta F2 cs H2 → Xd K F2 e d → E (.ref (He.ga K e.1)) d H2
/-- borrowed: the first thing is an owned one that stays as it is, the others are data -/
def spB (K : PySem.W.Frag) {α β : Type} (O : α → Hp → Addr → Cs → Prop) (A : α → List PyData) (B : β → PyData) (f : α → Option β) : Sp := fun vs H Q _ => ∃ F cc cs a ws x y, vs = .ref a :: ws ∧ O x F a cc ∧ Dts K F ws (A x) ∧ Sta F (cc ++ cs) H ∧ f x = some y ∧
  ∀ v F2 H2, Gr F F2 → Sta F2 (cc ++ cs) H2 → Dt K F2 v (B y) → Q v H2
def spBF (K : PySem.W.Frag) {α β : Type} (O : α → Hp → Addr → Cs → Prop) (A : α → List PyData) (B : β → List PyData) (f : α → Option β) : Sp := fun vs H Q _ => ∃ F cc cs a ws x y, vs = .ref a :: ws ∧ O x F a cc ∧ Dts K F ws (A x) ∧ Sta F (cc ++ cs) H ∧ f x = some y ∧
  ∀ p us F2 H2, Gr F F2 → Sta F2 ((p, .lst us) :: (cc ++ cs)) H2 → Dts K F2 us (B y) → Q (.ref p) H2
/-! direct steps -/
theorem o_call {sp : Sp} {E : XK} {Q : VK} (h : as σ H fun vs H1 => sp (vs ++ []) H1 Q E) : tCall sp [] E as σ H Q := h
theorem o_callS {sp : Sp} {E : St → XK} {Q : VK} (h : as σ H fun vs H1 => sp vs H1 Q (E σ)) : tCallS sp E as σ H Q := h
theorem o_meth {l1 l2 : Cs} {a C dx : Addr} {fs : List (Str × V)} {m : Str} {sp : Sp} {E : XK} {Q : VK} (s : Sta F (l1 ++ (a, .ins C dx fs) :: l2) H) (hp : VP ta σ F (l1 ++ (a, .ins C dx fs) :: l2) (.ref a)) (hl : fs.lookup m = none)
    (h : as σ H fun vs H2 => sp (.ref a :: (vs ++ [])) H2 Q E) : tMeth C m sp [] E ta as σ H Q := hp F H Gr.rfl s _ ⟨a, dx, fs, rfl, s.getAt, hl, h⟩
theorem o_meE {l1 l2 : Cs} {a C dx : Addr} {fs : List (Str × V)} {m : Str} {sp : Sp} {E : St → XK} {Q : VK} (s : Sta F (l1 ++ (a, .ins C dx fs) :: l2) H) (hp : VP ta σ F (l1 ++ (a, .ins C dx fs) :: l2) (.ref a)) (hl : fs.lookup m = none)
    (h : as σ H fun vs H2 => sp (.ref a :: vs) H2 Q (E σ)) : tMeE C m sp E ta as σ H Q := hp F H Gr.rfl s _ ⟨a, dx, fs, rfl, s.getAt, hl, h⟩
theorem Sta.make {C a dx : Addr} (s : Sta F cs H) (ha : H a = none) (hd : H dx = none) (hne : dx ≠ a) : Sta F ((a, .ins C dx []) :: (dx, .own a) :: cs) (upd (upd H dx (.own a)) a (.ins C dx [])) := by
  have s1 := s.cell (o := .own a) hd
  refine s1.cell ?_
  rw [upd_ne (Ne.symm hne)]
  exact ha
theorem o_make {C : Addr} {sp : Sp} {E : XK} {Q : VK} (h : as σ H fun vs H1 => ∀ x dx, H1 x = none → H1 dx = none → dx ≠ x → sp (.ref x :: (vs ++ [])) (upd (upd H1 dx (.own x)) x (.ins C dx [])) (fun v H2 => v = .non ∧ Q (.ref x) H2) E) : tMake C sp [] E as σ H Q := h
theorem o_makeS {C : Addr} {sp : Sp} {E : St → XK} {Q : VK} (h : as σ H fun vs H1 => ∀ x dx, H1 x = none → H1 dx = none → dx ≠ x → sp (.ref x :: vs) (upd (upd H1 dx (.own x)) x (.ins C dx [])) (fun v H2 => v = .non ∧ Q (.ref x) H2) (E σ)) : tMakeS C sp E as σ H Q := h
/-- a test that is a value told by a direct step -/
theorem o_if {c : TT} (h : c σ H fun b H1 => (b = true → t ⟨nx, rt, bk, ct⟩ σ H1) ∧ (b = false → u ⟨nx, rt, bk, ct⟩ σ H1)) : tIfS c t u ⟨nx, rt, bk, ct⟩ σ H := by
  unfold tIfS
  refine cast ?_ h
  congr
  funext b H1
  cases b <;> simp
/-! borrowing calls within expressions -/
theorem EvDs.sta {ds : List PyData} (h : EvDs K as σ F cs ds cs1) : ∀ F1 H1, Gr F F1 → Sta F1 cs H1 → ∀ Q : List V → Hp → Prop, (∀ vs F2 H2, Gr F1 F2 → Sta F2 cs1 H2 → Dts K F2 vs ds → Q vs H2) → as σ H1 Q := h
theorem d_methB {α β : Type} {O : α → Hp → Addr → Cs → Prop} {A : α → List PyData} {B : β → PyData} {f : α → Option β} {x : α} {y : β} {a C dx : Addr} {fs : List (Str × V)} {m : Str} {E : XK} {cc cs' : Cs} (hp : VP ta σ F cs (.ref a)) (hm : (a, HO.ins C dx fs) ∈ cs) (hl : fs.lookup m = none)
    (h : EvDs K as σ F cs (A x) cs1) (ho : ∀ F', Gr F F' → O x F' a cc) (h1 : Sb cs1 (cc ++ cs')) (h2 : Sb (cc ++ cs') cs1) (hf : f x = some y) : EvD K (tMeth C m (spB K O A B f) [] E ta as) σ F cs (B y) cs1 := fun F1 H1 g1 s Q q => by
  refine hp F1 H1 g1 s _ ⟨a, dx, fs, rfl, s.has _ hm, hl, ?_⟩
  refine h F1 H1 g1 s _ fun vs F2 H2 g2 s2 hv => ?_
  rw [List.append_nil]
  exact ⟨F2, cc, cs', a, vs, x, y, rfl, ho F2 (g1.tr g2), hv, h1 _ _ s2, hf, fun v F3 H3 g3 s3 hv3 => q v F3 H3 (g2.tr g3) (h2 _ _ s3) hv3⟩
theorem c_methB {α β : Type} {O : α → Hp → Addr → Cs → Prop} {A : α → List PyData} {B : β → List PyData} {f : α → Option β} {x : α} {y : β} {a C dx : Addr} {fs : List (Str × V)} {m : Str} {E : XK} {cc cs' : Cs} (hp : VP ta σ F cs (.ref a)) (hm : (a, HO.ins C dx fs) ∈ cs) (hl : fs.lookup m = none)
    (h : EvDs K as σ F cs (A x) cs1) (ho : ∀ F', Gr F F' → O x F' a cc) (h1 : Sb cs1 (cc ++ cs')) (h2 : ∀ z, Sb (z :: (cc ++ cs')) (z :: cs1)) (hf : f x = some y) : EvC K (tMeth C m (spBF K O A B f) [] E ta as) σ F cs (B y) cs1 := fun F1 H1 g1 s Q q => by
  refine hp F1 H1 g1 s _ ⟨a, dx, fs, rfl, s.has _ hm, hl, ?_⟩
  refine h F1 H1 g1 s _ fun vs F2 H2 g2 s2 hv => ?_
  rw [List.append_nil]
  exact ⟨F2, cc, cs', a, vs, x, y, rfl, ho F2 (g1.tr g2), hv, h1 _ _ s2, hf, fun p us F3 H3 g3 s3 hu => q p us F3 H3 (g2.tr g3) (h2 _ _ _ s3) hu⟩
theorem d_callB {α β : Type} {O : α → Hp → Addr → Cs → Prop} {A : α → List PyData} {B : β → PyData} {f : α → Option β} {x : α} {y : β} {a : Addr} {E : XK} {cc cs' : Cs} (hp : VP ta σ F cs (.ref a))
    (h : EvDs K as σ F cs (A x) cs1) (ho : ∀ F', Gr F F' → O x F' a cc) (h1 : Sb cs1 (cc ++ cs')) (h2 : Sb (cc ++ cs') cs1) (hf : f x = some y) : EvD K (tCall (spB K O A B f) [] E (tCons ta as)) σ F cs (B y) cs1 := fun F1 H1 g1 s Q q => by
  refine hp F1 H1 g1 s _ ?_
  refine h F1 H1 g1 s _ fun vs F2 H2 g2 s2 hv => ?_
  show spB K O A B f (V.ref a :: (vs ++ [])) H2 Q E
  rw [List.append_nil]
  exact ⟨F2, cc, cs', a, vs, x, y, rfl, ho F2 (g1.tr g2), hv, h1 _ _ s2, hf, fun v F3 H3 g3 s3 hv3 => q v F3 H3 (g2.tr g3) (h2 _ _ s3) hv3⟩
theorem c_callB {α β : Type} {O : α → Hp → Addr → Cs → Prop} {A : α → List PyData} {B : β → List PyData} {f : α → Option β} {x : α} {y : β} {a : Addr} {E : XK} {cc cs' : Cs} (hp : VP ta σ F cs (.ref a))
    (h : EvDs K as σ F cs (A x) cs1) (ho : ∀ F', Gr F F' → O x F' a cc) (h1 : Sb cs1 (cc ++ cs')) (h2 : ∀ z, Sb (z :: (cc ++ cs')) (z :: cs1)) (hf : f x = some y) : EvC K (tCall (spBF K O A B f) [] E (tCons ta as)) σ F cs (B y) cs1 := fun F1 H1 g1 s Q q => by
  refine hp F1 H1 g1 s _ ?_
  refine h F1 H1 g1 s _ fun vs F2 H2 g2 s2 hv => ?_
  show spBF K O A B f (V.ref a :: (vs ++ [])) H2 Q E
  rw [List.append_nil]
  exact ⟨F2, cc, cs', a, vs, x, y, rfl, ho F2 (g1.tr g2), hv, h1 _ _ s2, hf, fun p us F3 H3 g3 s3 hu => q p us F3 H3 (g2.tr g3) (h2 _ _ _ s3) hu⟩
end
end Bw
namespace Bw
open PySem L2
/-- an owned list of things that stand -/
def OL (K : PySem.W.Frag) {α : Type} (e : α → PyData) (xs : List α) (F : Hp) (a : Addr) (c : Cs) : Prop := ∃ us, c = [(a, .lst us)] ∧ Dts K F us (xs.map e)
section
variable {K : PySem.W.Frag} {σ : St} {F F' : Hp} {cs cs1 cs2 : Cs} {to te : TE} {H : Hp} {t : TT}
theorem o_not {Q : Bool → Hp → Prop} (h : t σ H fun b H1 => Q (!b) H1) : tNot t σ H Q := h
theorem o_tB {Q : Bool → Hp → Prop} (h : te σ H fun v H1 => ∃ b, v = .bl b ∧ Q b H1) : tB te σ H Q := h
theorem o_dnew {κ ν : Type} {kf : κ → Key} {vf : ν → V} {Q : VK} (s : Sta F cs H) (q : ∀ p H2, Sta F ((p, .dK (kvE kf vf [])) :: cs) H2 → Q (.ref p) H2) : tDNewK σ H Q := fun p hp => q p _ (s.cell hp)
theorem pop0_dts {α : Type} {en : α → PyData} {xs ys : List α} {x : α} {us : List V} (k : popM xs 0 = some (x, ys)) (h : Dts K F us (xs.map en)) : ∃ u us', us = u :: us' ∧ Dt K F u (en x) ∧ Dts K F us' (ys.map en) := by
  obtain ⟨_, j, h1, h2, rfl⟩ := popM_some k
  cases xs with
  | nil => simp at h2
  | cons z zs =>
    have : j = 0 := by
      have e : seqIndex? (0 : Int) (z :: zs).length = some 0 := by unfold seqIndex?; simp
      rw [e] at h1; exact (Option.some.inj h1).symm
    subst this
    simp at h2; subst h2
    obtain ⟨u, us', rfl, a, b⟩ := Dts.hd h
    exact ⟨u, us', rfl, a, b⟩
theorem d_pop0 {l1 l2 : Cs} {p : Addr} {u : V} {us : List V} {d : PyData} (hp : VP to σ F (l1 ++ (p, .lst (u :: us)) :: l2) (.ref p)) (hd : Dt K F u d) :
    EvD K (tBM K "list" rPopAt to (tCons (tC (.int 0)) tNil)) σ F (l1 ++ (p, .lst (u :: us)) :: l2) d (l1 ++ (p, .lst us) :: l2) := fun F1 H1 g1 s Q q => by
  refine hp F1 H1 g1 s _ ⟨?_, p, u :: us, 0, 0, u, rfl, rfl, s.getAt, by decide, by decide, by unfold seqIndex?; simp, rfl, ?_⟩
  · exact .inl ⟨rfl, _, .inl (.inl s.getAt)⟩
  · exact q _ F1 _ Gr.rfl s.putAt (hd.gr g1)
end
end Bw
namespace Bw
open PySem L2 PyProof.Rows PySem.Spec
/-! texts, sorted -/
theorem lt_cons (x y : Nat) (a b : List Nat) : ltCps (x :: a) (y :: b) = true ↔ x < y ∨ x = y ∧ ltCps a b = true := by simp [ltCps]
theorem lt_tri : ∀ a b : List Nat, ltCps a b = true ∨ a = b ∨ ltCps b a = true
  | [], [] => .inr (.inl rfl)
  | [], _ :: _ => .inl (by simp [ltCps])
  | _ :: _, [] => .inr (.inr (by simp [ltCps]))
  | x :: a, y :: b => by
    rw [lt_cons, lt_cons]
    rcases Nat.lt_trichotomy x y with h | h | h
    · exact .inl (.inl h)
    · subst h
      rcases lt_tri a b with h | h | h
      · exact .inl (.inr ⟨rfl, h⟩)
      · exact .inr (.inl (by rw [h]))
      · exact .inr (.inr (.inr ⟨rfl, h⟩))
    · exact .inr (.inr (.inl h))
theorem lt_trans : ∀ a b c : List Nat, ltCps a b = true → ltCps b c = true → ltCps a c = true
  | [], [], _, h, _ => by simp [ltCps] at h
  | [], _ :: _, [], _, h => by simp [ltCps] at h
  | [], _ :: _, _ :: _, _, _ => by simp [ltCps]
  | _ :: _, [], _, h, _ => by simp [ltCps] at h
  | _ :: _, _ :: _, [], _, h => by simp [ltCps] at h
  | x :: a, y :: b, z :: c, h, k => by
    rw [lt_cons] at h k ⊢
    rcases h with h | ⟨rfl, h⟩
    · rcases k with k | ⟨rfl, k⟩
      · exact .inl (Nat.lt_trans h k)
      · exact .inl h
    · rcases k with k | ⟨rfl, k⟩
      · exact .inl k
      · exact .inr ⟨rfl, lt_trans a b c h k⟩
theorem lt_irr : ∀ a : List Nat, ltCps a a = false
  | [] => rfl
  | x :: a => by
    cases h : ltCps (x :: a) (x :: a) with
    | false => rfl
    | true =>
      rw [lt_cons] at h
      rcases h with h | ⟨_, h⟩
      · exact absurd h (Nat.lt_irrefl _)
      · rw [lt_irr a] at h; cases h
/-- x stands not behind y -/
def leS (x y : Str) : Prop := ltCps y.cps.toList x.cps.toList = false
instance (x y : Str) : Decidable (leS x y) := inferInstanceAs (Decidable (_ = _))
theorem str_ext {x y : Str} (h : x.cps.toList = y.cps.toList) : x = y := by
  obtain ⟨⟨a⟩⟩ := x; obtain ⟨⟨b⟩⟩ := y
  simp at h; subst h; rfl
theorem leS_antisymm {x y : Str} (h : leS x y) (k : leS y x) : x = y := by
  rcases lt_tri x.cps.toList y.cps.toList with q | q | q
  · unfold leS at k; rw [q] at k; cases k
  · exact str_ext q
  · unfold leS at h; rw [q] at h; cases h
theorem leS_total (x y : Str) : leS x y ∨ leS y x := by
  unfold leS
  rcases lt_tri x.cps.toList y.cps.toList with q | q | q
  · left
    cases h : ltCps y.cps.toList x.cps.toList with
    | false => rfl
    | true => have := lt_trans _ _ _ q h; rw [lt_irr] at this; cases this
  · left; rw [q]; exact lt_irr _
  · right
    cases h : ltCps x.cps.toList y.cps.toList with
    | false => rfl
    | true => have := lt_trans _ _ _ q h; rw [lt_irr] at this; cases this
theorem leS_trans {x y z : Str} (h : leS x y) (k : leS y z) : leS x z := by
  unfold leS at *
  cases q : ltCps z.cps.toList x.cps.toList with
  | false => rfl
  | true =>
    rcases lt_tri y.cps.toList x.cps.toList with r | r | r
    · rw [h] at r; cases r
    · rw [← r, k] at q; cases q
    · have := lt_trans _ _ _ q r; rw [k] at this; cases this
def insS (x : Str) : List Str → List Str
  | [] => [x]
  | y :: ys => if leS x y then x :: y :: ys else y :: insS x ys
def srtS : List Str → List Str
  | [] => []
  | x :: xs => insS x (srtS xs)
theorem insS_perm (x : Str) : ∀ ys, (insS x ys).Perm (x :: ys)
  | [] => .refl _
  | y :: ys => by
    unfold insS
    split
    · exact .refl _
    · exact ((insS_perm x ys).cons y).trans (.swap x y ys)
theorem srtS_perm : ∀ xs, (srtS xs).Perm xs
  | [] => .refl _
  | x :: xs => (insS_perm x _).trans ((srtS_perm xs).cons x)
theorem insS_sort (x : Str) : ∀ ys, ys.Pairwise leS → (insS x ys).Pairwise leS
  | [], _ => List.pairwise_singleton _ _
  | y :: ys, h => by
    rw [List.pairwise_cons] at h
    unfold insS
    split
    · rename_i q
      rw [List.pairwise_cons]
      exact ⟨fun z hz => by rcases List.mem_cons.mp hz with rfl | hz; (exact q); (exact leS_trans q (h.1 z hz)), List.pairwise_cons.mpr h⟩
    · rename_i q
      rw [List.pairwise_cons]
      refine ⟨fun z hz => ?_, insS_sort x ys h.2⟩
      rcases List.mem_cons.mp ((insS_perm x ys).mem_iff.mp hz) with rfl | hz
      · exact (leS_total _ _).resolve_left q
      · exact h.1 z hz
theorem srtS_sort : ∀ xs, (srtS xs).Pairwise leS
  | [] => List.Pairwise.nil
  | x :: xs => insS_sort x _ (srtS_sort xs)
theorem sortS_uniq : ∀ (xs ys : List Str), xs.Perm ys → xs.Pairwise leS → ys.Pairwise leS → xs = ys
  | [], ys, p, _, _ => (List.Perm.nil_eq p)
  | x :: xs, [], p, _, _ => by have := p.length_eq; simp at this
  | x :: xs, y :: ys, p, h, k => by
    rw [List.pairwise_cons] at h k
    have e : x = y := by
      rcases List.mem_cons.mp (p.mem_iff.mp List.mem_cons_self) with h1 | h1
      · exact h1
      · rcases List.mem_cons.mp (p.mem_iff.mpr List.mem_cons_self) with h2 | h2
        · exact h2.symm
        · exact leS_antisymm (h.1 y h2) (k.1 x h1)
    subst e
    rw [sortS_uniq xs ys (List.Perm.cons_inv p) h.2 k.2]
theorem rising_pw : ∀ (xs : List Str) (p : Str), risingS p xs = true → (p :: xs).Pairwise leS
  | [], p, _ => List.pairwise_singleton _ _
  | x :: xs, p, h => by
    unfold risingS at h
    rw [Bool.and_eq_true, Bool.not_eq_true'] at h
    have ih := rising_pw xs x h.2
    rw [List.pairwise_cons]
    refine ⟨fun z hz => ?_, ih⟩
    rcases List.mem_cons.mp hz with rfl | hz
    · exact h.1
    · exact leS_trans h.1 ((List.pairwise_cons.mp ih).1 z hz)
theorem sorted_pw {xs : List Str} (h : sortedS xs = true) : xs.Pairwise leS := by
  cases xs with
  | nil => exact List.Pairwise.nil
  | cons x xs => exact rising_pw xs x h
def srtM (xs : List Str) : Option (List Str) := if xs.length < 64 then some (srtS xs) else none
def idxM {α : Type} [BEq α] (xs : List α) (x : α) : Option Int := (xs.findIdx? fun y => y == x).map fun (j : Nat) => (j : Int)
section
variable {K : PySem.W.Frag} {σ : L2.St} {F : Hp} {cs cs1 cs2 : Cs} {as : TA} {ta tb : TE}
theorem c_sortedS {xs ys : List Str} (h : EvDs K as σ F cs [eL eS xs] cs1) (hm : srtM xs = some ys) : EvC K (tCB (rSortedS K) as) σ F cs (ys.map eS) cs1 := fun F1 H1 g1 s Q q => by
  unfold srtM at hm
  split at hm
  case isFalse => cases hm
  rename_i hl
  cases hm
  refine h F1 H1 g1 s _ fun vs F2 H2 g2 s2 hv => ?_
  obtain ⟨v, rfl, hv2⟩ := Dts.one hv
  obtain ⟨a, us, rfl, hq, hd⟩ := hv2.toLst
  obtain rfl := Dts.strs hd
  refine ⟨a, xs, rfl, gr_L s2.fr hq, hl, fun zs p pm so hp => ?_⟩
  obtain rfl := sortS_uniq zs (srtS xs) (pm.trans (srtS_perm xs).symm) (sorted_pw so) (srtS_sort xs)
  exact q p _ F2 _ g2 (s2.cell hp) (Dts.of_strs _)
theorem d_idxI {xs : List Int} {x j : Int} (ha : EvD K ta σ F cs (eL eI xs) cs1) (hb : EvD K tb σ F cs1 (.int x) cs2) (hm : idxM xs x = some j) : EvD K (tBM K "list" (rIndex K) ta (tCons tb tNil)) σ F cs (.int j) cs2 := fun F1 H1 g1 s Q q => by
  unfold idxM at hm
  rw [Option.map_eq_some_iff] at hm
  obtain ⟨n, hn, rfl⟩ := hm
  rw [List.findIdx?_eq_some_iff_getElem] at hn
  obtain ⟨hlt, hx, hno⟩ := hn
  refine ha F1 H1 g1 s _ fun v F2 H2 g2 s2 hv => ?_
  obtain ⟨a, us, rfl, hq, hd⟩ := hv.toLst
  obtain rfl := Dts.ints hd
  refine ⟨.inl ⟨rfl, _, gr_L s2.fr hq⟩, ?_⟩
  refine hb F2 H2 (g1.tr g2) s2 _ fun w F3 H3 g3 s3 hw => ?_
  cases hw.toInt
  refine ⟨a, xs.map V.int, .int x, n, .int x, rfl, rfl, gr_L s3.fr (gr_L g3 hq), rfl, flatI xs, ?_, by simp [eqV], fun m z' hm hz => ?_, q _ F3 H3 (g2.tr g3) s3 (.int _)⟩
  · rw [List.getElem?_map, List.getElem?_eq_getElem hlt]
    simp only [Option.map_some, Option.some.injEq]
    have : xs[n] = x := by simpa using hx
    rw [this]
  · rw [List.getElem?_map, List.getElem?_eq_getElem (by omega)] at hz
    simp only [Option.map_some, Option.some.injEq] at hz
    subst hz
    have := hno m hm
    simpa [eqV] using this
end
end Bw
namespace Bw
open PySem L2
theorem s_ifor {t u : TT} {a b : TS} {D : Ends} {σ : L2.St} {H : Hp} (h : tIfS t a (tIfS u a b) D σ H) : tIfS (tOr t u) a b D σ H := by
  unfold tIfS tOr
  unfold tIfS at h
  have e : (fun (c : Bool) (H1 : Hp) => if c = true then a D σ H1 else u σ H1 fun b_1 H1 => if b_1 = true then a D σ H1 else b D σ H1) = fun (c : Bool) (H1 : Hp) => if c = true then (if true = true then a D σ H1 else b D σ H1) else u σ H1 fun b_1 H1 => if b_1 = true then a D σ H1 else b D σ H1 := by
    funext c H1; cases c <;> rfl
  rw [e] at h
  exact h
theorem s_ifand {t u : TT} {a b : TS} {D : Ends} {σ : L2.St} {H : Hp} (h : tIfS t (tIfS u a b) b D σ H) : tIfS (tAnd t u) a b D σ H := by
  unfold tIfS tAnd
  unfold tIfS at h
  have e : (fun (c : Bool) (H1 : Hp) => if c = true then u σ H1 fun b_1 H1 => if b_1 = true then a D σ H1 else b D σ H1 else b D σ H1) = fun (c : Bool) (H1 : Hp) => if c = true then (u σ H1 fun b_1 H1 => if b_1 = true then a D σ H1 else b D σ H1) else if false = true then a D σ H1 else b D σ H1 := by
    funext c H1; cases c <;> rfl
  rw [e] at h
  exact h
end Bw

namespace Bw
open PySem L2
theorem u65 {k : Nat} {A : Around} (r : Room k A) : A.units + 65 < cLine := by have := r.un; omega
/-! x in a list, of things of any kind -/
def inTM {α : Type} [DecidableEq α] (e : α → PyData) (x : α) (xs : List α) : Option Bool := if SeqAt.shaped (e x) = true ∧ SeqAt.shaped (eL e xs) = true then some (decide (x ∈ xs)) else none
def inDM (x : PyData) (xs : List PyData) : Option Bool := if SeqAt.shaped x = true ∧ SeqAt.shaped (.list xs) = true then some (xs.any fun z => PyData.eqv z x) else none
section
variable {K : PySem.W.Frag} {σ : L2.St} {F : Hp} {cs cs1 cs2 : Cs} {ta tb : TE}
theorem any_eqE {α : Type} [DecidableEq α] {e : α → PyData} (he : EqE e) (x : α) (xs : List α) : ((xs.map e).any fun z => PyData.eqv z (e x)) = decide (x ∈ xs) := by
  induction xs with
  | nil => rfl
  | cons y ys ih =>
    rw [List.map_cons, List.any_cons, ih, he y x]
    by_cases q : y = x
    · simp [q]
    · have : ¬ x = y := fun z => q z.symm
      simp [q, this]
theorem d_inTM {α : Type} [DecidableEq α] {e : α → PyData} {x : α} {xs : List α} {b : Bool} (he : EqE e) (ha : EvD K ta σ F cs (e x) cs1) (hb : EvD K tb σ F cs1 (eL e xs) cs2) (hm : inTM e x xs = some b) : EvD K (tOp (rInD K) ta tb) σ F cs (.bool b) cs2 := fun F1 H1 g1 s Q q => by
  unfold inTM at hm
  split at hm
  case isFalse => cases hm
  rename_i hs
  cases hm
  refine ha F1 H1 g1 s _ fun v F2 H2 g2 s2 hv => hb F2 H2 (g1.tr g2) s2 _ fun w F3 H3 g3 s3 hw => ?_
  refine ⟨e x, xs.map e, (hv.gr (g3.tr s3.fr)).dp (SeqAt.canLay_of_shaped hs.1), (hw.gr s3.fr).dp (SeqAt.canLay_of_shaped hs.2), hs.1, hs.2, ?_⟩
  rw [any_eqE he]
  exact q _ F3 H3 (g2.tr g3) s3 (.bl _)
theorem d_ninTM {α : Type} [DecidableEq α] {e : α → PyData} {x : α} {xs : List α} {b : Bool} (he : EqE e) (ha : EvD K ta σ F cs (e x) cs1) (hb : EvD K tb σ F cs1 (eL e xs) cs2) (hm : inTM e x xs = some b) : EvD K (tOp (rNotInD K) ta tb) σ F cs (.bool (!b)) cs2 := fun F1 H1 g1 s Q q => by
  unfold inTM at hm
  split at hm
  case isFalse => cases hm
  rename_i hs
  cases hm
  refine ha F1 H1 g1 s _ fun v F2 H2 g2 s2 hv => hb F2 H2 (g1.tr g2) s2 _ fun w F3 H3 g3 s3 hw => ?_
  refine ⟨e x, xs.map e, (hv.gr (g3.tr s3.fr)).dp (SeqAt.canLay_of_shaped hs.1), (hw.gr s3.fr).dp (SeqAt.canLay_of_shaped hs.2), hs.1, hs.2, ?_⟩
  rw [any_eqE he]
  exact q _ F3 H3 (g2.tr g3) s3 (.bl _)
theorem d_inDM {x : PyData} {xs : List PyData} {b : Bool} (ha : EvD K ta σ F cs x cs1) (hb : EvD K tb σ F cs1 (.list xs) cs2) (hm : inDM x xs = some b) : EvD K (tOp (rInD K) ta tb) σ F cs (.bool b) cs2 := fun F1 H1 g1 s Q q => by
  unfold inDM at hm
  split at hm
  case isFalse => cases hm
  rename_i hs
  cases hm
  refine ha F1 H1 g1 s _ fun v F2 H2 g2 s2 hv => hb F2 H2 (g1.tr g2) s2 _ fun w F3 H3 g3 s3 hw => ?_
  exact ⟨x, xs, (hv.gr (g3.tr s3.fr)).dp (SeqAt.canLay_of_shaped hs.1), (hw.gr s3.fr).dp (SeqAt.canLay_of_shaped hs.2), hs.1, hs.2, q _ F3 H3 (g2.tr g3) s3 (.bl _)⟩
theorem d_ninDM {x : PyData} {xs : List PyData} {b : Bool} (ha : EvD K ta σ F cs x cs1) (hb : EvD K tb σ F cs1 (.list xs) cs2) (hm : inDM x xs = some b) : EvD K (tOp (rNotInD K) ta tb) σ F cs (.bool (!b)) cs2 := fun F1 H1 g1 s Q q => by
  unfold inDM at hm
  split at hm
  case isFalse => cases hm
  rename_i hs
  cases hm
  refine ha F1 H1 g1 s _ fun v F2 H2 g2 s2 hv => hb F2 H2 (g1.tr g2) s2 _ fun w F3 H3 g3 s3 hw => ?_
  exact ⟨x, xs, (hv.gr (g3.tr s3.fr)).dp (SeqAt.canLay_of_shaped hs.1), (hw.gr s3.fr).dp (SeqAt.canLay_of_shaped hs.2), hs.1, hs.2, q _ F3 H3 (g2.tr g3) s3 (.bl _)⟩
end
end Bw

namespace Bw
open PySem L2
section
variable {K : PySem.W.Frag} {σ : St} {F : Hp} {cs : Cs} {ta tb : TE} {as : TA} {H : Hp} {D : Ends} {a b : TS}
theorem vp_con {v : V} : VP (tC v) σ F cs v := fun _ _ _ _ _ q => q
/-- the left side of a compare, stepped over directly -/
theorem s_ifL {r : R2} (h : ta σ H fun x H1 => tIfS (tTest (tOp r (tC x) tb)) a b D σ H1) : tIfS (tTest (tOp r ta tb)) a b D σ H := h
/-- a method of what was just made -/
theorem o_methN {C : Addr} {m : Str} {sp : Sp} {E : XK} {Q : VK} (h : ta σ H fun x H1 => ∃ a dx fs, x = .ref a ∧ H1 a = some (.ins C dx fs) ∧ fs.lookup m = none ∧ as σ H1 fun vs H2 => sp (x :: (vs ++ [])) H2 Q E) : tMeth C m sp [] E ta as σ H Q := h
theorem o_methN2 {l1 l2 : Cs} {x C dx : Addr} {fs : List (Str × V)} {m : Str} {sp : Sp} {E : XK} {Q : VK} (s : Sta F (l1 ++ (x, .ins C dx fs) :: l2) H) (hl : fs.lookup m = none)
    (h : as σ H fun vs H2 => sp (.ref x :: (vs ++ [])) H2 Q E) : ∃ a dx fs, V.ref x = .ref a ∧ H a = some (.ins C dx fs) ∧ fs.lookup m = none ∧ as σ H fun vs H2 => sp (V.ref x :: (vs ++ [])) H2 Q E := ⟨x, dx, fs, rfl, s.getAt, hl, h⟩
end
end Bw

namespace L2
open PySem PySem.Spec PyProof.Rows
/-! a dict whose keys are pairs of an int and a bool and whose values are lists -/
abbrev Kb := Int × Bool
def bn (b : Bool) : Int := if b = true then 1 else 0
def lk (k : Kb) : List Leaf := [.num k.1, .num (bn k.2)]
theorem lk_inj {k j : Kb} (h : lk k = lk j) : k = j := by
  obtain ⟨a, b⟩ := k; obtain ⟨c, d⟩ := j
  unfold lk at h
  injection h with h1 h2
  injection h1 with h1
  injection h2 with h2 _
  injection h2 with h2
  dsimp only at h1 h2
  subst h1
  cases b <;> cases d <;> first | rfl | (exact absurd h2 (by decide))
def kHash (w : World) (k : Kb) : Int := reduceHash (Builtin.Tuple.tupleHashOf ((lk k).map fun l => l.key.hash w))
def dlE (w : World) (x : Kb × Addr × Addr) : DictEntry := ⟨kHash w x.1, .ref x.2.1, .ref x.2.2⟩
def dlO (a : Addr) (xs : List (Kb × Addr × Addr)) : HO := .ext fun h => xs.length ≤ 1000 ∧ (a == sysModules) = false ∧ (xs.map (·.1)).Nodup ∧ ∃ o es ep, h.get? a = some o ∧ o.ExactDict ∧ o.data = .dict es ep ∧ ∀ w, es.toList = xs.map (dlE w)
def dlX (xs : List (Kb × Addr × Addr)) : List (List Leaf × Addr × Value) := xs.map fun x => (lk x.1, x.2.1, .ref x.2.2)
def kbV (k : Kb) : List V := [.int k.1, .bl k.2]
def lnAt (xs : List (Kb × Addr × Addr)) (k : Kb) : Option (Addr × Addr) := (xs.find? fun x => decide (x.1 = k)).map (·.2)
def putB (xs : List (Kb × Addr × Addr)) (k : Kb) (b q : Addr) : List (Kb × Addr × Addr) := if (lnAt xs k).isSome = true then xs.map (fun x => if x.1 = k then (x.1, x.2.1, q) else x) else xs ++ [(k, b, q)]
theorem lnAt_key (k : Kb) : ∀ xs : List (Kb × Addr × Addr), atKey (dlX xs) (lk k) = (lnAt xs k).map fun p => (p.1, Value.ref p.2)
  | [] => rfl
  | x :: xs => by
    have ih := lnAt_key k xs
    unfold atKey lnAt dlX at *
    rw [List.map_cons, List.find?_cons, List.find?_cons]
    by_cases e : x.1 = k
    · rw [decide_eq_true e, decide_eq_true (congrArg lk e)]; rfl
    · rw [decide_eq_false e, decide_eq_false (fun z => e (lk_inj z))]; exact ih
theorem putB_key (k : Kb) (b q : Addr) (xs : List (Kb × Addr × Addr)) : storedH (dlX xs) (lk k) b (.ref q) = dlX (putB xs k b q) := by
  unfold storedH putB
  rw [lnAt_key, Option.isSome_map]
  by_cases e : (lnAt xs k).isSome = true
  · rw [if_pos e, if_pos e]
    unfold dlX
    rw [List.map_map, List.map_map]
    refine List.map_congr_left fun x _ => ?_
    show putAt (lk k) (.ref q) (lk x.1, x.2.1, .ref x.2.2) = (fun x : Kb × Addr × Addr => (lk x.1, x.2.1, Value.ref x.2.2)) (if x.1 = k then (x.1, x.2.1, q) else x)
    unfold putAt
    by_cases z : x.1 = k
    · rw [if_pos z, if_pos (congrArg lk z)]
    · rw [if_neg z, if_neg (fun y => z (lk_inj y))]
  · rw [if_neg e, if_neg e]
    unfold dlX
    rw [List.map_append]; rfl
theorem putB_len (xs : List (Kb × Addr × Addr)) (k : Kb) (b q : Addr) : (putB xs k b q).length ≤ xs.length + 1 := by
  unfold putB
  split
  · rw [List.length_map]; omega
  · rw [List.length_append, List.length_cons, List.length_nil]; omega
section
variable {P : Program} {w : World} {K : PySem.W.Frag} {H : Hp} {h : Heap} {a b : Addr} {xs : List (Kb × Addr × Addr)} {k : Kb}
theorem kt_of {X : Cx} {pins : List (Addr × Obj)} {σ : St} {s : Shared} (I : Inv X pins σ H s) (e : SqT X.K H b (kbV k)) : (tupleKind (leafKind X.prog X.w)).is s.heap (lk k) b := by
  obtain ⟨its, r, ⟨o, h1, h2, n, h3⟩, _⟩ := I.tuple e
  refine ⟨o, its.toArray, n, h1, h2, h3, ?_⟩
  unfold kbV at r
  cases r with
  | cons r1 r =>
    cases r with
    | cons r2 r =>
      cases r
      obtain ⟨t, rfl⟩ := r1
      obtain rfl := r2
      refine .cons (leaf_int _ _) (.cons ?_ .nil)
      cases k.2
      · exact leaf_false
      · exact leaf_true
theorem dl_of {X : Cx} {pins : List (Addr × Obj)} {σ : St} {s : Shared} (I : Inv X pins σ H s) (e : H a = some (dlO a xs)) (hk : ∀ x ∈ xs, SqT X.K H x.2.1 (kbV x.1)) : xs.length ≤ 1000 ∧ (a == sysModules) = false ∧ s.heap.DictOfH (tupleKind (leafKind X.prog X.w)) a (dlX xs) := by
  obtain ⟨⟨z, hd, nd, o, es, ep, h1, h2, h3, h4⟩, _⟩ := (show ObjOk X.prog X.w H s.heap a (dlO a xs) from I.hok a _ e)
  refine ⟨z, hd, o, es, ep, h1, h2, h3, ?_, ?_, ?_⟩
  · rw [h4 X.w]; unfold dlX; rw [List.map_map]; rfl
  · intro x hx
    obtain ⟨y, hy, rfl⟩ := List.mem_map.mp hx
    exact kt_of I (hk y hy)
  · unfold dlX
    rw [List.map_map]
    rw [List.nodup_iff_pairwise_ne, List.pairwise_map] at nd ⊢
    exact nd.imp fun n e => n (lk_inj e)
theorem dl_new {H' : Hp} {h' : Heap} (z : xs.length ≤ 1000) (hd : (a == sysModules) = false) (dd : h'.DictOfH (tupleKind (leafKind P w)) a (dlX xs)) : ObjOk P w H' h' a (dlO a xs) := by
  obtain ⟨o, es, ep, h1, h2, h3, h4, _, h5⟩ := dd
  refine ⟨⟨z, hd, ?_, o, es, ep, h1, h2, h3, fun w' => ?_⟩, ⟨o, h1⟩, ?_⟩
  · unfold dlX at h5
    rw [List.map_map] at h5
    rw [List.nodup_iff_pairwise_ne, List.pairwise_map] at h5 ⊢
    exact h5.imp fun n e => n (congrArg lk e)
  · rw [h4]; unfold dlX; rw [List.map_map]; rfl
  · rintro g1 g2 ⟨z1, z2, z3, o1, es1, ep1, y1, y2, y3, y4⟩ kk
    exact ⟨z1, z2, z3, o1, es1, ep1, kk _ y1, y2, y3, y4⟩
theorem dl_empty (h : Heap) (hb : sysModules < h.objs.size) : ObjOk P w H (h.push { cls := .type "dict", data := .dict #[] }) h.objs.size (dlO h.objs.size []) := by
  have eb : (h.push { cls := .type "dict", data := .dict #[] }).get? h.objs.size = some { cls := .type "dict", data := .dict #[] } := Heap.get?_push_size _ rfl
  refine ⟨⟨by simp, ?_, by simp, _, _, _, eb, ⟨rfl, rfl, rfl⟩, rfl, fun w => rfl⟩, ⟨_, eb⟩, ?_⟩
  · exact decide_eq_false (fun z => Nat.lt_irrefl _ (z ▸ hb))
  · rintro g1 g2 ⟨z1, z2, z3, o1, es1, ep1, y1, y2, y3, y4⟩ kk
    exact ⟨z1, z2, z3, o1, es1, ep1, kk _ y1, y2, y3, y4⟩
end
/-- {} -/
def tDNewL : TE := fun _ H Q => ∀ p, H p = none → Q (.ref p) (upd H p (dlO p []))
theorem pe_dnewL {X : Cx} {pos : Pos} : PE X (.Dict [] [] pos) tDNewL := ⟨fun pins s σ H Q I h =>
  wpAny_Dict_empty ⟨.ref s.heap.objs.size, _, I.laid (a := s.heap.objs.size) (o := dlO s.heap.objs.size []) (t' := s.toks) (fun _ _ q => Heap.get?_push_of_some _ q) (Nat.le_refl _) (dl_empty s.heap I.big), rfl, h _ (I.hok.fresh (Nat.le_refl _))⟩⟩
/-- the dict at a, the key at b -/
def DlAt (K : PySem.W.Frag) (H : Hp) (a : Addr) (xs : List (Kb × Addr × Addr)) (y : V) (k : Kb) (b : Addr) : Prop := H a = some (dlO a xs) ∧ (∀ x ∈ xs, SqT K H x.2.1 (kbV x.1)) ∧ y = .ref b ∧ SqT K H b (kbV k) ∧ xs.length < 1000
/-- d.get(k, x) -/
def tGetL (K : PySem.W.Frag) (td tk tn : TE) : TE := fun σ H Q => td σ H fun x H1 => ∃ a xs0, x = .ref a ∧ H1 a = some (dlO a xs0) ∧ tk σ H1 fun y H2 => tn σ H2 fun z H3 => ∃ xs k b q, z = .ref q ∧ DlAt K H3 a xs y k b ∧ Q (.ref (((lnAt xs k).map (·.2)).getD q)) H3
/-- d.setdefault(k, x) -/
def tSetdL (K : PySem.W.Frag) (td tk tn : TE) : TE := fun σ H Q => td σ H fun x H1 => ∃ a xs0, x = .ref a ∧ H1 a = some (dlO a xs0) ∧ tk σ H1 fun y H2 => tn σ H2 fun z H3 => ∃ xs k b q, z = .ref q ∧ DlAt K H3 a xs y k b ∧
  (∀ r, lnAt xs k = some r → Q (.ref r.2) H3) ∧ (lnAt xs k = none → Q (.ref q) (upd H3 a (dlO a (xs ++ [(k, b, q)]))))
/-- d[k] = v -/
def sPutL (K : PySem.W.Frag) (td tk tv : TE) : TS := fun D σ H => tv σ H fun v H1 => td σ H1 fun x H2 => tk σ H2 fun y H3 => ∃ a xs k b q, x = .ref a ∧ v = .ref q ∧ DlAt K H3 a xs y k b ∧ D.nx σ (upd H3 a (dlO a (putB xs k b q)))
section
variable {X : Cx} {o i e f value : Expr} {td tk tn tv : TE} {apos cpos pos pos' : Pos}
theorem dl_typ {pins : List (Addr × Obj)} {σ : St} {H : Hp} {s : Shared} {a : Addr} {xs : List (Kb × Addr × Addr)} (I : Inv X pins σ H s) (d : H a = some (dlO a xs)) : s.TypeIs (.ref a) "dict" ∧ (∀ b, Value.ref a = .ref b → ∃ ob, s.heap.get? b = some ob ∧ ob.dict = none) := by
  obtain ⟨⟨z, hd, nd, o, es, ep, h1, h2, h3, h4⟩, _⟩ := (show ObjOk X.prog X.w H s.heap a (dlO a xs) from I.hok a _ d)
  refine ⟨⟨o, h1, h2.1⟩, fun b e => ?_⟩
  cases e
  exact ⟨o, h1, h2.2.1⟩
theorem pe_getL (hu : X.A.units + 1 < cLine) (ho : PE X o td) (he : PE X e tk) (hf : PE X f tn) (m : M2 X o "get" apos e f cpos) : PE X (.Call (.Attribute o "get" apos) [e, f] [] cpos) (tGetL X.K td tk tn) := by
  refine ⟨fun pins s σ H Q I h => ?_⟩
  refine wpAny_Call_method m.base m.few m.line PySem.F.plainAttrs_dict PySem.F.slot_dict_get PySem.F.type_dict_get (thn (ho.run pins s σ H _ I h) fun u s1 ⟨x, H1, I1, rx, a, xs0, ex, d, q1⟩ => ?_)
  subst ex
  obtain rfl : u = Value.ref a := rx
  obtain ⟨t1, t2⟩ := dl_typ I1 d
  refine ⟨t1, t2, ?_⟩
  rw [m.trees]
  refine Calls.callWith_builtin rfl (Calls.evalArgs_plain (Calls.spliced_cons (thn (he.run pins s1 σ H1 _ I1 q1) fun iv s2 ⟨y, H2, I2, ry, q2⟩ =>
    Calls.spliced_cons (thn (hf.run pins s2 σ H2 _ I2 q2) fun fv s3 ⟨z, H3, I3, rz, xs, k, b, q, ez, ⟨d3, hks, ey, hk, _⟩, q3⟩ => Calls.spliced_nil ?_))))
  subst ey ez
  cases (show iv = Value.ref b from ry)
  cases (show fv = Value.ref q from rz)
  obtain ⟨_, hd, dd⟩ := dl_of I3 d3 hks
  refine call_meetsIn PySem.F.slot_dict_get dd.typeIs PySem.F.entry_dict_get (PySem.F.args_dict_get_3 _ _ _) (meetsH_dict_get_default (tupleKind (leafKind X.prog X.w)) a b hd (.ref q)) ⟨tupleKind_room_in1 hu, lk k, dlX xs, kt_of I3 hk, dd, ?_⟩
  refine ⟨_, H3, I3.tok _, ?_, q3⟩
  rw [lnAt_key]
  cases lnAt xs k <;> rfl
theorem pe_setdL (hu : X.A.units + 1 < cLine) (ho : PE X o td) (he : PE X e tk) (hf : PE X f tn) (m : M2 X o "setdefault" apos e f cpos) : PE X (.Call (.Attribute o "setdefault" apos) [e, f] [] cpos) (tSetdL X.K td tk tn) := by
  refine ⟨fun pins s σ H Q I h => ?_⟩
  refine wpAny_Call_method m.base m.few m.line PySem.F.plainAttrs_dict PySem.F.slot_dict_setdefault PySem.F.type_dict_setdefault (thn (ho.run pins s σ H _ I h) fun u s1 ⟨x, H1, I1, rx, a, xs0, ex, d, q1⟩ => ?_)
  subst ex
  obtain rfl : u = Value.ref a := rx
  obtain ⟨t1, t2⟩ := dl_typ I1 d
  refine ⟨t1, t2, ?_⟩
  rw [m.trees]
  refine Calls.callWith_builtin rfl (Calls.evalArgs_plain (Calls.spliced_cons (thn (he.run pins s1 σ H1 _ I1 q1) fun iv s2 ⟨y, H2, I2, ry, q2⟩ =>
    Calls.spliced_cons (thn (hf.run pins s2 σ H2 _ I2 q2) fun fv s3 ⟨z, H3, I3, rz, xs, k, b, q, ez, ⟨d3, hks, ey, hk, hl⟩, w1, w2⟩ => Calls.spliced_nil ?_))))
  subst ey ez
  cases (show iv = Value.ref b from ry)
  cases (show fv = Value.ref q from rz)
  obtain ⟨_, hd, dd⟩ := dl_of I3 d3 hks
  have hz : (dlX xs).length ≤ sizeLine := by unfold dlX; rw [List.length_map]; exact Nat.le_trans (Nat.le_of_lt hl) (by decide)
  refine call_setdefault_heap (hsz := hz) (knd := tupleKind (leafKind X.prog X.w)) (tupleKind_room_in1 hu) (kt_of I3 hk) hd dd (fun p hp => ?_) fun hn h' dd' hs => ?_
  · rw [lnAt_key] at hp
    cases hv : lnAt xs k with
    | none => rw [hv] at hp; cases hp
    | some r =>
      rw [hv] at hp
      cases hp
      exact ⟨.ref r.2, H3, I3.tok _, rfl, w1 r hv⟩
  · rw [lnAt_key] at hn
    have hn' : lnAt xs k = none := by cases hv : lnAt xs k with
      | none => rfl
      | some r => rw [hv] at hn; cases hn
    have e2 : dlX (xs ++ [(k, b, q)]) = storedH (dlX xs) (lk k) b (.ref q) := by
      rw [putB_key]; unfold putB; rw [hn']; rfl
    rw [← e2] at dd'
    refine ⟨.ref q, _, d_write (t' := _) I3 (by rw [d3]; exact True.intro) hs (let ⟨q, _, _, hq, _⟩ := dd'; ⟨q, hq⟩) (dl_new (by rw [List.length_append]; simp; omega) hd dd'), rfl, w2 hn'⟩
theorem ps_putL (hu : X.A.units + 1 < cLine) (ho : PE X o td) (hi : PE X i tk) (hv : PE X value tv) (hs : swapsWith value (some (.Subscript o i pos')) pos.line X.env = pure false) : PS X (.Assign [.Subscript o i pos'] value pos) (sPutL X.K td tk tv) := by
  refine ⟨fun pins s σ H D I h => ?_⟩
  refine wpAny_Assign_Subscript (thn (hv.run pins s σ H _ I h) fun v s1 ⟨x, H1, I1, r1, q1⟩ => thn (ho.run pins s1 σ H1 _ I1 q1) fun u s2 ⟨y, H2, I2, r2, q2⟩ => thn (hi.run pins s2 σ H2 _ I2 q2) fun iv s3 ⟨z, H3, I3, r3, a, xs, k, b, q, ey, ex, ⟨d3, hks, ez, hk, hl⟩, q3⟩ => ?_) hs
  subst ey ez ex
  cases (show u = Value.ref a from r2)
  cases (show iv = Value.ref b from r3)
  cases (show v = Value.ref q from r1)
  obtain ⟨_, hd, dd⟩ := dl_of I3 d3 hks
  have hz : (dlX xs).length ≤ sizeLine := by unfold dlX; rw [List.length_map]; exact Nat.le_trans (Nat.le_of_lt hl) (by decide)
  refine wpAny_setItem_heap (hsz := hz) (knd := tupleKind (leafKind X.prog X.w)) (tupleKind_room_in1 hu) (kt_of I3 hk) dd fun h' dd' hs => ?_
  rw [putB_key] at dd'
  have := putB_len xs k b q
  exact ⟨σ, _, d_write I3 (by rw [d3]; exact True.intro) hs (let ⟨q, _, _, hq, _⟩ := dd'; ⟨q, hq⟩) (dl_new (by omega) hd dd'), q3⟩
end
end L2
namespace Bw
open PySem L2
/-- a line: key, the key's tuple, the list, what it holds -/
abbrev Ln := Kb × Addr × Addr × List Int
def lnD (x : Ln) : Kb × Addr × Addr := (x.1, x.2.1, x.2.2.1)
def lnC (x : Ln) : Addr × HO := (x.2.2.1, .lst (x.2.2.2.map V.int))
def lnM (x : Ln) : Kb × List Int := (x.1, x.2.2.2)
def lnsD (xs : List Ln) : List (Kb × Addr × Addr) := xs.map lnD
def lnsC (xs : List Ln) : Cs := xs.map lnC
def lnsM (xs : List Ln) : List (Kb × List Int) := xs.map lnM
def lnNo (xs : List Ln) (k : Kb) : List Ln := xs.filter fun x => decide (x.1 ≠ k)
structure LnOk (K : PySem.W.Frag) (F : Hp) (xs : List Ln) : Prop where
  nd : (xs.map (·.1)).Nodup
  ks : ∀ x ∈ xs, SqT K F x.2.1 (kbV x.1)
theorem LnOk.gr {K : PySem.W.Frag} {F F' : Hp} {xs : List Ln} (g : Gr F F') (h : LnOk K F xs) : LnOk K F' xs := ⟨h.nd, fun x hx => gr_T g (h.ks x hx)⟩
theorem LnOk.nil {K : PySem.W.Frag} {F : Hp} : LnOk K F [] := ⟨by simp, fun x hx => nomatch hx⟩
def getL (m : List (Kb × List Int)) (k : Kb) : List Int := ((m.find? fun x => decide (x.1 = k)).map (·.2)).getD []
def putL (m : List (Kb × List Int)) (k : Kb) (l : List Int) : List (Kb × List Int) := if (m.any fun x => decide (x.1 = k)) = true then m.map (fun x => if x.1 = k then (x.1, l) else x) else m ++ [(k, l)]
def addLM (m : List (Kb × List Int)) (k : Kb) (n : Int) : Option (List (Kb × List Int)) := if m.length < 1000 ∧ (getL m k).length < 100000 then some (putL m k (getL m k ++ [n])) else none
def getLM (m : List (Kb × List Int)) (k : Kb) : Option (List Int) := if m.length < 1000 then some (getL m k) else none
def putLM (m : List (Kb × List Int)) (k : Kb) (l : List Int) : Option (List (Kb × List Int)) := if m.length < 1000 then some (putL m k l) else none
/-- the key is there once, or not at all -/
theorem ln_split (k : Kb) : ∀ xs : List Ln, (xs.map (·.1)).Nodup → (∀ x ∈ xs, x.1 ≠ k) ∨ ∃ ys x zs, xs = ys ++ x :: zs ∧ x.1 = k ∧ (∀ y ∈ ys, y.1 ≠ k) ∧ ∀ z ∈ zs, z.1 ≠ k
  | [], _ => .inl fun x hx => nomatch hx
  | x :: xs, nd => by
    rw [List.map_cons, List.nodup_cons] at nd
    by_cases e : x.1 = k
    · refine .inr ⟨[], x, xs, rfl, e, (fun _ h => nomatch h), fun z hz c => nd.1 ?_⟩
      rw [e, ← c]; exact List.mem_map.mpr ⟨z, hz, rfl⟩
    · rcases ln_split k xs nd.2 with h | ⟨ys, y, zs, rfl, h1, h2, h3⟩
      · refine .inl fun y hy => ?_
        rcases List.mem_cons.mp hy with rfl | hy
        · exact e
        · exact h y hy
      · refine .inr ⟨x :: ys, y, zs, rfl, h1, fun z hz => ?_, h3⟩
        rcases List.mem_cons.mp hz with rfl | hz
        · exact e
        · exact h2 z hz
section
variable {k : Kb} {ys zs xs : List Ln} {x : Ln}
theorem find_no {α : Type} {p : α → Bool} {l : List α} (h : ∀ x ∈ l, p x = false) : l.find? p = none := List.find?_eq_none.mpr fun x hx => by rw [h x hx]; exact Bool.false_ne_true
theorem find_mid {α : Type} {p : α → Bool} {l m : List α} {x : α} (h : ∀ y ∈ l, p y = false) (hx : p x = true) : (l ++ x :: m).find? p = some x := by
  rw [List.find?_append, find_no h]; simp [List.find?_cons, hx]
theorem ln_no (h : ∀ x ∈ xs, x.1 ≠ k) : lnAt (lnsD xs) k = none ∧ getL (lnsM xs) k = [] ∧ ((lnsM xs).any fun x => decide (x.1 = k)) = false ∧ lnNo xs k = xs := by
  refine ⟨?_, ?_, ?_, ?_⟩
  · unfold lnAt lnsD; rw [find_no]; · rfl
    intro x hx; obtain ⟨y, hy, rfl⟩ := List.mem_map.mp hx; exact decide_eq_false (h y hy)
  · unfold getL lnsM; rw [find_no]; · rfl
    intro x hx; obtain ⟨y, hy, rfl⟩ := List.mem_map.mp hx; exact decide_eq_false (h y hy)
  · unfold lnsM; rw [List.any_eq_false]; intro x hx; obtain ⟨y, hy, rfl⟩ := List.mem_map.mp hx; rw [show decide ((lnM y).1 = k) = false from decide_eq_false (h y hy)]; exact Bool.false_ne_true
  · unfold lnNo; rw [List.filter_eq_self]; intro x hx; exact decide_eq_true (h x hx)
theorem ln_at (hx : x.1 = k) (hy : ∀ y ∈ ys, y.1 ≠ k) (hz : ∀ z ∈ zs, z.1 ≠ k) : lnAt (lnsD (ys ++ x :: zs)) k = some (x.2.1, x.2.2.1) ∧ getL (lnsM (ys ++ x :: zs)) k = x.2.2.2 ∧ ((lnsM (ys ++ x :: zs)).any fun x => decide (x.1 = k)) = true ∧ lnNo (ys ++ x :: zs) k = ys ++ zs := by
  refine ⟨?_, ?_, ?_, ?_⟩
  · unfold lnAt lnsD; rw [List.map_append, List.map_cons, find_mid]; · rfl
    · intro x hx; obtain ⟨y, h, rfl⟩ := List.mem_map.mp hx; exact decide_eq_false (hy y h)
    · exact decide_eq_true hx
  · unfold getL lnsM; rw [List.map_append, List.map_cons, find_mid]; · rfl
    · intro x hx; obtain ⟨y, h, rfl⟩ := List.mem_map.mp hx; exact decide_eq_false (hy y h)
    · exact decide_eq_true hx
  · unfold lnsM; rw [List.any_eq_true]; exact ⟨lnM x, List.mem_map.mpr ⟨x, mem_mid, rfl⟩, decide_eq_true hx⟩
  · unfold lnNo; rw [List.filter_append, List.filter_cons_of_neg (by simp [hx]), List.filter_eq_self.mpr (fun y h => decide_eq_true (hy y h)), List.filter_eq_self.mpr (fun y h => decide_eq_true (hz y h))]
theorem map_no {α β : Type} [DecidableEq β] (f : α → α) (g : α → β) {k : β} {l : List α} (h : ∀ x ∈ l, g x ≠ k) : l.map (fun x => if g x = k then f x else x) = l := by
  conv => rhs; rw [← List.map_id l]
  exact List.map_congr_left fun x hx => by rw [if_neg (h x hx)]; rfl
theorem ln_put {q : Addr} {b : Addr} {l : List Int} (hx : x.1 = k) (hy : ∀ y ∈ ys, y.1 ≠ k) (hz : ∀ z ∈ zs, z.1 ≠ k) : putB (lnsD (ys ++ x :: zs)) k b q = lnsD (ys ++ (k, x.2.1, q, l) :: zs) ∧ putL (lnsM (ys ++ x :: zs)) k l = lnsM (ys ++ (k, x.2.1, q, l) :: zs) := by
  obtain ⟨h1, _, h3, _⟩ := ln_at hx hy hz
  refine ⟨?_, ?_⟩
  · unfold putB; rw [h1, if_pos (by rfl)]
    unfold lnsD
    rw [List.map_append, List.map_cons, List.map_append, List.map_cons, List.map_append, List.map_cons]
    rw [map_no (fun x : Kb × Addr × Addr => (x.1, x.2.1, q)) (·.1) (k := k), map_no (fun x : Kb × Addr × Addr => (x.1, x.2.1, q)) (·.1) (k := k)]
    · rw [if_pos (show (lnD x).1 = k from hx)]; subst hx; rfl
    · intro z h; obtain ⟨y, h', rfl⟩ := List.mem_map.mp h; exact hz y h'
    · intro z h; obtain ⟨y, h', rfl⟩ := List.mem_map.mp h; exact hy y h'
  · unfold putL; rw [h3, if_pos rfl]
    unfold lnsM
    rw [List.map_append, List.map_cons, List.map_append, List.map_cons, List.map_append, List.map_cons]
    rw [map_no (fun x : Kb × List Int => (x.1, l)) (·.1) (k := k), map_no (fun x : Kb × List Int => (x.1, l)) (·.1) (k := k)]
    · rw [if_pos (show (lnM x).1 = k from hx)]; subst hx; rfl
    · intro z h; obtain ⟨y, h', rfl⟩ := List.mem_map.mp h; exact hz y h'
    · intro z h; obtain ⟨y, h', rfl⟩ := List.mem_map.mp h; exact hy y h'
theorem ln_new {q : Addr} {b : Addr} {l : List Int} (h : ∀ x ∈ xs, x.1 ≠ k) : putB (lnsD xs) k b q = lnsD (xs ++ [(k, b, q, l)]) ∧ putL (lnsM xs) k l = lnsM (xs ++ [(k, b, q, l)]) := by
  obtain ⟨h1, _, h3, _⟩ := ln_no h
  refine ⟨?_, ?_⟩
  · unfold putB; rw [h1, if_neg (by simp)]; unfold lnsD; rw [List.map_append]; rfl
  · unfold putL; rw [h3, if_neg (by simp)]; unfold lnsM; rw [List.map_append]; rfl
theorem lnOk_new {K : PySem.W.Frag} {F : Hp} {q b : Addr} {l : List Int} (h : LnOk K F xs) (hn : ∀ x ∈ xs, x.1 ≠ k) (hb : SqT K F b (kbV k)) : LnOk K F (xs ++ [(k, b, q, l)]) := by
  refine ⟨?_, fun x hx => ?_⟩
  · rw [List.map_append, List.nodup_append]
    refine ⟨h.nd, by simp, ?_⟩
    intro a ha c hc e
    obtain ⟨y, hy, rfl⟩ := List.mem_map.mp ha
    simp only [List.map_cons, List.map_nil, List.mem_singleton] at hc
    exact hn y hy (e.trans hc)
  · rcases List.mem_append.mp hx with hx | hx
    · exact h.ks x hx
    · rw [List.mem_singleton] at hx; subst hx; exact hb
theorem lnOk_put {K : PySem.W.Frag} {F : Hp} {q : Addr} {l : List Int} (h : LnOk K F (ys ++ x :: zs)) (hx : x.1 = k) : LnOk K F (ys ++ (k, x.2.1, q, l) :: zs) := by
  subst hx
  refine ⟨?_, fun z hz => ?_⟩
  · have := h.nd; rw [List.map_append, List.map_cons] at this ⊢; exact this
  · rcases List.mem_append.mp hz with hz | hz
    · exact h.ks z (List.mem_append_left _ hz)
    · rcases List.mem_cons.mp hz with rfl | hz
      · exact h.ks x mem_mid
      · exact h.ks z (List.mem_append_right _ (List.mem_cons_of_mem _ hz))
end
section
variable {K : PySem.W.Frag} {σ : St} {F : Hp} {cs : Cs} {td tk tv tx : TE} {nx bk ct : St → Hp → Prop} {rt : VK} {H : Hp} {l1 l2 : Cs} {pl : Addr} {xs : List Ln} {m m' : List (Kb × List Int)} {k : Kb} {n : Int}
theorem o_dnewL {Q : VK} (s : Sta F cs H) (q : ∀ p H2, Sta F ((p, dlO p (lnsD [])) :: cs) H2 → Q (.ref p) H2) : tDNewL σ H Q := fun p hp => q p _ (s.cell hp)
theorem kt_dt {F : Hp} {v : V} (h : Dt K F v (eT2 eI eB k)) : ∃ b, v = .ref b ∧ SqT K F b (kbV k) := by
  obtain ⟨a, vs, rfl, ht, hd⟩ := h.toTup
  obtain ⟨u, w, rfl, h1, h2⟩ := hd.two
  obtain rfl := h1.toInt
  obtain rfl := h2.toBl
  exact ⟨a, rfl, ht⟩
/-- self.f.setdefault(k, []).append(n) -/
theorem s_addL {hd : Addr × HO} (s : Sta F (l1 ++ (pl, dlO pl (lnsD xs)) :: (l2 ++ (lnsC xs ++ cs))) H) (ok : LnOk K F xs) (e : lnsM xs = m) (hp : VP td σ F (l1 ++ (pl, dlO pl (lnsD xs)) :: (l2 ++ (lnsC xs ++ cs))) (.ref pl))
    (hk : EvD K tk σ F (l1 ++ (pl, dlO pl (lnsD xs)) :: (l2 ++ (lnsC xs ++ cs))) (eT2 eI eB k) (l1 ++ (pl, dlO pl (lnsD xs)) :: (l2 ++ (lnsC xs ++ cs)))) (hm : hd ∈ l1 ++ l2) (hx : ∀ cc, hd ∈ cc → VP tx σ F cc (.int n)) (k1 : addLM m k n = some m')
    (q : ∀ xs' F2 H2, Gr F F2 → Sta F2 (l1 ++ (pl, dlO pl (lnsD xs')) :: (l2 ++ (lnsC xs' ++ cs))) H2 → LnOk K F2 xs' → lnsM xs' = m' → nx σ H2) :
    tDrop (tBM K "list" rAppend (tSetdL K td tk (tLst tNil)) (tCons tx tNil)) ⟨nx, rt, bk, ct⟩ σ H := by
  subst e
  unfold addLM at k1
  split at k1
  · rename_i hz
    obtain ⟨hz1, hz2⟩ := hz
    have k1 := Option.some.inj k1
    have hlen : (lnsD xs).length < 1000 := by have := hz1; unfold lnsM at this; rw [List.length_map] at this; unfold lnsD; rw [List.length_map]; exact this
    refine hp F H Gr.rfl s _ ⟨pl, lnsD xs, rfl, s.getAt, ?_⟩
    refine hk F H Gr.rfl s _ fun v F2 H2 g2 s2 hv => ?_
    obtain ⟨b, rfl, hb⟩ := kt_dt hv
    have ok2 := ok.gr g2
    show List.length [] ≤ sizeLine ∧ _
    refine ⟨Nat.zero_le _, fun p hp => ?_⟩
    have s3 := s2.cell (o := .lst []) hp
    have hbD : DlAt K (upd H2 p (.lst [])) pl (lnsD xs) (.ref b) k b := by
      refine ⟨s3.has _ (List.mem_cons_of_mem _ mem_mid), fun x hx => ?_, rfl, gr_T s3.fr hb, hlen⟩
      obtain ⟨y, hy, rfl⟩ := List.mem_map.mp hx
      exact gr_T s3.fr (ok2.ks y hy)
    refine ⟨lnsD xs, k, b, p, rfl, hbD, ?_, ?_⟩
    · rcases ln_split k xs ok.nd with hn | ⟨ys, x, zs, rfl, hx1, hy, hz⟩
      · intro r hr; rw [(ln_no hn).1] at hr; cases hr
      · obtain ⟨a1, a2, a3, a4⟩ := ln_at hx1 hy hz
        intro r hr
        rw [a1] at hr
        cases hr
        have s4 : Sta F2 ((l1 ++ (pl, dlO pl (lnsD (ys ++ x :: zs))) :: (l2 ++ (lnsC ys))) ++ (x.2.2.1, .lst (x.2.2.2.map V.int)) :: (lnsC zs ++ cs)) (upd H2 p (.lst [])) := by
          have := sb_drop _ _ s3
          simp only [lnsC, List.map_append, List.map_cons, List.append_assoc, List.cons_append] at this ⊢
          exact this
        refine ⟨.inl ⟨rfl, _, .inl (.inl s4.getAt)⟩, ?_⟩
        have hh : hd ∈ (l1 ++ (pl, dlO pl (lnsD (ys ++ x :: zs))) :: (l2 ++ (lnsC ys))) ++ (x.2.2.1, .lst (x.2.2.2.map V.int)) :: (lnsC zs ++ cs) := by
          rcases List.mem_append.mp hm with h | h <;> simp [h]
        refine hx _ hh F2 _ g2 s4 _ ?_
        refine ⟨_, _, _, rfl, rfl, s4.getAt, ?_, ?_⟩
        · rw [List.length_map]; rw [a2] at hz2; exact Nat.lt_of_lt_of_le hz2 (by decide)
        · refine q (ys ++ (k, x.2.1, x.2.2.1, x.2.2.2 ++ [n]) :: zs) F2 _ g2 ?_ (lnOk_put ok2 hx1) ?_
          · have := s4.putAt (o' := .lst (x.2.2.2.map V.int ++ [.int n]))
            have e2 : lnsD (ys ++ (k, x.2.1, x.2.2.1, x.2.2.2 ++ [n]) :: zs) = lnsD (ys ++ x :: zs) := by
              unfold lnsD; rw [List.map_append, List.map_append, List.map_cons, List.map_cons]; subst hx1; rfl
            rw [e2]
            simp only [lnsC, List.map_append, List.map_cons, List.append_assoc, List.cons_append, lnC, List.map_nil] at this ⊢
            exact this
          · rw [← k1, a2]; exact (ln_put hx1 hy hz (b := b)).2.symm
    · intro hn
      rcases ln_split k xs ok.nd with hno | ⟨ys, x, zs, rfl, hx1, hy, hz⟩
      · obtain ⟨a1, a2, a3, a4⟩ := ln_no hno
        have s4 := (s3.putAt (l1 := (p, .lst []) :: l1) (o' := dlO pl (lnsD xs ++ [(k, b, p)])))
        refine ⟨.inl ⟨rfl, _, .inl (.inl (s4.has _ List.mem_cons_self))⟩, ?_⟩
        have hh : hd ∈ ((p, HO.lst []) :: l1) ++ (pl, dlO pl (lnsD xs ++ [(k, b, p)])) :: (l2 ++ (lnsC xs ++ cs)) := by
          rcases List.mem_append.mp hm with h | h <;> simp [h]
        refine hx _ hh F2 _ g2 s4 _ ?_
        refine ⟨_, _, _, rfl, rfl, s4.has _ List.mem_cons_self, by decide, ?_⟩
        refine q (xs ++ [(k, b, p, [n])]) F2 _ g2 ?_ (lnOk_new ok2 hno hb) ?_
        · have s5 := Sta.put (o' := .lst [.int n]) (show Sta F2 ((p, .lst []) :: (l1 ++ (pl, dlO pl (lnsD xs ++ [(k, b, p)])) :: (l2 ++ (lnsC xs ++ cs)))) _ from s4)
          have e2 : lnsD (xs ++ [(k, b, p, [n])]) = lnsD xs ++ [(k, b, p)] := by unfold lnsD; rw [List.map_append]; rfl
          have e3 : lnsC (xs ++ [(k, b, p, [n])]) = lnsC xs ++ [(p, .lst [.int n])] := by unfold lnsC; rw [List.map_append]; rfl
          rw [e2, e3]
          refine s5.perm ?_
          have e4 : l1 ++ (pl, dlO pl (lnsD xs ++ [(k, b, p)])) :: (l2 ++ (lnsC xs ++ [(p, .lst [.int n])] ++ cs)) = (l1 ++ (pl, dlO pl (lnsD xs ++ [(k, b, p)])) :: (l2 ++ lnsC xs)) ++ (p, .lst [.int n]) :: cs := by simp
          rw [e4]
          refine List.Perm.trans ?_ List.perm_middle.symm
          refine List.Perm.cons _ ?_
          simp
        · rw [← k1, a2]; exact (ln_new hno (b := b) (q := p)).2.symm
      · rw [(ln_at hx1 hy hz).1] at hn; cases hn
  · cases k1
/-- x = self.f.get(k, []): the list is read, its place is open -/
theorem s_getL {i : Nat} (s : Sta F (l1 ++ (pl, dlO pl (lnsD xs)) :: (l2 ++ (lnsC xs ++ cs))) H) (ok : LnOk K F xs) (e : lnsM xs = m) (hp : VP td σ F (l1 ++ (pl, dlO pl (lnsD xs)) :: (l2 ++ (lnsC xs ++ cs))) (.ref pl))
    (hk : EvD K tk σ F (l1 ++ (pl, dlO pl (lnsD xs)) :: (l2 ++ (lnsC xs ++ cs))) (eT2 eI eB k) (l1 ++ (pl, dlO pl (lnsD xs)) :: (l2 ++ (lnsC xs ++ cs)))) (k1 : getLM m k = some l)
    (q : ∀ p F2 H2, Gr F F2 → Sta F2 (l1 ++ (pl, dlO pl (lnsD xs)) :: (l2 ++ (lnsC (lnNo xs k) ++ cs))) H2 → Dt K F2 (.ref p) (eL eI l) → nx (σ.set i (some (.ref p))) H2) :
    tAsg (tGetL K td tk (tLst tNil)) (gName i) ⟨nx, rt, bk, ct⟩ σ H := by
  subst e
  unfold getLM at k1
  split at k1
  · rename_i hz1
    obtain rfl := Option.some.inj k1
    have hlen : (lnsD xs).length < 1000 := by have := hz1; unfold lnsM at this; rw [List.length_map] at this; unfold lnsD; rw [List.length_map]; exact this
    refine hp F H Gr.rfl s _ ⟨pl, lnsD xs, rfl, s.getAt, ?_⟩
    refine hk F H Gr.rfl s _ fun v F2 H2 g2 s2 hv => ?_
    obtain ⟨b, rfl, hb⟩ := kt_dt hv
    have ok2 := ok.gr g2
    show List.length [] ≤ sizeLine ∧ _
    refine ⟨Nat.zero_le _, fun p hp => ?_⟩
    have s3 := s2.cell (o := .lst []) hp
    have hbD : DlAt K (upd H2 p (.lst [])) pl (lnsD xs) (.ref b) k b := by
      refine ⟨s3.has _ (List.mem_cons_of_mem _ mem_mid), fun x hx => ?_, rfl, gr_T s3.fr hb, hlen⟩
      obtain ⟨y, hy, rfl⟩ := List.mem_map.mp hx
      exact gr_T s3.fr (ok2.ks y hy)
    refine ⟨lnsD xs, k, b, p, rfl, hbD, ?_⟩
    rcases ln_split k xs ok.nd with hno | ⟨ys, x, zs, rfl, hx1, hy, hz⟩
    · obtain ⟨a1, a2, a3, a4⟩ := ln_no hno
      rw [a1]
      refine q p _ _ (g2.tr s3.gfr) (by rw [a4]; exact s3.froze) ?_
      rw [a2]
      exact .lst (.inl (.inl upd_same)) .nil
    · obtain ⟨a1, a2, a3, a4⟩ := ln_at hx1 hy hz
      rw [a1]
      have s4 : Sta F2 ((l1 ++ (pl, dlO pl (lnsD (ys ++ x :: zs))) :: (l2 ++ (lnsC ys))) ++ (x.2.2.1, .lst (x.2.2.2.map V.int)) :: (lnsC zs ++ cs)) (upd H2 p (.lst [])) := by
        have := sb_drop _ _ s3
        simp only [lnsC, List.map_append, List.map_cons, List.append_assoc, List.cons_append] at this ⊢
        exact this
      refine q x.2.2.1 _ _ (g2.tr (Gr.new (o := .lst (x.2.2.2.map V.int)) s4.freeAt)) ?_ ?_
      · have := s4.frozeAt
        rw [a4]
        simp only [lnsC, List.map_append, List.append_assoc, List.cons_append] at this ⊢
        exact this
      · rw [a2]
        exact .lst (.inl (.inl upd_same)) (Dts.of_ints _)
  · cases k1
/-- self.f[k] = a new list: the open place is filled -/
theorem s_putL {l : List Int} (s : Sta F (l1 ++ (pl, dlO pl (lnsD xs)) :: (l2 ++ (lnsC (lnNo xs k) ++ cs))) H) (ok : LnOk K F xs) (e : lnsM xs = m)
    (hv : EvC K tv σ F (l1 ++ (pl, dlO pl (lnsD xs)) :: (l2 ++ (lnsC (lnNo xs k) ++ cs))) (l.map eI) (l1 ++ (pl, dlO pl (lnsD xs)) :: (l2 ++ (lnsC (lnNo xs k) ++ cs))))
    (hp : ∀ c, VP td σ F (c :: (l1 ++ (pl, dlO pl (lnsD xs)) :: (l2 ++ (lnsC (lnNo xs k) ++ cs)))) (.ref pl))
    (hk : ∀ p us, EvD K tk σ F ((p, .lst us) :: (l1 ++ (pl, dlO pl (lnsD xs)) :: (l2 ++ (lnsC (lnNo xs k) ++ cs)))) (eT2 eI eB k) ((p, .lst us) :: (l1 ++ (pl, dlO pl (lnsD xs)) :: (l2 ++ (lnsC (lnNo xs k) ++ cs))))) (k1 : putLM m k l = some m')
    (q : ∀ xs' F2 H2, Gr F F2 → Sta F2 (l1 ++ (pl, dlO pl (lnsD xs')) :: (l2 ++ (lnsC xs' ++ cs))) H2 → LnOk K F2 xs' → lnsM xs' = m' → nx σ H2) :
    sPutL K td tk tv ⟨nx, rt, bk, ct⟩ σ H := by
  subst e
  unfold putLM at k1
  split at k1
  · rename_i hz1
    have k1 := Option.some.inj k1
    have hlen : (lnsD xs).length < 1000 := by have := hz1; unfold lnsM at this; rw [List.length_map] at this; unfold lnsD; rw [List.length_map]; exact this
    refine hv F H Gr.rfl s _ fun p us F2 H2 g2 s2 hu => ?_
    obtain rfl := Dts.ints hu
    refine hp _ F2 H2 g2 s2 _ ?_
    refine hk p _ F2 H2 g2 s2 _ fun v F3 H3 g3 s3 hv3 => ?_
    obtain ⟨b, rfl, hb⟩ := kt_dt hv3
    have ok3 := ok.gr (g2.tr g3)
    refine ⟨pl, lnsD xs, k, b, p, rfl, rfl, ⟨s3.has _ (List.mem_cons_of_mem _ mem_mid), fun x hx => ?_, rfl, gr_T s3.fr hb, hlen⟩, ?_⟩
    · obtain ⟨y, hy, rfl⟩ := List.mem_map.mp hx
      exact gr_T s3.fr (ok3.ks y hy)
    rcases ln_split k xs ok.nd with hno | ⟨ys, x, zs, rfl, hx1, hy, hz⟩
    · obtain ⟨a1, a2, a3, a4⟩ := ln_no hno
      rw [a4] at s3
      obtain ⟨p1, p2⟩ := ln_new hno (b := b) (q := p) (l := l)
      rw [p1]
      refine q (xs ++ [(k, b, p, l)]) F3 _ (g2.tr g3) ?_ (lnOk_new ok3 hno hb) (p2.symm.trans k1)
      have s4 := (s3.putAt (l1 := (p, .lst (l.map V.int)) :: l1) (o' := dlO pl (lnsD (xs ++ [(k, b, p, l)]))))
      have e3 : lnsC (xs ++ [(k, b, p, l)]) = lnsC xs ++ [(p, .lst (l.map V.int))] := by unfold lnsC; rw [List.map_append]; rfl
      rw [e3]
      refine s4.perm ?_
      have e4 : l1 ++ (pl, dlO pl (lnsD (xs ++ [(k, b, p, l)]))) :: (l2 ++ (lnsC xs ++ [(p, .lst (l.map V.int))] ++ cs)) = (l1 ++ (pl, dlO pl (lnsD (xs ++ [(k, b, p, l)]))) :: (l2 ++ lnsC xs)) ++ (p, .lst (l.map V.int)) :: cs := by simp
      rw [e4]
      refine List.Perm.trans ?_ List.perm_middle.symm
      refine List.Perm.cons _ ?_
      simp
    · obtain ⟨a1, a2, a3, a4⟩ := ln_at hx1 hy hz
      rw [a4] at s3
      obtain ⟨p1, p2⟩ := ln_put hx1 hy hz (b := b) (q := p) (l := l)
      rw [p1]
      refine q (ys ++ (k, x.2.1, p, l) :: zs) F3 _ (g2.tr g3) ?_ (lnOk_put ok3 hx1) (p2.symm.trans k1)
      have s4 := (s3.putAt (l1 := (p, .lst (l.map V.int)) :: l1) (o' := dlO pl (lnsD (ys ++ (k, x.2.1, p, l) :: zs))))
      refine s4.perm ?_
      have e3 : lnsC (ys ++ (k, x.2.1, p, l) :: zs) = lnsC ys ++ (p, .lst (l.map V.int)) :: lnsC zs := by unfold lnsC; rw [List.map_append]; rfl
      have e5 : lnsC (ys ++ zs) = lnsC ys ++ lnsC zs := by unfold lnsC; rw [List.map_append]
      rw [e3, e5]
      have e4 : l1 ++ (pl, dlO pl (lnsD (ys ++ (k, x.2.1, p, l) :: zs))) :: (l2 ++ (lnsC ys ++ (p, .lst (l.map V.int)) :: lnsC zs ++ cs)) = (l1 ++ (pl, dlO pl (lnsD (ys ++ (k, x.2.1, p, l) :: zs))) :: (l2 ++ lnsC ys)) ++ (p, .lst (l.map V.int)) :: (lnsC zs ++ cs) := by simp
      rw [e4]
      refine List.Perm.trans ?_ List.perm_middle.symm
      refine List.Perm.cons _ ?_
      simp
  · cases k1
/-- the lists go behind other cells, and back -/
theorem sta_seg {sg : Cs} (s : Sta F (l1 ++ (sg ++ (l2 ++ cs))) H) : Sta F (l1 ++ (l2 ++ (sg ++ cs))) H := by
  refine s.perm (List.Perm.append_left l1 ?_)
  rw [← List.append_assoc, ← List.append_assoc]
  exact List.Perm.append_right cs List.perm_append_comm
end
end Bw

namespace PySem
section
variable {prog : Program} {w : World} {A : Around} {R : Result → Shared → Prop} {I : Addr} {fp wr : List Addr} {n : Nat} {P : Nat → Value → Prop} {St : Nat → Heap → Prop}
/-- the loop of max, whatever its keywords say -/
theorem mx_loop (kw : List (Str × Value)) (W : Walks prog w A.in1 I fp wr n P St) (bt : Nat → Nat → Bool) (cm : CmpOf prog w A.in1 .Gt P bt) (S : Addr) (nf : S ∉ fp) :
    ∀ (k j : Nat) (s : Shared) (z : Value) (c : Nat), n - (j + 1) = k → j + 1 ≤ n → St (j + 1) s.heap → P (argBest bt j) z → s.heap.get? S = some { cls := .type "list", dict := none, data := .seq #[z, z] c, slots := #[] } →
    (∀ v h' tk, P (argBest bt (n - 1)) v → (∀ b o, b ∉ wr → b ≠ S → s.heap.get? b = some o → h'.get? b = some o) → R (.ok (.ret v)) { s with heap := h', toks := tk }) → codeAny (model prog w) A (.builtin "max.loop" ⟨[.ref I, .none, .ref S], kw⟩) R s := by
  have nw : S ∉ wr := fun h => nf (W.sub _ h)
  have en : (toString "max" ++ toString ".loop" : String) = "max.loop" := by decide
  intro k; induction k with
  | zero =>
    intro j s z c ek lj st pb eS fin
    have ej : j + 1 = n := by omega
    refine codeAny_builtin F.entry_max_loop ?_; rw [Around.under_plainId F.plain_max_loop _]
    show wpAny _ A.in1 (seqItems? (.ref S) >>= _) _ _ s; refine wpAny_bind (wpAny_seqItems eS rfl ?_)
    show wpAny _ A.in1 (tryCatch (pyNext (.ref I)) _ >>= _) _ _ s; refine wpAny_bind (wpAny_tryCatch (W.done s _ _ (ej ▸ st) fun h' tk kp => ?_))
    have eS' := kp S _ nw eS
    show wpAny _ A.in1 (updateSeq S (fun _ => #[]) >>= _) _ _ _; refine wpAny_bind ?_
    refine wpAny_updateSeq eS' rfl (wpAny_bind (wpAny_letGo (wpAny_pure ?_))); refine fin z _ tk (by rw [← ej]; exact pb) fun b o n1 n2 e => (Heap.get?_update_other _ _ (Ne.symm n2)).trans (kp b o n1 e)
  | succ k ih =>
    intro j s z c ek lj st pb eS fin
    have lt : j + 1 < n := by omega
    refine codeAny_builtin F.entry_max_loop ?_; rw [Around.under_plainId F.plain_max_loop _]
    show wpAny _ A.in1 (seqItems? (.ref S) >>= _) _ _ s; refine wpAny_bind (wpAny_seqItems eS rfl ?_)
    show wpAny _ A.in1 (tryCatch (pyNext (.ref I)) _ >>= _) _ _ s; refine wpAny_bind (wpAny_tryCatch (W.item (j + 1) s _ _ lt st fun v h' tk hv st' kp => ?_))
    have eS' := kp S _ nw eS
    show wpAny _ A.in1 (tryCatch (holding [v, v] (richCompare .Gt v z >>= _)) _ >>= _) _ _ _; refine wpAny_bind (wpAny_tryCatch (wpAny_holding (wpAny_bind (cm (j + 1) (argBest bt j) v z _ _ _ hv pb ?_))))
    refine wpAny_bind (wpAny_holding (wpAny_truthy_bool ?_)); refine wpAny_bind (wpAny_letGo (wpAny_pure ?_))
    cases hb : bt (j + 1) (argBest bt j) with
    | true =>
      simp only [if_true]; refine wpAny_bind ?_; refine wpAny_updateSeq eS' rfl (wpAny_bind (wpAny_letGo ?_)); rw [en]
      refine wpAny_pure ⟨plainId_quiet F.plain_max_loop _, ih (j + 1) _ v _ (by omega) lt (W.frame _ _ _ st' fun b n1 o e => ?_) (by simp only [argBest, hb, if_true]; exact hv) (Heap.get?_update_self _ eS' rfl) fun v' h'' tk'' hv' kp' => ?_⟩
      · exact (Heap.get?_update_other _ _ (fun h : S = b => nf (by rw [h]; exact n1))).trans e
      · exact fin v' h'' tk'' hv' fun b o n1 n2 e => kp' b o n1 n2 ((Heap.get?_update_other _ _ (Ne.symm n2)).trans (kp b o n1 e))
    | false =>
      simp only [Bool.false_eq_true, if_false]; refine wpAny_bind (wpAny_letGo ?_); rw [en]
      refine wpAny_pure ⟨plainId_quiet F.plain_max_loop _, ih (j + 1) _ z c (by omega) lt st' (by simp only [argBest, hb, Bool.false_eq_true, if_false]; exact pb) eS' fun v' h'' tk'' hv' kp' => ?_⟩
      exact fin v' h'' tk'' hv' fun b o n1 n2 e => kp' b o n1 n2 (kp b o n1 e)
theorem mx_first (kw : List (Str × Value)) (W : Walks prog w A.in1 I fp wr n P St) (bt : Nat → Nat → Bool) (cm : CmpOf prog w A.in1 .Gt P bt) (S : Addr) (nf : S ∉ fp) (pn : 0 < n) {s : Shared} {c : Nat} (st : St 0 s.heap)
    (eS : s.heap.get? S = some { cls := .type "list", dict := none, data := .seq #[] c, slots := #[] })
    (fin : ∀ v h' tk, P (argBest bt (n - 1)) v → (∀ b o, b ∉ wr → b ≠ S → s.heap.get? b = some o → h'.get? b = some o) → R (.ok (.ret v)) { s with heap := h', toks := tk }) : codeAny (model prog w) A (.builtin "max.loop" ⟨[.ref I, .none, .ref S], kw⟩) R s := by
  have nw : S ∉ wr := fun h => nf (W.sub _ h)
  have en : (toString "max" ++ toString ".loop" : String) = "max.loop" := by decide
  refine codeAny_builtin F.entry_max_loop ?_; rw [Around.under_plainId F.plain_max_loop _]
  show wpAny _ A.in1 (seqItems? (.ref S) >>= _) _ _ s; refine wpAny_bind (wpAny_seqItems eS rfl ?_)
  show wpAny _ A.in1 (tryCatch (pyNext (.ref I)) _ >>= _) _ _ s; refine wpAny_bind (wpAny_tryCatch (W.item 0 s _ _ pn st fun v h' tk hv st' kp => ?_))
  have eS' := kp S _ nw eS
  show wpAny _ A.in1 (updateSeq S (fun _ => #[v, v]) >>= _) _ _ _; refine wpAny_bind ?_
  refine wpAny_updateSeq eS' rfl ?_; rw [en]
  refine wpAny_pure ⟨plainId_quiet F.plain_max_loop _, mx_loop kw W bt cm S nf _ 0 _ v _ rfl pn (W.frame _ _ _ st' fun b n1 o e => ?_) hv (Heap.get?_update_self _ eS' rfl) fun v' h'' tk'' hv' kp' => ?_⟩
  · exact (Heap.get?_update_other _ _ (fun h : S = b => nf (by rw [h]; exact n1))).trans e
  · exact fin v' h'' tk'' hv' fun b o n1 n2 e => kp' b o n1 n2 ((Heap.get?_update_other _ _ (Ne.symm n2)).trans (kp b o n1 e))
/-- nothing to walk: the default -/
theorem mx_none (nm : Str) (d : Value) (W : Walks prog w A.in1 I fp wr n P St) (S : Addr) (nf : S ∉ fp) (pn : n = 0) {s : Shared} {c : Nat} (st : St 0 s.heap)
    (eS : s.heap.get? S = some { cls := .type "list", dict := none, data := .seq #[] c, slots := #[] })
    (fin : ∀ h' tk, (∀ b o, b ∉ wr → s.heap.get? b = some o → h'.get? b = some o) → R (.ok (.ret d)) { s with heap := h', toks := tk }) : codeAny (model prog w) A (.builtin "max.loop" ⟨[.ref I, .none, .ref S], [(nm, d)]⟩) R s := by
  refine codeAny_builtin F.entry_max_loop ?_; rw [Around.under_plainId F.plain_max_loop _]
  show wpAny _ A.in1 (seqItems? (.ref S) >>= _) _ _ s; refine wpAny_bind (wpAny_seqItems eS rfl ?_)
  show wpAny _ A.in1 (tryCatch (pyNext (.ref I)) _ >>= _) _ _ s; refine wpAny_bind (wpAny_tryCatch (W.done s _ _ (pn ▸ st) fun h' tk kp => ?_))
  show wpAny _ A.in1 (rule _ >>= _) _ _ _
  exact wpAny_bind (wpAny_rule (wpAny_pure (fin h' tk kp)))
end
section
variable {prog : Program} {w : World} {A : Around} {E : Value → Shared → Prop} {s : Shared} {l : Addr}
theorem args_maxd (x d : Value) : argsOk "max" ⟨[x], [(Str.ofString "default", d)]⟩ := by unfold argsOk; kernel_rfl
theorem fun_kw {id : String} {b : Builtin} {args : List Value} {kw : List (Str × Value)} {Q : Value → Shared → Prop} (hk : builtinKind id = none) (hp : plainId id = true) (hb : entryFor table id = some b) (ha : argsOk id ⟨args, kw⟩)
    (hc : wpAny (model prog w) A.in1 (b ⟨args, kw⟩) (fun fin s' => match fin with
      | .done f => (match (Except.ok f : Result) with | .ok (.ret v) => Q v s' | .ok _ => False | .error e => E e s')
      | .again c' => c'.quiet = true ∧ codeAny (model prog w) A c' (fun r s' => match r with | .ok (.ret v) => Q v s' | .ok _ => False | .error e => E e s') s') E s) : wpAny (model prog w) A (call (.builtin id) args kw) Q E s := by
  refine wpAny_call (codeAny_call_builtin hp hb ?_); simp only [checkBuiltinCall, hk]
  cases hg : Manifest.signature? id with
  | none => exact wpAny_pure hc
  | some sig =>
    have ha' : Bind.checkArgs id sig ⟨args, kw⟩ = pure () := by simpa only [argsOk, hg] using ha
    simp only [ha']; exact wpAny_pure hc
theorem call_maxd {x d : Value} {Q : Value → Shared → Prop}
    (h : wpAny (model prog w) A.in1 (pyIter x) (fun it s₂ => ∃ I fp wr n P St bt, it = .ref I ∧ Walks prog w A.in1 I fp wr n P St ∧ St 0 s₂.heap ∧ (∀ b ∈ fp, b < s₂.heap.objs.size) ∧ CmpOf prog w A.in1 .Gt P bt ∧
      (0 < n → ∀ v h' tk, P (argBest bt (n - 1)) v → (∀ b o, b ∉ wr → s₂.heap.get? b = some o → h'.get? b = some o) → Q v { s₂ with heap := h', toks := tk }) ∧
      (n = 0 → ∀ h' tk, (∀ b o, b ∉ wr → s₂.heap.get? b = some o → h'.get? b = some o) → Q d { s₂ with heap := h', toks := tk })) E s) :
    wpAny (model prog w) A (call (.builtin "max") [x] [(Str.ofString "default", d)]) Q E s := by
  have en : (toString "max" ++ toString ".loop" : String) = "max.loop" := by decide
  refine fun_kw F.kind_max F.plain_max F.entry_max (args_maxd _ _) ?_
  show wpAny _ A.in1 (Builtin.Builtins.bindParams "max" ["key", "default"] 0 ⟨[], [(Str.ofString "default", d)]⟩ >>= _) _ _ s
  refine wpAny_bind (wpAny_of_eq (show Builtin.Builtins.bindParams "max" ["key", "default"] 0 ⟨[], [(Str.ofString "default", d)]⟩ = pure [none, some d] from rfl) ?_)
  refine wpAny_bind (wpAny_pure ?_); refine wpAny_bind (wpAny_mono h (fun it s₂ h₂ => ?_) fun _ _ e => e)
  obtain ⟨I, fp, wr, n, P, St, bt, rfl, W, st, hfp, cm, q1, q2⟩ := h₂
  refine wpAny_bind (wpAny_newObj_type ?_)
  have nf : s₂.heap.objs.size ∉ fp := fun hm => Nat.lt_irrefl _ (hfp _ hm)
  rw [en]
  rcases Nat.eq_zero_or_pos n with pn | pn
  · refine wpAny_pure ⟨plainId_quiet F.plain_max_loop _, mx_none _ d W s₂.heap.objs.size nf pn (W.frame _ _ _ st fun b _ o e => Heap.get?_push_of_some _ e) (Heap.get?_push_size _ rfl) fun h' tk hk => ?_⟩
    exact q2 pn h' tk fun b o n1 e => hk b o n1 (Heap.get?_push_of_some _ e)
  · refine wpAny_pure ⟨plainId_quiet F.plain_max_loop _, mx_first _ W bt cm s₂.heap.objs.size nf pn (W.frame _ _ _ st fun b _ o e => Heap.get?_push_of_some _ e) (Heap.get?_push_size _ rfl) fun v h' tk hP hk => ?_⟩
    exact q1 pn v h' tk hP fun b o n1 e => hk b o n1 (Nat.ne_of_lt (Heap.lt_size e)) (Heap.get?_push_of_some _ e)
end
end PySem

namespace L2
open PySem PySem.Spec PyProof.Rows
/-- max(l, default = d), ints -/
def rMaxD (K : PySem.W.Frag) : List V → List V → Hp → VK → Prop := fun vs zs H Q => ∃ (a : Addr) (ns : List Int) (d : V), vs = [.ref a] ∧ zs = [d] ∧ SqL K H a (ns.map V.int) ∧ (ns = [] → Q d H) ∧ (ns ≠ [] → ∀ m ∈ ns, (∀ b, b ∈ ns → b ≤ m) → Q (.int m) H)
theorem ck_maxd {X : Cx} (hc : X.calm = true) : CallRK X (.builtin "max") ["default"] (rMaxD X.K) := by
  intro pins s σ H vs zs us ws Q I r1 r2 h
  obtain ⟨a, ns, d, rfl, rfl, hs, q1, q2⟩ := h
  obtain ⟨its, rv, hl, _⟩ := I.list hs
  rw [Vals.ref1 r1]
  obtain ⟨u, rfl, ru⟩ := r2.one
  obtain ⟨xs, e⟩ := rv.ints.allInts.items
  have hn : numsOf (intItems xs).toList = ns := by rw [← e]; exact rv.ints.numsOf
  rw [nums_intItems] at hn
  have hl2 := hl.isList
  rw [e] at hl2
  refine call_maxd (iter_intList hl2 fun s₂ e2 st hfp hlI => ?_)
  subst e2
  refine ⟨_, _, _, _, _, _, _, rfl, Walks.list (A := X.A.in1) (I.ok.hd hc) _ a hlI (intItems xs), st, hfp, CmpOf.ints_gt (numAt xs) (fun _ _ => intItems_at), ?_, ?_⟩
  · intro pn v h' tk hP hk
    have hk2 := old_kept hk
    have hsz : 0 < xs.size := by simpa [intItems] using pn
    have hP2 : (intItems xs)[argBest (fun i j => decide (numAt xs i > numAt xs j)) (xs.size - 1)]? = some v := by simpa [intItems] using hP
    obtain ⟨t, rfl⟩ := intItems_at hP2
    obtain ⟨h1, h2⟩ := argBest_gt (numAt xs) (xs.size - 1)
    refine ⟨.int _, H, I.kept hk2, ⟨_, rfl⟩, q2 ?_ _ ?_ ?_⟩
    · rw [← hn]; intro z; have e9 := congrArg List.length z; rw [List.length_map, Array.length_toList, List.length_nil] at e9; exact Nat.lt_irrefl _ (e9 ▸ hsz)
    · rw [← hn, numAt_eq]; exact PySem.getD_mem (by rw [List.length_map, Array.length_toList]; omega)
    · intro b hb
      rw [← hn] at hb
      obtain ⟨j, hj, rfl⟩ := mem_getD hb
      rw [List.length_map, Array.length_toList] at hj
      rw [← numAt_eq]; exact h2 j (by omega)
  · intro pn h' tk hk
    have hk2 := old_kept hk
    have hsz : xs.size = 0 := by simpa [intItems] using pn
    refine ⟨d, H, I.kept hk2, ru, q1 ?_⟩
    rw [← hn]; simp at hsz; simp [hsz]
end L2
namespace Bw
open PySem L2
theorem staE {F H : Hp} {c c' : Cs} (e : c = c') (s : Sta F c H) : Sta F c' H := e ▸ s
theorem sb_dropM {t l cs : Cs} : Sb (t ++ (l ++ cs)) (t ++ cs) := fun F H s => by
  have sub : (t ++ cs).Sublist (t ++ (l ++ cs)) := List.Sublist.append_left (List.sublist_append_right l cs) t
  exact ⟨s.fr, fun p hp => s.sep p (sub.subset hp), fun p hp => s.has p (sub.subset hp), (sub.map (·.1)).nodup s.nd⟩
def maxD (xs : List Int) (d : Int) : Option Int := match xs with
  | [] => some d
  | _ => maxL xs
section
variable {K : PySem.W.Frag} {σ : St} {F : Hp} {cs cs1 cs2 : Cs} {as tk : TA}
theorem d_maxD {xs : List Int} {d m : Int} (h : EvDs K as σ F cs [eL eI xs] cs1) (h2 : EvDs K tk σ F cs1 [.int d] cs2) (hm : maxD xs d = some m) : EvD K (tCKw (rMaxD K) as tk) σ F cs (.int m) cs2 := fun F1 H1 g1 s Q q =>
  h F1 H1 g1 s _ fun vs F2 H2 g2 s2 hv => h2 F2 H2 (g1.tr g2) s2 _ fun zs F3 H3 g3 s3 hz => by
    obtain ⟨v, rfl, k⟩ := hv.one
    obtain ⟨p, ys, rfl, hl, hd⟩ := k.toLst
    obtain rfl := Dts.ints hd
    obtain ⟨z, rfl, kz⟩ := hz.one
    obtain rfl := kz.toInt
    refine ⟨p, xs, _, rfl, rfl, gr_L s3.fr (gr_L g3 hl), fun e => ?_, fun e b hb1 hb2 => ?_⟩
    · subst e
      cases hm
      exact q _ F3 H3 (g2.tr g3) s3 (.int _)
    · have e1 : maxL xs = some m := by
        cases xs with
        | nil => exact absurd rfl e
        | cons x xs => exact hm
      have n12 : m ∈ xs ∧ ∀ b ∈ xs, b ≤ m := by
        cases xs with
        | nil => exact absurd rfl e
        | cons x xs =>
          obtain rfl := sm e1
          obtain ⟨a1, a2, a3⟩ := foldl_max xs x
          refine ⟨?_, fun b hb => ?_⟩
          · rcases a1 with h | h
            · rw [h]; exact List.mem_cons_self
            · exact List.mem_cons_of_mem _ h
          · rcases List.mem_cons.mp hb with rfl | hb
            · exact a2
            · exact a3 b hb
      obtain ⟨n1, n2⟩ := n12
      have : b = m := Int.le_antisymm (n2 b hb1) (hb2 m n1)
      subst this
      exact q _ F3 H3 (g2.tr g3) s3 (.int _)
end
end Bw

namespace L2
open PySem PySem.Spec PyProof.Rows
/-- a op1 b op2 c op3 d -/
def tChain3 (r r' r'' : R2) (ta tb tc td : TE) : TE := fun σ H Q => ta σ H fun x H1 => tb σ H1 fun y H2 => r x y H2 fun z H3 => ∃ k, z = .bl k ∧
  (if k = true then tc σ H3 fun w' H4 => r' y w' H4 fun z' H5 => ∃ k', z' = .bl k' ∧ (if k' = true then td σ H5 fun v H6 => r'' w' v H6 Q else Q (.bl false) H5) else Q (.bl false) H3)
section
variable {X : Cx} {a b c d : Expr} {ta tb tc td : TE} {pos : Pos}
theorem pe_chain3 {op op' op'' : CmpOp} {r r' r'' : R2} (ho : OpR X (compareOp op) r) (ho' : OpR X (compareOp op') r') (h3 : OpR X (compareOp op'') r'') (ha : PE X a ta) (hb : PE X b tb) (hc : PE X c tc) (hd : PE X d td)
    (hm : lastMarks [op, op', op''] [b, c, d] = false := by with_unfolding_all rfl) : PE X (.Compare a [op, op', op''] [b, c, d] pos) (tChain3 r r' r'' ta tb tc td) := by
  refine ⟨fun pins s σ H Q I h => ?_⟩
  refine Compare_chain (thn (ha.run pins s σ H _ I h) fun v s1 ⟨x, H1, I1, r1, q1⟩ => chain_link (thn (hb.run pins s1 σ H1 _ I1 q1) fun u s2 ⟨y, H2, I2, r2, q2⟩ => thn (ho pins s2 σ H2 x y v u _ I2 r1 r2 q2) fun e s3 ⟨z, H3, I3, r3, k, ek, q3⟩ => ?_)) hm
  subst ek; cases r3; refine wpAny_truthy_bool ?_
  cases k with
  | false => exact ite_ff ⟨.bl false, H3, I3, rfl, q3⟩
  | true =>
    refine ite_tt (chain_link (thn (hc.run pins s3 σ H3 _ I3 q3) fun w' s4 ⟨z', H4, I4, r4, q4⟩ => thn (ho' pins s4 σ H4 y z' u w' _ I4 r2 r4 q4) fun e' s5 ⟨z2, H5, I5, r5, k2, ek2, q5⟩ => ?_))
    subst ek2; cases r5; refine wpAny_truthy_bool ?_
    cases k2 with
    | false => exact ite_ff ⟨.bl false, H5, I5, rfl, q5⟩
    | true => exact ite_tt (chain_last (thn (hd.run pins s5 σ H5 _ I5 q5) fun v' s6 ⟨z3, H6, I6, r6, q6⟩ => h3 pins s6 σ H6 z' z3 w' v' Q I6 r4 r6 q6))
theorem pt_chain3 {op op' op'' : CmpOp} {r r' r'' : R2} (ho : OpR X (compareOp op) r) (ho' : OpR X (compareOp op') r') (h3 : OpR X (compareOp op'') r'') (ha : PE X a ta) (hb : PE X b tb) (hc : PE X c tc) (hd : PE X d td)
    (hm : lastMarks [op, op', op''] [b, c, d] = false := by with_unfolding_all rfl) : PT X (.Compare a [op, op', op''] [b, c, d] pos) (tTest (tChain3 r r' r'' ta tb tc td)) := by
  refine ⟨fun pins s σ H Q I h => ?_⟩
  refine isTrue_chain (thn (ha.run pins s σ H _ I h) fun v s1 ⟨x, H1, I1, r1, q1⟩ => test_link (thn (hb.run pins s1 σ H1 _ I1 q1) fun u s2 ⟨y, H2, I2, r2, q2⟩ => thn (ho pins s2 σ H2 x y v u _ I2 r1 r2 q2) fun e s3 ⟨z, H3, I3, r3, k, ek, q3⟩ => ?_)) hm
  subst ek; cases r3; refine wpAny_truthy_bool ?_
  cases k with
  | false => obtain ⟨k', e', q'⟩ := q3; cases e'; exact ite_ff ⟨H3, I3, q'⟩
  | true =>
    refine ite_tt (test_link (thn (hc.run pins s3 σ H3 _ I3 q3) fun w' s4 ⟨z', H4, I4, r4, q4⟩ => thn (ho' pins s4 σ H4 y z' u w' _ I4 r2 r4 q4) fun e' s5 ⟨z2, H5, I5, r5, k2, ek2, q5⟩ => ?_))
    subst ek2; cases r5; refine wpAny_truthy_bool ?_
    cases k2 with
    | false => obtain ⟨k', e', q'⟩ := q5; cases e'; exact ite_ff ⟨H5, I5, q'⟩
    | true =>
      refine ite_tt (test_last (thn (hd.run pins s5 σ H5 _ I5 q5) fun v' s6 ⟨z3, H6, I6, r6, q6⟩ => thn (h3 pins s6 σ H6 z' z3 w' v' _ I6 r4 r6 q6) fun e' s7 ⟨z4, H7, I7, r7, k4, ek4, q7⟩ => ?_))
      subst ek4; cases r7; exact wpAny_truthy_bool ⟨H7, I7, q7⟩
end
end L2
namespace Bw
open PySem L2
section
variable {K : PySem.W.Frag} {σ : St} {F : Hp} {cs cs1 : Cs} {ta tb tc td : TE} {a b c d : Int}
theorem d_chain3 {g g' g'' : Int → Int → Bool} (ha : EvD K ta σ F cs (.int a) cs) (hb : EvD K tb σ F cs (.int b) cs) (hc : EvD K tc σ F cs (.int c) cs) (hd : EvD K td σ F cs (.int d) cs) : EvD K (tChain3 (rI0 fun i j => .bl (g i j)) (rI0 fun i j => .bl (g' i j)) (rI0 fun i j => .bl (g'' i j)) ta tb tc td) σ F cs (.bool (g a b && (g' b c && g'' c d))) cs := fun F1 H1 g1 s Q q =>
  ha F1 H1 g1 s _ fun v F2 H2 g2 s2 h2 => hb F2 H2 (g1.tr g2) s2 _ fun w F3 H3 g3 s3 h3 => by
    cases h2.toInt; cases h3.toInt
    refine ⟨a, b, rfl, rfl, g a b, rfl, ?_⟩
    cases e : g a b with
    | false => rw [if_neg (by decide)]; exact q _ F3 H3 (g2.tr g3) s3 (by show Dt K F3 (.bl false) (.bool (g a b && (g' b c && g'' c d))); rw [e]; exact .bl _)
    | true =>
      rw [if_pos rfl]
      refine hc F3 H3 ((g1.tr g2).tr g3) s3 _ fun u F4 H4 g4 s4 h4 => ?_
      cases h4.toInt
      refine ⟨b, c, rfl, rfl, g' b c, rfl, ?_⟩
      cases e2 : g' b c with
      | false => rw [if_neg (by decide)]; exact q _ F4 H4 ((g2.tr g3).tr g4) s4 (by show Dt K F4 (.bl false) (.bool (g a b && (g' b c && g'' c d))); rw [e, e2]; exact .bl _)
      | true =>
        rw [if_pos rfl]
        refine hd F4 H4 (((g1.tr g2).tr g3).tr g4) s4 _ fun x F5 H5 g5 s5 h5 => ?_
        cases h5.toInt
        exact ⟨c, d, rfl, rfl, q _ F5 H5 (((g2.tr g3).tr g4).tr g5) s5 (by show Dt K F5 (.bl (g'' c d)) (.bool (g a b && (g' b c && g'' c d))); rw [e, e2]; exact .bl _)⟩
end
end Bw
namespace Bw
open PySem L2
/-- what is asked first raises -/
theorem s_cutX {K : PySem.W.Frag} {σ : St} {F H : Hp} {cs cs1 : Cs} {te : TE} {W : WX} {Q : VK} {c : Str × PyData} (s : Sta F cs H) (h : EvX K te W σ F cs (.ex c) cs1) (qx : ∀ d F2 H2, Gr F F2 → Sta F2 cs1 H2 → Xd K F2 c d → W (.ref (He.ga K c.1)) d σ H2) : te σ H Q :=
  h F H .rfl s Q (fun d hd => nomatch hd) fun c' hc d F2 H2 g2 s2 xd => by cases hc; exact qx d F2 H2 g2 s2 xd
end Bw

namespace L2
open PySem PySem.Spec PyProof.Rows
/-! list(range(a, b, c)), c above 0 -/
def rz3 (a b c : Int) : Nat := if a < b then ((b - a - 1) / c + 1).toNat else 0
theorem rz3_size {a b c : Int} (h : 0 < c) : Builtin.Range.rangeSize a b c = (rz3 a b c : Int) := by
  unfold Builtin.Range.rangeSize rz3
  rw [if_pos h]
  split
  · rename_i q
    have := Int.ediv_nonneg (a := b - a - 1) (b := c) (by omega) (by omega)
    omega
  · rfl
theorem rz3_small {a b c : Int} (h : 0 < c) (h1 : c < 1073741824) (ha : -(2 ^ 61) ≤ a) (ha' : a < 2 ^ 61) (hb : -(2 ^ 61) ≤ b) (hb' : b < 2 ^ 61) : Builtin.Range.small a b c = true := by
  have e := rz3_size (a := a) (b := b) h
  unfold Builtin.Range.small
  rw [e]
  unfold rz3
  have dv : a < b → 0 ≤ (b - a - 1) / c ∧ (b - a - 1) / c ≤ b - a - 1 := fun q => ⟨Int.ediv_nonneg (by omega) (by omega), Int.ediv_le_self _ (by omega)⟩
  have dm : a < b → (b - a - 1) / c * c ≤ b - a - 1 := fun q => Int.ediv_mul_le _ (by omega)
  simp only [Builtin.Range.rangeFitsLong, Bool.and_eq_true, Bool.or_eq_true, decide_eq_true_eq, beq_iff_eq, show c > 0 from h, if_true]
  split
  · rename_i q
    have := dv q
    have := dm q
    generalize (b - a - 1) / c = d at *
    have e1 : (((d + 1).toNat : Nat) : Int) = d + 1 := by omega
    rw [e1]
    refine ⟨?_, ?_⟩ <;> (try omega) <;> (try (refine ⟨?_, ?_⟩ <;> (try omega)))
  · simp; omega
def rg3V (a c : Int) (n : Nat) : List V := (List.range n).map fun i => V.int (a + (i : Nat) * c)
theorem vals_rg3 {a c : Int} {n : Nat} {acc : Array Value} (h : ItemsOf (fun i v => ∃ t, v = .int (a + i * c) t) acc n) : Vals (rg3V a c n) acc.toList := by
  have e : acc.toList.length = n := by rw [Array.length_toList]; exact h.1
  unfold rg3V
  rw [← e]
  refine vals_of_get acc.toList _ fun j u hj => ?_
  obtain ⟨t, rfl⟩ := h.2 j u (by rw [← hj, Array.getElem?_toList])
  exact ⟨t, rfl⟩
def Rg3Ok (a b c : Int) : Prop := 0 < c ∧ c < 1073741824 ∧ -(2 ^ 61) ≤ a ∧ a < 2 ^ 61 ∧ -(2 ^ 61) ≤ b ∧ b < 2 ^ 61 ∧ rz3 a b c ≤ 100000
def tLstRg3 (t : TA) : TE := fun σ H Q => t σ H fun vs H1 => ∃ a b c, vs = [.int a, .int b, .int c] ∧ Rg3Ok a b c ∧ ∀ q, H1 q = none → Q (.ref q) (upd H1 q (.lst (rg3V a c (rz3 a b c))))
section
variable {X : Cx} {a b c : Expr} {ta : TA} {p pos p' pos' : Pos}
theorem pe_listRg3 (hc : X.calm = true) (hg : Gl X "list") (hm : X.mg "list" = none) (hg' : Gl X "range") (hm' : X.mg "range" = none) (ha : PA X [a, b, c] ta)
    (hs : starEach [a, b, c] X.env = (false, eval a X.env) :: starEach [b, c] X.env := by rfl) (hpl : (backTo pos' (starEach [b, c] X.env)).any (·.1) = false := by rfl)
    (na : starEach [.Call (.Name "range" p') [a, b, c] [] pos'] X.env = (false, eval (.Call (.Name "range" p') [a, b, c] [] pos') X.env) :: starEach [] X.env := by rfl) :
    PE X (.Call (.Name "list" p) [.Call (.Name "range" p') [a, b, c] [] pos'] [] pos) (tLstRg3 ta) := by
  refine ⟨fun pins s σ H Q I h => ?_⟩
  refine Call_ (ld_blt I hg hm boot_list (PyProof.Rows.callWith_type1 (args_cons ?_ na) na))
  refine Call_ (ld_blt I hg' hm' boot_range (PyProof.Rows.callWith_type1 (thn (ha.run pos' pins s σ H _ I h) fun us s1 ⟨vs, H1, I1, r1, q1⟩ => ?_) hs hpl))
  obtain ⟨i, j, k, e, ⟨c0, c1, c2, c3, c4, c5, c6⟩, q⟩ := q1
  subst e
  cases r1 with
  | cons r rr =>
    cases rr with
    | cons r' rr =>
      cases rr with
      | cons r'' rr =>
        cases rr
        obtain ⟨t, rfl⟩ := r
        obtain ⟨t', rfl⟩ := r'
        obtain ⟨t'', rfl⟩ := r''
        refine call_range_3 (by omega) ?_ (.inl (PyProof.noPylong_small (by omega)))
        have I2 : Inv X pins σ H1 { s1 with heap := s1.heap.push { cls := .type "range", data := .fields #[.int i t, .int j t', .int k t''] } } := I1.kept (t' := s1.toks) fun b o e => Heap.get?_push_of_some _ e
        refine args_nil ?_
        refine call_list_range (n := rz3 i j k) (I2.ok.hd hc) (IsRange.new ..) (rz3_small c0 c1 c2 c3 c4 c5) (rz3_size c0) (by omega) fun h' tk acc c' hk e' hi => ?_
        refine ⟨.ref _, upd H1 _ (.lst (rg3V i k (rz3 i j k))), I2.laid hk (Nat.le_refl _) (show ObjOk X.prog X.w _ _ _ (.lst (rg3V i k (rz3 i j k))) from ⟨?_, acc.toList, c', vals_rg3 hi, ?_⟩), rfl, q _ (I2.hok.fresh (Nat.le_refl _))⟩
        · unfold rg3V; rw [List.length_map, List.length_range, sizeLine_eq]; omega
        · rw [Array.toArray_toList]; exact e'
end
end L2
namespace Bw
open PySem L2
def rng3L (a b c : Int) : List Int := (List.range (rz3 a b c)).map fun (i : Nat) => a + (i : Int) * c
def rng3M (a b c : Int) : Option (List Int) := if 0 < c ∧ c < 1073741824 ∧ -(2 ^ 61) ≤ a ∧ a < 2 ^ 61 ∧ -(2 ^ 61) ≤ b ∧ b < 2 ^ 61 ∧ rz3 a b c ≤ 100000 then some (rng3L a b c) else none
section
variable {K : PySem.W.Frag} {σ : St} {F : Hp} {cs cs1 : Cs} {as : TA} {a b c : Int} {xs : List Int}
theorem c_rng3 (h : EvDs K as σ F cs [.int a, .int b, .int c] cs1) (k : rng3M a b c = some xs) : EvC K (tLstRg3 as) σ F cs (xs.map eI) cs1 := fun F1 H1 g1 s Q q =>
  h F1 H1 g1 s _ fun vs F2 H2 g2 s2 hv => by
    unfold rng3M at k
    split at k
    · rename_i w
      obtain rfl := Option.some.inj k
      obtain ⟨x, y, z, rfl, h1, h2, h3⟩ := hv.three
      cases h1.toInt; cases h2.toInt; cases h3.toInt
      refine ⟨a, b, c, rfl, w, fun p hp => ?_⟩
      have e : rg3V a c (rz3 a b c) = (rng3L a b c).map V.int := by unfold rg3V rng3L; rw [List.map_map]; rfl
      rw [e]
      exact q p _ F2 _ g2 (s2.cell hp) (Dts.of_ints _)
    · cases k
end
end Bw

namespace Bw
open PySem L2
/-! dict(a list of pairs), an owned one -/
def mkD {κ ν : Type} [DecidableEq κ] (xs : List (κ × ν)) : List (κ × ν) := xs.foldl (fun d p => putKV d p.1 p.2) []
theorem merge_kv {ν : Type} {vf : ν → V} : ∀ (xs d : List (Str × ν)), mergeK (kvE kS vf d) (kvE kS vf xs) = kvE kS vf (xs.foldl (fun d p => putKV d p.1 p.2) d)
  | [], d => rfl
  | x :: xs, d => by
    show mergeK (putK (kvE kS vf d) (kS x.1) (vf x.2)) (kvE kS vf xs) = _
    rw [put_kv inj_S]
    exact merge_kv xs _
section
variable {K : PySem.W.Frag} {σ : St} {F : Hp} {cs cs1 : Cs} {as : TA} {H : Hp}
theorem o_dictP {ν : Type} {ev : ν → PyData} {vf : ν → V} {xs D : List (Str × ν)} {Q : VK} (hv : ∀ F v x, Dt K F v (ev x) → v = vf x) (s : Sta F cs H) (h : EvDs K as σ F cs [eL (eT2 eS ev) xs] cs1) (hm : mkD xs = D)
    (q : ∀ p F2 H2, Gr F F2 → Sta F2 ((p, .dK (kvE kS vf D)) :: cs1) H2 → Q (.ref p) H2) : tCB (rDictP K) as σ H Q :=
  h F H .rfl s _ fun v F2 H2 g2 s2 h2 => by
    obtain ⟨v, rfl, k⟩ := h2.one
    obtain ⟨p, ys, rfl, hl, hd⟩ := k.toLst
    obtain ⟨ps, rfl, hp⟩ := dts_pairs hv s2.fr hd
    refine ⟨p, ps, _, rfl, gr_L s2.fr hl, hp, fun l nl => q _ _ _ g2 ?_⟩
    have e : mergeK [] (kvE kS vf xs) = kvE kS vf D := by rw [← hm]; exact merge_kv xs []
    rw [e]
    exact s2.cell nl
end
end Bw

namespace Bw
open PySem L2
def top (i : Nat) : Stmt := PySem.Challenge.pw_baycart_k14_no_store_no_cart.main.body.getD i (.Pass ⟨0, 0, 0, 0⟩)
abbrev xcl : List Str := ["NoStore"]
abbrev xts : List Str := ["NoAisle", "NoBay", "NoBox", "NoFork", "NoOrders", "NoPaper", "NoPlan", "NoRoom", "NoRow", "NoStore", "NoText", "NoWants", "TooMany", "Unknown"]
abbrev s_NoStore_i : Stmt := (clsB (top 14)).getD 0 (.Pass ⟨0, 0, 0, 0⟩)
theorem sc_NoStore_i : FnScope ["self", "part"] ["self", "part"] (defScope s_NoStore_i) := ⟨rfl, rfl, rfl, by decide +kernel, rfl, by decide +kernel, by decide +kernel⟩
theorem ok_NoStore_i {P : Program} {w : World} {K : PySem.W.Frag} {mg : Str → Option Value} {base : Heap} (hF : ∃ fd, FunD K "__init__" "NoStore.__init__" (defArgs s_NoStore_i) (defBody s_NoStore_i) (defScope s_NoStore_i) [] [] (He.ma K (He.ga K "NoStore") "__init__") fd)
    (g : mg "NoStore" = some (.ref (He.ga K "NoStore"))) (gc : mg "CartError" = some (.ref (He.ga K "CartError"))) (ce : ceB K = true) (T : OexF K (He.ga K "NoStore") "part") : OkI P w K mg base "NoStore" "part" := by
  obtain ⟨fd, F⟩ := hF
  refine ⟨⟨fd, F.ok sc_NoStore_i (fun vs H Q E h => spI_len h) (fun cdv A outer s H vs Q E hr h => ⟨tInit K "part" "no store: ", PSs.nox ?_, w_init T (by decide) h⟩), F.bindsN fun _ _ _ _ _ _ us hl => match us, hl with | [_, _], _ => rfl⟩, g, T⟩
  exact (pss_cons (ps_expr (pe_ceinit (by rfl) gc ce (pa_cons (pv 0) (pa_cons (pe_joined (PJ.cons pe_str (PJ.cons (pe_fmt (pv 1)) PJ.nil))) pa_nil)))) (pss_one (ps_ost (pv 0) (pv 1))))
abbrev T_Cart : Type := (List Int) × (List Int) × Int × (List (Str × Int)) × (List (Str × Int)) × Int × Int
def O_Cart (K : PySem.W.Frag) (x : T_Cart) (F : Hp) (a : Addr) (c : Cs) : Prop := ∃ (dx : Addr) (p0 : Addr) (p1 : Addr) (p3 : Addr) (p4 : Addr), c = [(a, .ins (He.ga K "Cart") dx [("rooms", .ref p0), ("gaps", .ref p1), ("most", (.int x.2.2.1)), ("spots", .ref p3), ("homes", .ref p4), ("bay", (.int x.2.2.2.2.2.1)), ("gone", (.int x.2.2.2.2.2.2))]), (dx, .own a), (p0, .lst (x.1.map V.int)), (p1, .lst (x.2.1.map V.int)), (p3, .dK (kvE kS V.int x.2.2.2.1)), (p4, .dK (kvE kS V.int x.2.2.2.2.1))]
theorem O_Cart.gr {K : PySem.W.Frag} {x : T_Cart} {F F' : Hp} {a : Addr} {c : Cs} (g : Gr F F') (h : O_Cart K x F a c) : O_Cart K x F' a c := by
  obtain ⟨dx, p0, p1, p3, p4, rfl⟩ := h
  exact ⟨dx, p0, p1, p3, p4, rfl⟩
abbrev s_source : Stmt := (top 40)
def f_source : (Int × Int) → Option (List Int) := fun (cell_here_1, k_2) => (letM (absI cell_here_1) fun number_7 => (letM (((((number_7 % (1000003 : Int)) + ((104729 : Int) * k_2)) + (7 : Int)) * (48271 : Int)) % (2147483647 : Int)) fun seed_13 => (((mulM number_7 (b2I (decide ((1000000000000000000 : Int) ≤ number_7))))).bind fun x15 => some ([x15, seed_13] : (List Int)))))
abbrev A_source : (Int × Int) → List Ar := fun x => [.d (eI x.1), .d (eI x.2)]
abbrev B_source : (List Int) → List PyData := fun y => y.map eI
abbrev C_source : (List Int) → List (List V) := fun y => []
abbrev N_source : List Str := ["_law_cell_here", "_law_k", "_law_number", "_law_seed"]
abbrev sp_source (K : PySem.W.Frag) : Sp := spF K A_source B_source C_source f_source
def t_source (K : PySem.W.Frag) : TS := (tSeq (tAsg (tCB rAbs (tCons (tVar 0) tNil)) (gName 2)) (tSeq (tAsg (tOp (rI (fun _ j => 0 < j) fun i j => .int (i % j)) (tOp (rI CMul fun i j => .int (i * j)) (tOp (rI0 fun i j => .int (i + j)) (tOp (rI0 fun i j => .int (i + j)) (tOp (rI (fun _ j => 0 < j) fun i j => .int (i % j)) (tVar 2) (tC (.int 1000003))) (tOp (rI CMul fun i j => .int (i * j)) (tC (.int 104729)) (tVar 1))) (tC (.int 7))) (tC (.int 48271))) (tC (.int 2147483647))) (gName 3)) (tRet (tLst (tCons (tOp (rI CMul fun i j => .int (i * j)) (tVar 2) (tCB rInt (tCons (tOp (rI0 fun i j => .bl (decide (j ≤ i))) (tVar 2) (tOp (rI CPow fun i j => .int (i ^ j.toNat)) (tC (.int 10)) (tC (.int 18)))) tNil))) (tCons (tVar 3) tNil))))))
theorem w_source {K : PySem.W.Frag} (vs : List V) (H : Hp) (Q : VK) (E : XK) (h : sp_source K vs H Q E) : t_source K { nx := fun _ H' => Q .non H', rt := Q } (start N_source vs) H := by
  obtain ⟨F0, cc, cs, ⟨cell_here_1, k_2⟩, y, h0, hS0, m, q⟩ := h
  obtain ⟨a0, _, rfl, ha0, h1⟩ := ArgR.hd h0
  obtain ⟨a1, _, rfl, ha1, h2⟩ := ArgR.hd h1
  obtain ⟨rfl, rfl⟩ := ArgR.no h2
  obtain rfl := Dt.toInt ha0
  obtain rfl := Dt.toInt ha1
  unfold f_source at m
  try dsimp only at m
  unfold t_source
  refine go (σ' := [some (.int cell_here_1), some (.int k_2), none, none]) rfl ?_
  obtain ⟨number_7, k8, m⟩ := lt m
  refine s_setV (K := K) (d := eI number_7) (i := 2) (σ' := [some (.int cell_here_1), some (.int k_2), some (.int number_7), none]) (fun _ _ h => Dt.toInt h) hS0 (d_is (d_abs (a_cons (d_var rfl (.int _)) a_nil)) (congrArg eI k8)) rfl (fun F3 H4 g5 hS6 => ?_)
  obtain ⟨seed_13, k14, m⟩ := lt m
  refine s_setV (K := K) (d := eI seed_13) (i := 3) (σ' := [some (.int cell_here_1), some (.int k_2), some (.int number_7), some (.int seed_13)]) (fun _ _ h => Dt.toInt h) hS6 (d_is (d_modC (d_mulC (d_add (d_add (d_modC (d_var rfl (.int _)) d_int (by decide)) (d_mulC d_int (d_var rfl (.int _)) (.inl ⟨by decide, by decide⟩))) d_int) d_int (.inr ⟨by decide, by decide⟩)) d_int (by decide)) (congrArg eI k14)) rfl (fun F9 H10 g11 hS12 => ?_)
  obtain ⟨x15, k16, m⟩ := bnd m
  refine s_retC (K := K) (ds := ([x15, seed_13] : (List Int)).map eI) hS12 (c_lst (a_cons (d_mul (d_var rfl (.int _)) (d_intB (a_cons (d_ge (d_var rfl (.int _)) (d_is (e := PyData.int 1000000000000000000) (d_powC d_int d_int ⟨by decide, by decide, by decide⟩) (congrArg PyData.int (by decide)))) a_nil)) k16) (a_cons (d_var rfl (.int _)) a_nil)) (Nat.le_of_ble_eq_true rfl)) (fun p21 us22 F17 H18 g19 hS20 hu23 => ?_)
  obtain rfl := sm m
  exact q _ _ _ _ (Gr.tr g5 (Gr.tr g11 g19)) hS20 hu23
theorem sc_source : FnScope N_source ["_law_cell_here", "_law_k"] (defScope s_source) := ⟨rfl, rfl, rfl, by decide +kernel, rfl, by decide +kernel, by decide +kernel⟩
theorem ok_source {P : Program} {w : World} {K : PySem.W.Frag} {mg : Str → Option Value} {base : Heap} (hF : Df K mg "_law_source" s_source) (m_abs : mg "abs" = none) (m_int : mg "int" = none) : Ok P w K mg base 1 "_law_source" ["_law_cell_here", "_law_k"] (sp_source K) := by
  obtain ⟨⟨fd, F⟩, gm⟩ := hF
  refine ⟨⟨fd, F.ok sc_source (fun vs H Q E h => ?_) (fun cdv A outer s H vs Q E hr h => ⟨t_source K, PSs.nox ?_, w_source vs H Q E h⟩), F.bindsN fun _ _ _ _ _ _ us hl => match us, hl with | [_, _], _ => rfl, lk_of F⟩, F.kp, gm⟩
  · obtain ⟨F0, cc, cs, x, y, h, _⟩ := h; exact ArgR.len h
  · exact (pss_cons (ps_set (i := 2) sc_source.nd rfl (Or.inl rfl) (pe_callB cr_abs (by rfl) m_abs (by decide +kernel) (pa_cons (pv 0) pa_nil))) (pss_cons (ps_set (i := 3) sc_source.nd rfl (Or.inl rfl) (pe_op op_mod (pe_op op_mul (pe_op op_add (pe_op op_add (pe_op op_mod (pv 2) pe_int) (pe_op op_mul pe_int (pv 1))) pe_int) pe_int) pe_int)) (pss_one (ps_ret (pe_lst (pa_cons (pe_op op_mul (pv 2) (pe_callTy cr_int (by rfl) m_int (by decide +kernel) (pa_cons (pe_cmpR op_ge (pv 2) (pe_op op_pow pe_int pe_int) (nomark _)) pa_nil))) (pa_cons (pv 3) pa_nil)))))))
abbrev s_draw : Stmt := (top 41)
def f_draw : ((List Int) × Int) → Option (Int × (List Int)) := fun (source_here_1, many_2) => (((atI source_here_1 (0 : Int))).bind fun x6 => (if (decide ((0 : Int) < x6)) = true then (((atI source_here_1 (0 : Int))).bind fun x15 => ((modM x15 many_2)).bind fun x17 => (((atI source_here_1 (0 : Int))).bind fun x26 => ((fdivM x26 many_2)).bind fun x28 => ((setM source_here_1 (0 : Int) x28)).bind fun source_here_30 => some (x17, source_here_30))) else (((atI source_here_1 (1 : Int))).bind fun x49 => ((setM source_here_1 (1 : Int) (((x49 * (48271 : Int)) + (11 : Int)) % (2147483647 : Int)))).bind fun source_here_51 => (((atI source_here_51 (1 : Int))).bind fun x60 => ((atI source_here_51 (1 : Int))).bind fun x62 => ((mulM x60 x62)).bind fun x64 => ((modM ((x64 % (2147483629 : Int)) / (64 : Int)) many_2)).bind fun x66 => some (x66, source_here_51)))))
abbrev A_draw : ((List Int) × Int) → List Ar := fun x => [.c (x.1.map V.int), .d (eI x.2)]
abbrev B_draw : (Int × (List Int)) → PyData := fun y => eI y.1
abbrev C_draw : (Int × (List Int)) → List (List V) := fun y => [y.2.map V.int]
abbrev N_draw : List Str := ["_law_source_here", "_law_many", "_law_digit"]
abbrev sp_draw (K : PySem.W.Frag) : Sp := spC K A_draw B_draw C_draw f_draw
def t_draw (K : PySem.W.Frag) : TS := (tSeq (tIfS (tTest (tOp (rI0 fun i j => .bl (decide (j < i))) (tOp (rIxL K) (tVar 0) (tC (.int 0))) (tC (.int 0)))) (tSeq (tAsg (tOp (rI (fun _ j => 0 < j) fun i j => .int (i % j)) (tOp (rIxL K) (tVar 0) (tC (.int 0))) (tVar 1)) (gName 2)) (tSeq (tAsg (tOp (rI CDiv fun i j => .int (i / j)) (tOp (rIxL K) (tVar 0) (tC (.int 0))) (tVar 1)) (gSub (tVar 0) (tC (.int 0)) rSetL)) (tRet (tVar 2)))) tNext) (tSeq (tAsg (tOp (rI (fun _ j => 0 < j) fun i j => .int (i % j)) (tOp (rI0 fun i j => .int (i + j)) (tOp (rI CMul fun i j => .int (i * j)) (tOp (rIxL K) (tVar 0) (tC (.int 1))) (tC (.int 48271))) (tC (.int 11))) (tC (.int 2147483647))) (gSub (tVar 0) (tC (.int 1)) rSetL)) (tRet (tOp (rI (fun _ j => 0 < j) fun i j => .int (i % j)) (tOp (rI CDiv fun i j => .int (i / j)) (tOp (rI (fun _ j => 0 < j) fun i j => .int (i % j)) (tOp (rI CMul fun i j => .int (i * j)) (tOp (rIxL K) (tVar 0) (tC (.int 1))) (tOp (rIxL K) (tVar 0) (tC (.int 1)))) (tC (.int 2147483629))) (tC (.int 64))) (tVar 1)))))
theorem w_draw {K : PySem.W.Frag} (vs : List V) (H : Hp) (Q : VK) (E : XK) (h : sp_draw K vs H Q E) : t_draw K { nx := fun _ H' => Q .non H', rt := Q } (start N_draw vs) H := by
  obtain ⟨F0, cc, cs, ⟨source_here_1, many_2⟩, y, h0, hS0, m, q⟩ := h
  obtain ⟨a0, _, _, rfl, rfl, h1⟩ := ArgR.hc h0
  obtain ⟨a1, _, rfl, ha1, h2⟩ := ArgR.hd h1
  obtain ⟨rfl, rfl⟩ := ArgR.no h2
  obtain rfl := Dt.toInt ha1
  unfold f_draw at m
  try dsimp only at m
  unfold t_draw
  refine go (σ' := [some (.ref a0), some (.int many_2), none]) rfl ?_
  obtain ⟨x6, k7, m⟩ := bnd m
  refine s_if (b := (decide ((0 : Int) < x6))) hS0 (t_lendX (l1 := []) (m1 := []) (fun F3 g4 hn5 => (t_test (K := K) (d_gt (d_ix (e := eI) (d_var rfl (lent_l hn5 (Dts.gr g4 (Dts.of_ints _)))) d_int k7) d_int)))) (fun hc F8 H9 g10 hS11 => ?_) (fun hc F42 H43 g44 hS45 => ?_)
  · rw [if_pos hc] at m
    obtain ⟨x15, k16, m⟩ := bnd m
    obtain ⟨x17, k18, m⟩ := bnd m
    refine s_setV (K := K) (d := eI x17) (i := 2) (σ' := [some (.ref a0), some (.int many_2), some (.int x17)]) (fun _ _ h => Dt.toInt h) hS11 (d_lendX (l1 := []) (m1 := []) (fun _ _ h => Dt.toInt h) (fun _ => (.int _)) (fun F12 g13 hn14 => (d_mod (d_ix (e := eI) (d_var rfl (lent_l hn14 (Dts.gr g13 (Dts.of_ints _)))) d_int k16) (d_var rfl (.int _)) k18))) rfl (fun F19 H20 g21 hS22 => ?_)
    obtain ⟨x26, k27, m⟩ := bnd m
    obtain ⟨x28, k29, m⟩ := bnd m
    obtain ⟨source_here_30, k31, m⟩ := bnd m
    refine s_itemFV (K := K) (k1 := []) (m1 := []) (x := x28) (l1 := []) (p := a0) (vf := V.int) (en := eI) (fun _ _ _ h => Dt.toInt h) hS22 (vp_var rfl) (d_lendX (l1 := []) (m1 := []) (fun _ _ h => Dt.toInt h) (fun _ => (.int _)) (fun F23 g24 hn25 => (d_fdiv (d_ix (e := eI) (d_var rfl (lent_l hn25 (Dts.gr g24 (Dts.of_ints _)))) d_int k27) (d_var rfl (.int _)) k29))) d_int k31 (fun F32 H33 g34 hS35 => ?_)
    refine s_ret (K := K) (d := eI x17) hS35 (d_var rfl (.int _)) (fun v40 F36 H37 g38 hS39 hv41 => ?_)
    obtain rfl := sm m
    exact q _ _ _ (Gr.tr g10 (Gr.tr g21 (Gr.tr g34 g38))) hS39 hv41
  · rw [if_neg (bf hc)] at m
    refine nxt ?_
    obtain ⟨x49, k50, m⟩ := bnd m
    obtain ⟨source_here_51, k52, m⟩ := bnd m
    refine s_itemFV (K := K) (k1 := []) (m1 := []) (x := (((x49 * (48271 : Int)) + (11 : Int)) % (2147483647 : Int))) (l1 := []) (p := a0) (vf := V.int) (en := eI) (fun _ _ _ h => Dt.toInt h) hS45 (vp_var rfl) (d_lendX (l1 := []) (m1 := []) (fun _ _ h => Dt.toInt h) (fun _ => (.int _)) (fun F46 g47 hn48 => (d_modC (d_add (d_mulC (d_ix (e := eI) (d_var rfl (lent_l hn48 (Dts.gr g47 (Dts.of_ints _)))) d_int k50) d_int (.inr ⟨by decide, by decide⟩)) d_int) d_int (by decide)))) d_int k52 (fun F53 H54 g55 hS56 => ?_)
    obtain ⟨x60, k61, m⟩ := bnd m
    obtain ⟨x62, k63, m⟩ := bnd m
    obtain ⟨x64, k65, m⟩ := bnd m
    obtain ⟨x66, k67, m⟩ := bnd m
    refine s_ret (K := K) (d := eI x66) hS56 (d_lendX (l1 := []) (m1 := []) (fun _ _ h => Dt.toInt h) (fun _ => (.int _)) (fun F57 g58 hn59 => (d_mod (d_fdivC (d_modC (d_mul (d_ix (e := eI) (d_var rfl (lent_l hn59 (Dts.gr g58 (Dts.of_ints _)))) d_int k61) (d_ix (e := eI) (d_var rfl (lent_l hn59 (Dts.gr g58 (Dts.of_ints _)))) d_int k63) k65) d_int (by decide)) d_int ⟨by decide, by decide⟩) (d_var rfl (.int _)) k67))) (fun v72 F68 H69 g70 hS71 hv73 => ?_)
    obtain rfl := sm m
    exact q _ _ _ (Gr.tr g44 (Gr.tr g55 g70)) hS71 hv73
theorem sc_draw : FnScope N_draw ["_law_source_here", "_law_many"] (defScope s_draw) := ⟨rfl, rfl, rfl, by decide +kernel, rfl, by decide +kernel, by decide +kernel⟩
theorem ok_draw {P : Program} {w : World} {K : PySem.W.Frag} {mg : Str → Option Value} {base : Heap} (hF : Df K mg "_law_draw" s_draw) : Ok P w K mg base 1 "_law_draw" ["_law_source_here", "_law_many"] (sp_draw K) := by
  obtain ⟨⟨fd, F⟩, gm⟩ := hF
  refine ⟨⟨fd, F.ok sc_draw (fun vs H Q E h => ?_) (fun cdv A outer s H vs Q E hr h => ⟨t_draw K, PSs.nox ?_, w_draw vs H Q E h⟩), F.bindsN fun _ _ _ _ _ _ us hl => match us, hl with | [_, _], _ => rfl, lk_of F⟩, F.kp, gm⟩
  · obtain ⟨F0, cc, cs, x, y, h, _⟩ := h; exact ArgR.len h
  · exact (pss_cons (ps_if (pt_cmpR op_gt (pe_ix ix_list (pv 0) pe_int (fun _ _ => rfl)) pe_int (nomark _)) (pss_cons (ps_set (i := 2) sc_draw.nd rfl (Or.inl rfl) (pe_op op_mod (pe_ix ix_list (pv 0) pe_int (fun _ _ => rfl)) (pv 1))) (pss_cons (ps_asg (pe_op op_fdiv (pe_ix ix_list (pv 0) pe_int (fun _ _ => rfl)) (pv 1)) (pg_sub (pv 0) pe_int set_list)) (pss_one (ps_ret (pv 2))))) pss_nil) (pss_cons (ps_asg (pe_op op_mod (pe_op op_add (pe_op op_mul (pe_ix ix_list (pv 0) pe_int (fun _ _ => rfl)) pe_int) pe_int) pe_int) (pg_sub (pv 0) pe_int set_list)) (pss_one (ps_ret (pe_op op_mod (pe_op op_fdiv (pe_op op_mod (pe_op op_mul (pe_ix ix_list (pv 0) pe_int (fun _ _ => rfl)) (pe_ix ix_list (pv 0) pe_int (fun _ _ => rfl))) pe_int) pe_int) (pv 1))))))
abbrev s_cell : Stmt := (top 39)
def f_cell : ((List Int) × Int) → Option Int := fun (script_1, k_2) => (if (decide (k_2 < (script_1.length : Int))) = true then (((atI script_1 k_2)).bind fun x7 => some x7) else some (0 : Int))
abbrev A_cell : ((List Int) × Int) → List PyData := fun x => [(eL eI) x.1, eI x.2]
abbrev N_cell : List Str := ["_law_script", "_law_k"]
abbrev sp_cell (K : PySem.W.Frag) : Sp := spP K A_cell eI f_cell
def t_cell (K : PySem.W.Frag) : TS := (tSeq (tIfS (tTest (tOp (rI0 fun i j => .bl (decide (i < j))) (tVar 1) (tCB (rLenL K) (tCons (tVar 0) tNil)))) (tRet (tOp (rIxL K) (tVar 0) (tVar 1))) tNext) (tRet (tC (.int 0))))
theorem w_cell {K : PySem.W.Frag} (vs : List V) (H : Hp) (Q : VK) (E : XK) (h : sp_cell K vs H Q E) : t_cell K { nx := fun _ H' => Q .non H', rt := Q } (start N_cell vs) H := by
  obtain ⟨F0, cs, ⟨script_1, k_2⟩, y, h, hS0, m, q⟩ := h
  obtain ⟨a0, _, rfl, ha0, h⟩ := Dts.hd h
  obtain ⟨a1, _, rfl, ha1, h⟩ := Dts.hd h
  obtain rfl := Dts.no h
  obtain rfl := Dt.toInt ha1
  unfold f_cell at m
  try dsimp only at m
  unfold t_cell
  refine go (σ' := [some a0, some (.int k_2)]) rfl ?_
  refine s_if (b := (decide (k_2 < (script_1.length : Int)))) hS0 (t_test (K := K) (d_lt (d_var rfl (.int _)) (d_len (e := eI) (a_cons (d_var rfl ha0) a_nil)))) (fun hc F3 H4 g5 hS6 => ?_) (fun hc F15 H16 g17 hS18 => ?_)
  · rw [if_pos hc] at m
    obtain ⟨x7, k8, m⟩ := bnd m
    refine s_ret (K := K) (d := eI x7) hS6 (d_ix (e := eI) (d_var rfl (Dt.gr g5 ha0)) (d_var rfl (.int _)) k8) (fun v13 F9 H10 g11 hS12 hv14 => ?_)
    obtain rfl := sm m
    exact q _ _ _ (Gr.tr g5 g11) hS12 hv14
  · rw [if_neg (bf hc)] at m
    refine nxt ?_
    refine s_ret (K := K) (d := eI (0 : Int)) hS18 d_int (fun v23 F19 H20 g21 hS22 hv24 => ?_)
    obtain rfl := sm m
    exact q _ _ _ (Gr.tr g17 g21) hS22 hv24
theorem sc_cell : FnScope N_cell ["_law_script", "_law_k"] (defScope s_cell) := ⟨rfl, rfl, rfl, by decide +kernel, rfl, by decide +kernel, by decide +kernel⟩
theorem ok_cell {P : Program} {w : World} {K : PySem.W.Frag} {mg : Str → Option Value} {base : Heap} (hF : Df K mg "_law_cell" s_cell) (m_len : mg "len" = none) : Ok P w K mg base 1 "_law_cell" ["_law_script", "_law_k"] (sp_cell K) := by
  obtain ⟨⟨fd, F⟩, gm⟩ := hF
  refine ⟨⟨fd, F.ok sc_cell (fun vs H Q E h => ?_) (fun cdv A outer s H vs Q E hr h => ⟨t_cell K, PSs.nox ?_, w_cell vs H Q E h⟩), F.bindsN fun _ _ _ _ _ _ us hl => match us, hl with | [_, _], _ => rfl, lk_of F⟩, F.kp, gm⟩
  · obtain ⟨F0, cs, x, y, h, _⟩ := h; exact Dts.len h
  · exact (pss_cons (ps_if (pt_cmpR op_lt (pv 1) (pe_callB cr_lenL (by rfl) m_len PySem.boot_len (pa_cons (pv 0) pa_nil)) (nomark _)) (pss_one (ps_ret (pe_ix ix_list (pv 0) (pv 1) (fun _ _ => rfl)))) pss_nil) (pss_one (ps_ret pe_int)))
abbrev s_name : Stmt := (top 42)
def f_name : (Int × Int) → Option Str := fun (salt_1, k_2) => (letM ("abcdefghijklmnopqrstuvwxyz" : Str) fun letters_7 => (((ixS letters_7 ((salt_1 + ((7 : Int) * k_2)) % (26 : Int)))).bind fun x9 => (if ((decide (((salt_1 / (26 : Int)) % (4 : Int)) = (0 : Int))) && (decide (k_2 < (26 : Int)))) = true then some x9 else (if (decide (((salt_1 / (26 : Int)) % (4 : Int)) = (1 : Int))) = true then (((ixS letters_7 ((salt_1 + ((7 : Int) * (k_2 / (3 : Int)))) % (26 : Int)))).bind fun x33 => (((scatM ("q" : Str) x33)).bind fun x39 => ((scatM x33 ("nq" : Str))).bind fun x41 => ((atI ([x33, x39, x41] : (List Str)) (k_2 % (3 : Int)))).bind fun x43 => some x43)) else (((srepM ("n" : Str) ((salt_1 / (104 : Int)) % (4 : Int)))).bind fun x55 => (((ixS letters_7 (k_2 / (26 : Int)))).bind fun x61 => ((scatM x55 x61)).bind fun x63 => ((scatM x63 x9)).bind fun x65 => ((mulM (salt_1 / (416 : Int)) (k_2 + (1 : Int)))).bind fun x67 => ((srepM ("q" : Str) (x67 % (4 : Int)))).bind fun x69 => ((scatM x65 x69)).bind fun x71 => some x71))))))
abbrev A_name : (Int × Int) → List PyData := fun x => [eI x.1, eI x.2]
abbrev N_name : List Str := ["_law_salt", "_law_k", "_law_letters", "_law_one", "_law_front", "_law_stem"]
abbrev sp_name (K : PySem.W.Frag) : Sp := spP K A_name eS f_name
def t_name (K : PySem.W.Frag) : TS := (tSeq (tAsg (tC (.str "abcdefghijklmnopqrstuvwxyz")) (gName 2)) (tSeq (tAsg (tOp rIxS (tVar 2) (tOp (rI (fun _ j => 0 < j) fun i j => .int (i % j)) (tOp (rI0 fun i j => .int (i + j)) (tVar 0) (tOp (rI CMul fun i j => .int (i * j)) (tC (.int 7)) (tVar 1))) (tC (.int 26)))) (gName 3)) (tSeq (tIfS (tAnd (tTest (tOp rEq (tOp (rI (fun _ j => 0 < j) fun i j => .int (i % j)) (tOp (rI CDiv fun i j => .int (i / j)) (tVar 0) (tC (.int 26))) (tC (.int 4))) (tC (.int 0)))) (tTest (tOp (rI0 fun i j => .bl (decide (i < j))) (tVar 1) (tC (.int 26))))) (tRet (tVar 3)) tNext) (tSeq (tIfS (tTest (tOp rEq (tOp (rI (fun _ j => 0 < j) fun i j => .int (i % j)) (tOp (rI CDiv fun i j => .int (i / j)) (tVar 0) (tC (.int 26))) (tC (.int 4))) (tC (.int 1)))) (tSeq (tAsg (tOp rIxS (tVar 2) (tOp (rI (fun _ j => 0 < j) fun i j => .int (i % j)) (tOp (rI0 fun i j => .int (i + j)) (tVar 0) (tOp (rI CMul fun i j => .int (i * j)) (tC (.int 7)) (tOp (rI CDiv fun i j => .int (i / j)) (tVar 1) (tC (.int 3))))) (tC (.int 26)))) (gName 5)) (tRet (tOp (rIxL K) (tLst (tCons (tVar 5) (tCons (tOp rScat (tC (.str "q")) (tVar 5)) (tCons (tOp rScat (tVar 5) (tC (.str "nq"))) tNil)))) (tOp (rI (fun _ j => 0 < j) fun i j => .int (i % j)) (tVar 1) (tC (.int 3)))))) tNext) (tSeq (tAsg (tOp rSrep (tC (.str "n")) (tOp (rI (fun _ j => 0 < j) fun i j => .int (i % j)) (tOp (rI CDiv fun i j => .int (i / j)) (tVar 0) (tC (.int 104))) (tC (.int 4)))) (gName 4)) (tRet (tOp rScat (tOp rScat (tOp rScat (tVar 4) (tOp rIxS (tVar 2) (tOp (rI CDiv fun i j => .int (i / j)) (tVar 1) (tC (.int 26))))) (tVar 3)) (tOp rSrep (tC (.str "q")) (tOp (rI (fun _ j => 0 < j) fun i j => .int (i % j)) (tOp (rI CMul fun i j => .int (i * j)) (tOp (rI CDiv fun i j => .int (i / j)) (tVar 0) (tC (.int 416))) (tOp (rI0 fun i j => .int (i + j)) (tVar 1) (tC (.int 1)))) (tC (.int 4)))))))))))
theorem w_name {K : PySem.W.Frag} (vs : List V) (H : Hp) (Q : VK) (E : XK) (h : sp_name K vs H Q E) : t_name K { nx := fun _ H' => Q .non H', rt := Q } (start N_name vs) H := by
  obtain ⟨F0, cs, ⟨salt_1, k_2⟩, y, h, hS0, m, q⟩ := h
  obtain ⟨a0, _, rfl, ha0, h⟩ := Dts.hd h
  obtain ⟨a1, _, rfl, ha1, h⟩ := Dts.hd h
  obtain rfl := Dts.no h
  obtain rfl := Dt.toInt ha0
  obtain rfl := Dt.toInt ha1
  unfold f_name at m
  try dsimp only at m
  unfold t_name
  refine go (σ' := [some (.int salt_1), some (.int k_2), none, none, none, none]) rfl ?_
  obtain ⟨letters_7, k8, m⟩ := lt m
  refine s_setV (K := K) (d := eS letters_7) (i := 2) (σ' := [some (.int salt_1), some (.int k_2), some (.str letters_7), none, none, none]) (fun _ _ h => Dt.toStr h) hS0 (d_is d_str (congrArg eS k8)) rfl (fun F3 H4 g5 hS6 => ?_)
  obtain ⟨x9, k10, m⟩ := bnd m
  refine s_setV (K := K) (d := eS x9) (i := 3) (σ' := [some (.int salt_1), some (.int k_2), some (.str letters_7), some (.str x9), none, none]) (fun _ _ h => Dt.toStr h) hS6 (d_ixS (d_var rfl (.str _)) (d_modC (d_add (d_var rfl (.int _)) (d_mulC d_int (d_var rfl (.int _)) (.inl ⟨by decide, by decide⟩))) d_int (by decide)) k10) rfl (fun F11 H12 g13 hS14 => ?_)
  refine s_if (b := ((decide (((salt_1 / (26 : Int)) % (4 : Int)) = (0 : Int))) && (decide (k_2 < (26 : Int))))) hS14 (t_andP (t_test (K := K) (d_eqI (d_modC (d_fdivC (d_var rfl (.int _)) d_int ⟨by decide, by decide⟩) d_int (by decide)) d_int)) (fun hc => (t_test (K := K) (d_lt (d_var rfl (.int _)) d_int)))) (fun hc F15 H16 g17 hS18 => ?_) (fun hc F25 H26 g27 hS28 => ?_)
  · rw [if_pos hc] at m
    refine s_ret (K := K) (d := eS x9) hS18 (d_var rfl (.str _)) (fun v23 F19 H20 g21 hS22 hv24 => ?_)
    obtain rfl := sm m
    exact q _ _ _ (Gr.tr g5 (Gr.tr g13 (Gr.tr g17 g21))) hS22 hv24
  · rw [if_neg (bf hc)] at m
    refine nxt ?_
    refine s_if (b := (decide (((salt_1 / (26 : Int)) % (4 : Int)) = (1 : Int)))) hS28 (t_test (K := K) (d_eqI (d_modC (d_fdivC (d_var rfl (.int _)) d_int ⟨by decide, by decide⟩) d_int (by decide)) d_int)) (fun hc F29 H30 g31 hS32 => ?_) (fun hc F51 H52 g53 hS54 => ?_)
    · rw [if_pos hc] at m
      obtain ⟨x33, k34, m⟩ := bnd m
      refine s_setV (K := K) (d := eS x33) (i := 5) (σ' := [some (.int salt_1), some (.int k_2), some (.str letters_7), some (.str x9), none, some (.str x33)]) (fun _ _ h => Dt.toStr h) hS32 (d_ixS (d_var rfl (.str _)) (d_modC (d_add (d_var rfl (.int _)) (d_mulC d_int (d_fdivC (d_var rfl (.int _)) d_int ⟨by decide, by decide⟩) (.inl ⟨by decide, by decide⟩))) d_int (by decide)) k34) rfl (fun F35 H36 g37 hS38 => ?_)
      obtain ⟨x39, k40, m⟩ := bnd m
      obtain ⟨x41, k42, m⟩ := bnd m
      obtain ⟨x43, k44, m⟩ := bnd m
      refine s_ret (K := K) (d := eS x43) hS38 (d_ix (e := eS) (d_lst (a_cons (d_var rfl (.str _)) (a_cons (d_scat d_str (d_var rfl (.str _)) k40) (a_cons (d_scat (d_var rfl (.str _)) d_str k42) a_nil))) (Nat.le_of_ble_eq_true rfl)) (d_modC (d_var rfl (.int _)) d_int (by decide)) k44) (fun v49 F45 H46 g47 hS48 hv50 => ?_)
      obtain rfl := sm m
      exact q _ _ _ (Gr.tr g5 (Gr.tr g13 (Gr.tr g27 (Gr.tr g31 (Gr.tr g37 g47))))) hS48 hv50
    · rw [if_neg (bf hc)] at m
      refine nxt ?_
      obtain ⟨x55, k56, m⟩ := bnd m
      refine s_setV (K := K) (d := eS x55) (i := 4) (σ' := [some (.int salt_1), some (.int k_2), some (.str letters_7), some (.str x9), some (.str x55), none]) (fun _ _ h => Dt.toStr h) hS54 (d_srep d_str (d_modC (d_fdivC (d_var rfl (.int _)) d_int ⟨by decide, by decide⟩) d_int (by decide)) k56) rfl (fun F57 H58 g59 hS60 => ?_)
      obtain ⟨x61, k62, m⟩ := bnd m
      obtain ⟨x63, k64, m⟩ := bnd m
      obtain ⟨x65, k66, m⟩ := bnd m
      obtain ⟨x67, k68, m⟩ := bnd m
      obtain ⟨x69, k70, m⟩ := bnd m
      obtain ⟨x71, k72, m⟩ := bnd m
      refine s_ret (K := K) (d := eS x71) hS60 (d_scat (d_scat (d_scat (d_var rfl (.str _)) (d_ixS (d_var rfl (.str _)) (d_fdivC (d_var rfl (.int _)) d_int ⟨by decide, by decide⟩) k62) k64) (d_var rfl (.str _)) k66) (d_srep d_str (d_modC (d_mul (d_fdivC (d_var rfl (.int _)) d_int ⟨by decide, by decide⟩) (d_add (d_var rfl (.int _)) d_int) k68) d_int (by decide)) k70) k72) (fun v77 F73 H74 g75 hS76 hv78 => ?_)
      obtain rfl := sm m
      exact q _ _ _ (Gr.tr g5 (Gr.tr g13 (Gr.tr g27 (Gr.tr g53 (Gr.tr g59 g75))))) hS76 hv78
theorem sc_name : FnScope N_name ["_law_salt", "_law_k"] (defScope s_name) := ⟨rfl, rfl, rfl, by decide +kernel, rfl, by decide +kernel, by decide +kernel⟩
theorem ok_name {P : Program} {w : World} {K : PySem.W.Frag} {mg : Str → Option Value} {base : Heap} (hF : Df K mg "_law_name" s_name) : Ok P w K mg base 1 "_law_name" ["_law_salt", "_law_k"] (sp_name K) := by
  obtain ⟨⟨fd, F⟩, gm⟩ := hF
  refine ⟨⟨fd, F.ok sc_name (fun vs H Q E h => ?_) (fun cdv A outer s H vs Q E hr h => ⟨t_name K, PSs.nox ?_, w_name vs H Q E h⟩), F.bindsN fun _ _ _ _ _ _ us hl => match us, hl with | [_, _], _ => rfl, lk_of F⟩, F.kp, gm⟩
  · obtain ⟨F0, cs, x, y, h, _⟩ := h; exact Dts.len h
  · exact (pss_cons (ps_set (i := 2) sc_name.nd rfl (Or.inl rfl) pe_str) (pss_cons (ps_set (i := 3) sc_name.nd rfl (Or.inl rfl) (pe_ix ix_str (pv 2) (pe_op op_mod (pe_op op_add (pv 0) (pe_op op_mul pe_int (pv 1))) pe_int) (fun _ _ => rfl))) (pss_cons (ps_if (PW.pt (pw_and (pt_cmpR op_eq (pe_op op_mod (pe_op op_fdiv (pv 0) pe_int) pe_int) pe_int (nomark _)) (pw_and1 (pt_cmpR op_lt (pv 1) pe_int (nomark _))))) (pss_one (ps_ret (pv 3))) pss_nil) (pss_cons (ps_if (pt_cmpR op_eq (pe_op op_mod (pe_op op_fdiv (pv 0) pe_int) pe_int) pe_int (nomark _)) (pss_cons (ps_set (i := 5) sc_name.nd rfl (Or.inl rfl) (pe_ix ix_str (pv 2) (pe_op op_mod (pe_op op_add (pv 0) (pe_op op_mul pe_int (pe_op op_fdiv (pv 1) pe_int))) pe_int) (fun _ _ => rfl))) (pss_one (ps_ret (pe_ix ix_list (pe_lst (pa_cons (pv 5) (pa_cons (pe_op op_scatR pe_str (pv 5)) (pa_cons (pe_op op_scatR (pv 5) pe_str) pa_nil)))) (pe_op op_mod (pv 1) pe_int) (fun _ _ => rfl))))) pss_nil) (pss_cons (ps_set (i := 4) sc_name.nd rfl (Or.inl rfl) (pe_op op_srep pe_str (pe_op op_mod (pe_op op_fdiv (pv 0) pe_int) pe_int))) (pss_one (ps_ret (pe_op op_scatR (pe_op op_scatR (pe_op op_scatR (pv 4) (pe_ix ix_str (pv 2) (pe_op op_fdiv (pv 1) pe_int) (fun _ _ => rfl))) (pv 3)) (pe_op op_srep pe_str (pe_op op_mod (pe_op op_mul (pe_op op_fdiv (pv 0) pe_int) (pe_op op_add (pv 1) pe_int)) pe_int))))))))))
abbrev s_box : Stmt := (top 43)
def f_box : ((List Int) × Int × Int × (List Int) × (List Int)) → Option ((List (Str × Int × Int)) × (List Int) × (List Int) × (List Int)) := fun (source_here_1, salt_2, k_3, here_4, there_5) => (((rngM (0 : Int) (here_4.length : Int))).bind fun x9 => ((lcC (fun bay_11 => (((atI here_4 bay_11)).bind fun x22 => if (decide ((0 : Int) < x22)) = true then (some (some bay_11)) else some none)) x9)).bind fun x24 => (((rngM (0 : Int) (there_5.length : Int))).bind fun x35 => ((lcC (fun bay_37 => (((atI there_5 bay_37)).bind fun x48 => if (decide ((0 : Int) < x48)) = true then (some (some bay_37)) else some none)) x35)).bind fun x50 => (if (decide (x24 = ([] : (List Int)))) = true then some (([] : (List (Str × Int × Int))), source_here_1, here_4, there_5) else (((f_draw (source_here_1, (x24.length : Int)))).bind fun (x73, source_here_75) => ((atI x24 x73)).bind fun x76 => (((f_draw (source_here_75, (x50.length : Int)))).bind fun (x82, source_here_84) => ((atI x50 x82)).bind fun x85 => (((f_draw (source_here_84, (4 : Int)))).bind fun (x94, source_here_96) => ((if (decide (x94 = (1 : Int))) = true then (((atI there_5 x76)).bind fun x97 => some (decide ((0 : Int) < x97))) else some false)).bind fun x99 => ((if x99 = true then some x76 else some x85)).bind fun to_101 => (((atI here_4 x76)).bind fun x111 => ((setM here_4 x76 (x111 - (1 : Int)))).bind fun here_113 => (((atI there_5 to_101)).bind fun x119 => ((setM there_5 to_101 (x119 - (1 : Int)))).bind fun there_121 => (((f_name (salt_2, k_3))).bind fun x127 => some (([(x127, x76, to_101)] : (List (Str × Int × Int))), source_here_96, here_113, there_121))))))))))
abbrev A_box : ((List Int) × Int × Int × (List Int) × (List Int)) → List Ar := fun x => [.c (x.1.map V.int), .d (eI x.2.1), .d (eI x.2.2.1), .c (x.2.2.2.1.map V.int), .c (x.2.2.2.2.map V.int)]
abbrev B_box : ((List (Str × Int × Int)) × (List Int) × (List Int) × (List Int)) → List PyData := fun y => y.1.map (eT3 eS eI eI)
abbrev C_box : ((List (Str × Int × Int)) × (List Int) × (List Int) × (List Int)) → List (List V) := fun y => [y.2.1.map V.int, y.2.2.1.map V.int, y.2.2.2.map V.int]
abbrev N_box : List Str := ["_law_source_here", "_law_salt", "_law_k", "_law_here", "_law_there", "_law_first", "_law_last", "_law_at", "_law_to", "_law_bay"]
abbrev sp_box (K : PySem.W.Frag) : Sp := spF K A_box B_box C_box f_box
def t_box (K : PySem.W.Frag) : TS := (tSeq (tAsg (tLc (iRng1 (tCons (tCB (rLenL K) (tCons (tVar 3) tNil)) tNil)) (gName 9) (tTest (tOp (rI0 fun i j => .bl (decide (j < i))) (tOp (rIxL K) (tVar 3) (tVar 9)) (tC (.int 0)))) (tVar 9) [9]) (gName 5)) (tSeq (tAsg (tLc (iRng1 (tCons (tCB (rLenL K) (tCons (tVar 4) tNil)) tNil)) (gName 9) (tTest (tOp (rI0 fun i j => .bl (decide (j < i))) (tOp (rIxL K) (tVar 4) (tVar 9)) (tC (.int 0)))) (tVar 9) [9]) (gName 6)) (tSeq (tIfS (tTest (tOp (rEqD K) (tVar 5) (tLst tNil))) (tRet (tLst tNil)) tNext) (tSeq (tAsg (tOp (rIxL K) (tVar 5) (tCall (sp_draw K) [] E0 (tCons (tVar 0) (tCons (tCB (rLenL K) (tCons (tVar 5) tNil)) tNil)))) (gName 7)) (tSeq (tAsg (tOp (rIxL K) (tVar 6) (tCall (sp_draw K) [] E0 (tCons (tVar 0) (tCons (tCB (rLenL K) (tCons (tVar 6) tNil)) tNil)))) (gName 8)) (tSeq (tIfS (tAnd (tTest (tOp rEq (tCall (sp_draw K) [] E0 (tCons (tVar 0) (tCons (tC (.int 4)) tNil))) (tC (.int 1)))) (tTest (tOp (rI0 fun i j => .bl (decide (j < i))) (tOp (rIxL K) (tVar 4) (tVar 7)) (tC (.int 0))))) (tAsg (tVar 7) (gName 8)) tNext) (tSeq (tAugS (tVar 3) (tVar 7) (tC (.int 1)) (rIxL K) (ipI fun i j => i - j) rSetL) (tSeq (tAugS (tVar 4) (tVar 8) (tC (.int 1)) (rIxL K) (ipI fun i j => i - j) rSetL) (tRet (tLst (tCons (tTup (tCons (tCall (sp_name K) [] E0 (tCons (tVar 1) (tCons (tVar 2) tNil))) (tCons (tVar 7) (tCons (tVar 8) tNil)))) tNil)))))))))))
theorem w_box {K : PySem.W.Frag} (vs : List V) (H : Hp) (Q : VK) (E : XK) (h : sp_box K vs H Q E) : t_box K { nx := fun _ H' => Q .non H', rt := Q } (start N_box vs) H := by
  obtain ⟨F0, cc, cs, ⟨source_here_1, salt_2, k_3, here_4, there_5⟩, y, h0, hS0, m, q⟩ := h
  obtain ⟨a0, _, _, rfl, rfl, h1⟩ := ArgR.hc h0
  obtain ⟨a1, _, rfl, ha1, h2⟩ := ArgR.hd h1
  obtain ⟨a2, _, rfl, ha2, h3⟩ := ArgR.hd h2
  obtain ⟨a3, _, _, rfl, rfl, h4⟩ := ArgR.hc h3
  obtain ⟨a4, _, _, rfl, rfl, h5⟩ := ArgR.hc h4
  obtain ⟨rfl, rfl⟩ := ArgR.no h5
  obtain rfl := Dt.toInt ha1
  obtain rfl := Dt.toInt ha2
  unfold f_box at m
  try dsimp only at m
  unfold t_box
  refine go (σ' := [some (.ref a0), some (.int salt_2), some (.int k_3), some (.ref a3), some (.ref a4), none, none, none, none, none]) rfl ?_
  obtain ⟨x9, k10, m⟩ := bnd m
  obtain ⟨x24, k25, m⟩ := bnd m
  refine s_set (K := K) (d := (eL eI) x24) (i := 5) (σ' := fun v30 => [some (.ref a0), some (.int salt_2), some (.int k_3), some (.ref a3), some (.ref a4), some v30, none, none, none, none]) hS0 (EvC.dd (c_lendX (l1 := [(a0, HO.lst (source_here_1.map V.int))]) (m1 := [(a0, HO.lst (source_here_1.map V.int))]) (fun _ _ h => Dts.ints h) (fun _ => Dts.of_ints _) (fun F6 g7 hn8 => (c_lcC (K := K) (f := (fun bay_11 => (((atI here_4 bay_11)).bind fun x22 => if (decide ((0 : Int) < x22)) = true then (some (some bay_11)) else some none))) (em := eI) (i_rng1 (a_cons (d_len (e := eI) (a_cons (d_var rfl (lent_l hn8 (Dts.gr g7 (Dts.of_ints _)))) a_nil)) a_nil) k10) k25 (fun bay_11 o18 v19 F12 p13 us14 g15 hv16 ho17 => by obtain rfl := Dt.toInt hv16; obtain ⟨x22, k23, ho17⟩ := bnd ho17; by_cases hc : (decide ((0 : Int) < x22)) = true; (rw [if_pos hc] at ho17; obtain rfl := sm ho17; refine ⟨[some (.ref a0), some (.int salt_2), some (.int k_3), some (.ref a3), some (.ref a4), none, none, none, none, some (.int bay_11)], fun H21 Q hS20 hq => (fun Q hq => hq) Q hq, rfl, ?_, ?_⟩; (rw [show (some bay_11).isSome = (decide ((0 : Int) < x22)) from hc.symm]; exact (t_test (K := K) (d_gt (d_ix (e := eI) (d_var rfl (Dt.gr g15 (lent_l hn8 (Dts.gr g7 (Dts.of_ints _))))) (d_var rfl (.int _)) k23) d_int))); (intro y hy; obtain rfl := sm hy; exact (d_var rfl (.int _)))); (rw [if_neg hc] at ho17; obtain rfl := sm ho17; refine ⟨[some (.ref a0), some (.int salt_2), some (.int k_3), some (.ref a3), some (.ref a4), none, none, none, none, some (.int bay_11)], fun H21 Q hS20 hq => (fun Q hq => hq) Q hq, rfl, ?_, ?_⟩; (rw [show (none : Option Int).isSome = (decide ((0 : Int) < x22)) from (bt hc).symm]; exact (t_test (K := K) (d_gt (d_ix (e := eI) (d_var rfl (Dt.gr g15 (lent_l hn8 (Dts.gr g7 (Dts.of_ints _))))) (d_var rfl (.int _)) k23) d_int))); (intro y hy; cases hy))))))) (fun _ => rfl) (fun v30 F26 H27 g28 hS29 hv31 => ?_)
  obtain ⟨x35, k36, m⟩ := bnd m
  obtain ⟨x50, k51, m⟩ := bnd m
  refine s_set (K := K) (d := (eL eI) x50) (i := 6) (σ' := fun v56 => [some (.ref a0), some (.int salt_2), some (.int k_3), some (.ref a3), some (.ref a4), some v30, some v56, none, none, none]) hS29 (EvC.dd (c_lendX (l1 := [(a0, HO.lst (source_here_1.map V.int)), (a3, HO.lst (here_4.map V.int))]) (m1 := [(a0, HO.lst (source_here_1.map V.int)), (a3, HO.lst (here_4.map V.int))]) (fun _ _ h => Dts.ints h) (fun _ => Dts.of_ints _) (fun F32 g33 hn34 => (c_lcC (K := K) (f := (fun bay_37 => (((atI there_5 bay_37)).bind fun x48 => if (decide ((0 : Int) < x48)) = true then (some (some bay_37)) else some none))) (em := eI) (i_rng1 (a_cons (d_len (e := eI) (a_cons (d_var rfl (lent_l hn34 (Dts.gr g33 (Dts.of_ints _)))) a_nil)) a_nil) k36) k51 (fun bay_37 o44 v45 F38 p39 us40 g41 hv42 ho43 => by obtain rfl := Dt.toInt hv42; obtain ⟨x48, k49, ho43⟩ := bnd ho43; by_cases hc : (decide ((0 : Int) < x48)) = true; (rw [if_pos hc] at ho43; obtain rfl := sm ho43; refine ⟨[some (.ref a0), some (.int salt_2), some (.int k_3), some (.ref a3), some (.ref a4), some v30, none, none, none, some (.int bay_37)], fun H47 Q hS46 hq => (fun Q hq => hq) Q hq, rfl, ?_, ?_⟩; (rw [show (some bay_37).isSome = (decide ((0 : Int) < x48)) from hc.symm]; exact (t_test (K := K) (d_gt (d_ix (e := eI) (d_var rfl (Dt.gr g41 (lent_l hn34 (Dts.gr g33 (Dts.of_ints _))))) (d_var rfl (.int _)) k49) d_int))); (intro y hy; obtain rfl := sm hy; exact (d_var rfl (.int _)))); (rw [if_neg hc] at ho43; obtain rfl := sm ho43; refine ⟨[some (.ref a0), some (.int salt_2), some (.int k_3), some (.ref a3), some (.ref a4), some v30, none, none, none, some (.int bay_37)], fun H47 Q hS46 hq => (fun Q hq => hq) Q hq, rfl, ?_, ?_⟩; (rw [show (none : Option Int).isSome = (decide ((0 : Int) < x48)) from (bt hc).symm]; exact (t_test (K := K) (d_gt (d_ix (e := eI) (d_var rfl (Dt.gr g41 (lent_l hn34 (Dts.gr g33 (Dts.of_ints _))))) (d_var rfl (.int _)) k49) d_int))); (intro y hy; cases hy))))))) (fun _ => rfl) (fun v56 F52 H53 g54 hS55 hv57 => ?_)
  refine s_if (b := (decide (x24 = ([] : (List Int))))) hS55 (t_test (K := K) (d_eqT (e := (eL eI)) (EqE.l eqE_I) (ShE.l sh_I) (by decide) (d_var rfl (Dt.gr g54 hv31)) (d_lst a_nil (Nat.le_of_ble_eq_true rfl)))) (fun hc F58 H59 g60 hS61 => ?_) (fun hc F69 H70 g71 hS72 => ?_)
  · rw [if_pos hc] at m
    refine s_retC (K := K) (ds := ([] : (List (Str × Int × Int))).map (eT3 eS eI eI)) hS61 (c_lst a_nil (Nat.le_of_ble_eq_true rfl)) (fun p66 us67 F62 H63 g64 hS65 hu68 => ?_)
    obtain rfl := sm m
    exact q _ _ _ _ (Gr.tr g28 (Gr.tr g54 (Gr.tr g60 g64))) hS65 hu68
  · rw [if_neg (bf hc)] at m
    refine nxt ?_
    obtain ⟨⟨x73, source_here_75⟩, k74, m⟩ := bnd m; (try dsimp only at m)
    obtain ⟨x76, k77, m⟩ := bnd m
    refine s_setV (K := K) (d := eI x76) (i := 7) (σ' := [some (.ref a0), some (.int salt_2), some (.int k_3), some (.ref a3), some (.ref a4), some v30, some v56, some (.int x76), none, none]) (fun _ _ h => Dt.toInt h) hS72 (d_ix (e := eI) (d_var rfl (Dt.gr (Gr.tr g54 g71) hv31)) (d_callX (A := A_draw) (B := B_draw) (C := C_draw) (x := (source_here_1, (x24.length : Int))) (y := (x73, source_here_75)) (cs2 := ((a0, HO.lst (source_here_75.map V.int)) :: (a3, HO.lst (here_4.map V.int)) :: (a4, HO.lst (there_5.map V.int)) :: cs)) (cc := [(a0, HO.lst (source_here_1.map V.int))]) (cs' := ((a3, HO.lst (here_4.map V.int)) :: (a4, HO.lst (there_5.map V.int)) :: cs)) (r_c rfl (r_d (d_len (e := eI) (a_cons (d_var rfl (Dt.gr (Gr.tr g54 g71) hv31)) a_nil)) r_nil)) sb_rfl k74 sb_rfl) k77) rfl (fun F78 H79 g80 hS81 => ?_)
    obtain ⟨⟨x82, source_here_84⟩, k83, m⟩ := bnd m; (try dsimp only at m)
    obtain ⟨x85, k86, m⟩ := bnd m
    refine s_setV (K := K) (d := eI x85) (i := 8) (σ' := [some (.ref a0), some (.int salt_2), some (.int k_3), some (.ref a3), some (.ref a4), some v30, some v56, some (.int x76), some (.int x85), none]) (fun _ _ h => Dt.toInt h) hS81 (d_ix (e := eI) (d_var rfl (Dt.gr (Gr.tr g71 g80) hv57)) (d_callX (A := A_draw) (B := B_draw) (C := C_draw) (x := (source_here_75, (x50.length : Int))) (y := (x82, source_here_84)) (cs2 := ((a0, HO.lst (source_here_84.map V.int)) :: (a3, HO.lst (here_4.map V.int)) :: (a4, HO.lst (there_5.map V.int)) :: cs)) (cc := [(a0, HO.lst (source_here_75.map V.int))]) (cs' := ((a3, HO.lst (here_4.map V.int)) :: (a4, HO.lst (there_5.map V.int)) :: cs)) (r_c rfl (r_d (d_len (e := eI) (a_cons (d_var rfl (Dt.gr (Gr.tr g71 g80) hv57)) a_nil)) r_nil)) sb_rfl k83 sb_rfl) k86) rfl (fun F87 H88 g89 hS90 => ?_)
    obtain ⟨⟨x94, source_here_96⟩, k95, m⟩ := bnd m; (try dsimp only at m)
    obtain ⟨x99, k100, m⟩ := bnd m
    obtain ⟨to_101, k103, m⟩ := bnd m
    refine s_ifJ (b := x99) (fun σ H => ∃ (F : Hp) (c : Cs), Gr F87 F ∧ Sta F c H ∧ ∃ (j9 : Option V), σ = [some (.ref a0), some (.int salt_2), some (.int k_3), some (.ref a3), some (.ref a4), some v30, some v56, some (.int x76), some (.int to_101), j9] ∧ (a0, .lst (source_here_96.map V.int)) :: (a3, .lst (here_4.map V.int)) :: (a4, .lst (there_5.map V.int)) :: cs = c) hS90 (t_lendX (l1 := [(a0, HO.lst (source_here_84.map V.int)), (a3, HO.lst (here_4.map V.int))]) (m1 := [(a0, HO.lst (source_here_96.map V.int)), (a3, HO.lst (here_4.map V.int))]) (fun F91 g92 hn93 => (t_andM (r := x99) (t_test (K := K) (d_eqI (d_callX (A := A_draw) (B := B_draw) (C := C_draw) (x := (source_here_84, (4 : Int))) (y := (x94, source_here_96)) (cs2 := ((a0, HO.lst (source_here_96.map V.int)) :: (a3, HO.lst (here_4.map V.int)) :: cs)) (cc := [(a0, HO.lst (source_here_84.map V.int))]) (cs' := ((a3, HO.lst (here_4.map V.int)) :: cs)) (r_c rfl (r_d d_int r_nil)) sb_rfl k95 sb_rfl) d_int)) (fun hc => by rw [if_pos hc] at k100; obtain ⟨x97, k98, k100⟩ := bnd k100; obtain rfl := sm k100; exact (t_test (K := K) (d_gt (d_ix (e := eI) (d_var rfl (lent_l hn93 (Dts.gr g92 (Dts.of_ints _)))) (d_var rfl (.int _)) k98) d_int))) (fun hc => by rw [if_neg (bf hc)] at k100; exact (sm k100).symm)))) ?_ (fun jn102 hc F136 H137 g138 hS139 => ?_) (fun jn102 hc F144 H145 g146 hS147 => ?_)
    · rintro σ109 H105 ⟨F104, c108, g106, hS107, u110, rfl, rfl⟩
      obtain ⟨x111, k112, m⟩ := bnd m
      obtain ⟨here_113, k114, m⟩ := bnd m
      refine s_augSV (K := K) (k1 := [(a0, .lst (source_here_96.map V.int))]) (m1 := [(a0, .lst (source_here_96.map V.int))]) (l1 := [(a0, .lst (source_here_96.map V.int))]) (p := a3) hS107 (vp_var rfl) (d_var rfl (.int _)) k112 d_int k114 (fun F115 H116 g117 hS118 => ?_)
      obtain ⟨x119, k120, m⟩ := bnd m
      obtain ⟨there_121, k122, m⟩ := bnd m
      refine s_augSV (K := K) (k1 := [(a0, .lst (source_here_96.map V.int)), (a3, .lst (here_113.map V.int))]) (m1 := [(a0, .lst (source_here_96.map V.int)), (a3, .lst (here_113.map V.int))]) (l1 := [(a0, .lst (source_here_96.map V.int)), (a3, .lst (here_113.map V.int))]) (p := a4) hS118 (vp_var rfl) (d_var rfl (.int _)) k120 d_int k122 (fun F123 H124 g125 hS126 => ?_)
      obtain ⟨x127, k128, m⟩ := bnd m
      refine s_retC (K := K) (ds := ([(x127, x76, to_101)] : (List (Str × Int × Int))).map (eT3 eS eI eI)) hS126 (c_lst (a_cons (d_tup (a_cons (d_call (A := A_name) (B := eS) (x := (salt_2, k_3)) (a_cons (d_var rfl (.int _)) (a_cons (d_var rfl (.int _)) a_nil)) k128) (a_cons (d_var rfl (.int _)) (a_cons (d_var rfl (.int _)) a_nil))) (Nat.le_of_ble_eq_true rfl)) a_nil) (Nat.le_of_ble_eq_true rfl)) (fun p133 us134 F129 H130 g131 hS132 hu135 => ?_)
      obtain rfl := sm m
      exact q _ _ _ _ (Gr.tr g28 (Gr.tr g54 (Gr.tr g71 (Gr.tr g80 (Gr.tr g89 (Gr.tr g106 (Gr.tr g117 (Gr.tr g125 g131)))))))) hS132 hu135
    · rw [if_pos hc] at k103
      refine s_setV (K := K) (d := eI x76) (i := 8) (σ' := [some (.ref a0), some (.int salt_2), some (.int k_3), some (.ref a3), some (.ref a4), some v30, some v56, some (.int x76), some (.int x76), none]) (fun _ _ h => Dt.toInt h) hS139 (d_var rfl (.int _)) rfl (fun F140 H141 g142 hS143 => ?_)
      obtain rfl := sm k103
      exact jn102 _ _ ⟨_, _, (Gr.tr g138 g142), hS143, _, rfl, rfl⟩
    · rw [if_neg (bf hc)] at k103
      refine nxt ?_
      obtain rfl := sm k103
      exact jn102 _ _ ⟨_, _, g146, hS147, _, rfl, rfl⟩
theorem sc_box : FnScope N_box ["_law_source_here", "_law_salt", "_law_k", "_law_here", "_law_there"] (defScope s_box) := ⟨rfl, rfl, rfl, by decide +kernel, rfl, by decide +kernel, by decide +kernel⟩
theorem ok_box {P : Program} {w : World} {K : PySem.W.Frag} {mg : Str → Option Value} {base : Heap} (hF : Df K mg "_law_box" s_box) (m_len : mg "len" = none) (m_range : mg "range" = none) (o_name : Ok P w K mg base 1 "_law_name" ["_law_salt", "_law_k"] (sp_name K)) (o_draw : Ok P w K mg base 1 "_law_draw" ["_law_source_here", "_law_many"] (sp_draw K)) : Ok P w K mg base 2 "_law_box" ["_law_source_here", "_law_salt", "_law_k", "_law_here", "_law_there"] (sp_box K) := by
  obtain ⟨⟨_, G_name, bd_name, _⟩, kp_name, gm_name⟩ := o_name
  obtain ⟨⟨_, G_draw, bd_draw, _⟩, kp_draw, gm_draw⟩ := o_draw
  obtain ⟨⟨fd, F⟩, gm⟩ := hF
  refine ⟨⟨fd, F.ok sc_box (fun vs H Q E h => ?_) (fun cdv A outer s H vs Q E hr h => ⟨t_box K, PSs.nox ?_, w_box vs H Q E h⟩), F.bindsN fun _ _ _ _ _ _ us hl => match us, hl with | [_, _, _, _, _], _ => rfl, lk_of F⟩, F.kp, gm⟩
  · obtain ⟨F0, cc, cs, x, y, h, _⟩ := h; exact ArgR.len h
  · exact (pss_cons (ps_setLc (i := 5) (own := [("_law_bay", 9)]) (g := (gName 9)) (tt := (tTest (tOp (rI0 fun i j => .bl (decide (j < i))) (tOp (rIxL K) (tVar 3) (tVar 9)) (tC (.int 0))))) (te := (tVar 9)) (by rfl) sc_box.nd rfl rfl (sw_true rfl rfl rfl (by decide +kernel)) (pi_range1 (by rfl) m_range (pa_cons (pe_callB cr_lenL (by rfl) m_len PySem.boot_len (pa_cons (pv 3) pa_nil)) pa_nil)) (blkOk_by (own := [("_law_bay", 9)]) (N := N_box) (sc := defScope s_box) (by decide +kernel)) (fun _ _ _ _ _ => (pg_name (i := 9) sc_box.nd rfl (Or.inl rfl))) (fun _ _ _ _ _ => (pts_one (pt_cmpR op_gt (pe_ix ix_list (pv 3) (pv 9) (fun _ _ => rfl)) pe_int (nomark _)))) (fun _ _ _ _ _ => (pv 9))) (pss_cons (ps_setLc (i := 6) (own := [("_law_bay", 9)]) (g := (gName 9)) (tt := (tTest (tOp (rI0 fun i j => .bl (decide (j < i))) (tOp (rIxL K) (tVar 4) (tVar 9)) (tC (.int 0))))) (te := (tVar 9)) (by rfl) sc_box.nd rfl rfl (sw_true rfl rfl rfl (by decide +kernel)) (pi_range1 (by rfl) m_range (pa_cons (pe_callB cr_lenL (by rfl) m_len PySem.boot_len (pa_cons (pv 4) pa_nil)) pa_nil)) (blkOk_by (own := [("_law_bay", 9)]) (N := N_box) (sc := defScope s_box) (by decide +kernel)) (fun _ _ _ _ _ => (pg_name (i := 9) sc_box.nd rfl (Or.inl rfl))) (fun _ _ _ _ _ => (pts_one (pt_cmpR op_gt (pe_ix ix_list (pv 4) (pv 9) (fun _ _ => rfl)) pe_int (nomark _)))) (fun _ _ _ _ _ => (pv 9))) (pss_cons (ps_if (pt_cmpR (op_eqD hr.units) (pv 5) (pe_lst pa_nil) (nomark _)) (pss_one (ps_ret (pe_lst pa_nil))) pss_nil) (pss_cons (ps_set (i := 7) sc_box.nd rfl (Or.inl rfl) (pe_ix ix_list (pv 5) (pe_call G_draw (hr.mono (by decide)) (by rfl) gm_draw kp_draw bd_draw .nil pass0 (pa_cons (pv 0) (pa_cons (pe_callB cr_lenL (by rfl) m_len PySem.boot_len (pa_cons (pv 5) pa_nil)) pa_nil))) (fun _ _ => rfl))) (pss_cons (ps_set (i := 8) sc_box.nd rfl (Or.inl rfl) (pe_ix ix_list (pv 6) (pe_call G_draw (hr.mono (by decide)) (by rfl) gm_draw kp_draw bd_draw .nil pass0 (pa_cons (pv 0) (pa_cons (pe_callB cr_lenL (by rfl) m_len PySem.boot_len (pa_cons (pv 6) pa_nil)) pa_nil))) (fun _ _ => rfl))) (pss_cons (ps_if (PW.pt (pw_and (pt_cmpR op_eq (pe_call G_draw (hr.mono (by decide)) (by rfl) gm_draw kp_draw bd_draw .nil pass0 (pa_cons (pv 0) (pa_cons pe_int pa_nil))) pe_int (nomark _)) (pw_and1 (pt_cmpR op_gt (pe_ix ix_list (pv 4) (pv 7) (fun _ _ => rfl)) pe_int (nomark _))))) (pss_one (ps_set (i := 8) sc_box.nd rfl (Or.inl rfl) (pv 7))) pss_nil) (pss_cons (ps_augS (pv 3) (pv 7) get_list pe_int ip_sub set_list) (pss_cons (ps_augS (pv 4) (pv 8) get_list pe_int ip_sub set_list) (pss_one (ps_ret (pe_lst (pa_cons (pe_tup (pa_cons (pe_call G_name (hr.mono (by decide)) (by rfl) gm_name kp_name bd_name .nil pass0 (pa_cons (pv 1) (pa_cons (pv 2) pa_nil))) (pa_cons (pv 7) (pa_cons (pv 8) pa_nil)))) pa_nil))))))))))))
abbrev s_store : Stmt := (top 44)
def f_store_b179 (x14 : Int) : ((List (Str × Int × Int)) × (List Int) × (List Int) × (List Int)) → Int → Option ((List (Str × Int × Int)) × (List Int) × (List Int) × (List Int)) := fun (boxes_182, source_here_183, here_184, there_185) k_186 => (((f_box (source_here_183, x14, k_186, here_184, there_185))).bind fun (x207, source_here_209, here_210, there_211) => ((catM boxes_182 x207)).bind fun x212 => some (x212, source_here_209, here_210, there_211))
def f_store : ((List Int) × Int) → Option (((List Int) × (List Int) × Int × (List (Str × Int × Int)))) := fun (script_1, base_2) => (((f_cell (script_1, base_2))).bind fun x3 => ((f_source (x3, base_2))).bind fun x5 => (((f_draw (x5, (1664 : Int)))).bind fun (x14, source_here_16) => (((f_draw (source_here_16, (4 : Int)))).bind fun (x21, source_here_23) => ((atI ([(2 : Int), (4 : Int), (7 : Int), (15 : Int)] : (List Int)) x21)).bind fun x24 => ((f_draw (source_here_23, x24))).bind fun (x26, source_here_28) => letM ((2 : Int) + x26) fun bays_33 => (((f_draw (source_here_28, (5 : Int)))).bind fun (x35, source_here_37) => ((atI ([(1 : Int), (2 : Int), (4 : Int), (6 : Int), (40 : Int)] : (List Int)) x35)).bind fun x38 => (((f_draw (source_here_37, (3 : Int)))).bind fun (x44, source_here_46) => ((atI ([(2 : Int), (4 : Int), (20 : Int)] : (List Int)) x44)).bind fun x47 => ((f_draw (source_here_46, x47))).bind fun (x49, source_here_51) => letM ((1 : Int) + x49) fun most_56 => (((rngM (0 : Int) bays_33)).bind fun x58 => ((lcSC (fun (source_here_69 : (List Int)) k_60 => (((f_draw (source_here_69, x38))).bind fun (x72, source_here_74) => some (source_here_74, some ((1 : Int) + x72)))) source_here_51 x58)).bind fun (source_here_79, x77) => (((f_cell (script_1, (base_2 + (1 : Int))))).bind fun x87 => ((f_source (x87, (base_2 + (1 : Int))))).bind fun x89 => (((f_draw (x89, (2 : Int)))).bind fun (x98, source_here_100) => ((atI ([(5 : Int), (1000000000 : Int)] : (List Int)) x98)).bind fun x101 => (((rngM (0 : Int) (bays_33 - (1 : Int)))).bind fun x107 => ((lcSC (fun (source_here_118 : (List Int)) k_109 => (((f_draw (source_here_118, x101))).bind fun (x121, source_here_123) => some (source_here_123, some ((1 : Int) + x121)))) source_here_100 x107)).bind fun (source_here_128, x126) => (((f_cell (script_1, (base_2 + (2 : Int))))).bind fun x136 => ((f_source (x136, (base_2 + (2 : Int))))).bind fun x138 => (letM ([] : (List (Str × Int × Int))) fun boxes_165 => (((f_draw (x138, (3 : Int)))).bind fun (x169, source_here_171) => ((atI ([(4 : Int), (9 : Int), (21 : Int)] : (List Int)) x169)).bind fun x172 => ((f_draw (source_here_171, x172))).bind fun (x174, source_here_176) => ((rngM (0 : Int) x174)).bind fun x177 => (x177.foldlM (f_store_b179 x14) (boxes_165, source_here_176, x77, x77)).bind fun (boxes_226, source_here_227, here_228, there_229) => some (x77, x126, most_56, boxes_226)))))))))))))
abbrev A_store : ((List Int) × Int) → List PyData := fun x => [(eL eI) x.1, eI x.2]
abbrev N_store : List Str := ["_law_script", "_law_base", "_law_source_here", "_law_salt", "_law_bays", "_law_wide", "_law_most", "_law_rooms", "_law_far", "_law_gaps", "_law_here", "_law_there", "_law_boxes", "_law_k"]
abbrev sp_store (K : PySem.W.Frag) : Sp := spP K A_store (eT4 (eL eI) (eL eI) eI (eL (eT3 eS eI eI))) f_store
def t_store (K : PySem.W.Frag) : TS := (tSeq (tAsg (tCall (sp_source K) [] E0 (tCons (tCall (sp_cell K) [] E0 (tCons (tVar 0) (tCons (tVar 1) tNil))) (tCons (tVar 1) tNil))) (gName 2)) (tSeq (tAsg (tCall (sp_draw K) [] E0 (tCons (tVar 2) (tCons (tC (.int 1664)) tNil))) (gName 3)) (tSeq (tAsg (tOp (rI0 fun i j => .int (i + j)) (tC (.int 2)) (tCall (sp_draw K) [] E0 (tCons (tVar 2) (tCons (tOp (rIxL K) (tLst (tCons (tC (.int 2)) (tCons (tC (.int 4)) (tCons (tC (.int 7)) (tCons (tC (.int 15)) tNil))))) (tCall (sp_draw K) [] E0 (tCons (tVar 2) (tCons (tC (.int 4)) tNil)))) tNil)))) (gName 4)) (tSeq (tAsg (tOp (rIxL K) (tLst (tCons (tC (.int 1)) (tCons (tC (.int 2)) (tCons (tC (.int 4)) (tCons (tC (.int 6)) (tCons (tC (.int 40)) tNil)))))) (tCall (sp_draw K) [] E0 (tCons (tVar 2) (tCons (tC (.int 5)) tNil)))) (gName 5)) (tSeq (tAsg (tOp (rI0 fun i j => .int (i + j)) (tC (.int 1)) (tCall (sp_draw K) [] E0 (tCons (tVar 2) (tCons (tOp (rIxL K) (tLst (tCons (tC (.int 2)) (tCons (tC (.int 4)) (tCons (tC (.int 20)) tNil)))) (tCall (sp_draw K) [] E0 (tCons (tVar 2) (tCons (tC (.int 3)) tNil)))) tNil)))) (gName 6)) (tSeq (tAsg (tLc (iRng1 (tCons (tVar 4) tNil)) (gName 13) tYes (tOp (rI0 fun i j => .int (i + j)) (tC (.int 1)) (tCall (sp_draw K) [] E0 (tCons (tVar 2) (tCons (tVar 5) tNil)))) [13]) (gName 7)) (tSeq (tAsg (tCall (sp_source K) [] E0 (tCons (tCall (sp_cell K) [] E0 (tCons (tVar 0) (tCons (tOp (rI0 fun i j => .int (i + j)) (tVar 1) (tC (.int 1))) tNil))) (tCons (tOp (rI0 fun i j => .int (i + j)) (tVar 1) (tC (.int 1))) tNil))) (gName 2)) (tSeq (tAsg (tOp (rIxL K) (tLst (tCons (tC (.int 5)) (tCons (tOp (rI CPow fun i j => .int (i ^ j.toNat)) (tC (.int 10)) (tC (.int 9))) tNil))) (tCall (sp_draw K) [] E0 (tCons (tVar 2) (tCons (tC (.int 2)) tNil)))) (gName 8)) (tSeq (tAsg (tLc (iRng1 (tCons (tOp (rI0 fun i j => .int (i - j)) (tVar 4) (tC (.int 1))) tNil)) (gName 13) tYes (tOp (rI0 fun i j => .int (i + j)) (tC (.int 1)) (tCall (sp_draw K) [] E0 (tCons (tVar 2) (tCons (tVar 8) tNil)))) [13]) (gName 9)) (tSeq (tAsg (tCall (sp_source K) [] E0 (tCons (tCall (sp_cell K) [] E0 (tCons (tVar 0) (tCons (tOp (rI0 fun i j => .int (i + j)) (tVar 1) (tC (.int 2))) tNil))) (tCons (tOp (rI0 fun i j => .int (i + j)) (tVar 1) (tC (.int 2))) tNil))) (gName 2)) (tSeq (tAsg (tCB (rListS K) (tCons (tVar 7) tNil)) (gName 10)) (tSeq (tAsg (tCB (rListS K) (tCons (tVar 7) tNil)) (gName 11)) (tSeq (tAsg (tLst tNil) (gName 12)) (tSeq (tFor (iRng1 (tCons (tCall (sp_draw K) [] E0 (tCons (tVar 2) (tCons (tOp (rIxL K) (tLst (tCons (tC (.int 4)) (tCons (tC (.int 9)) (tCons (tC (.int 21)) tNil)))) (tCall (sp_draw K) [] E0 (tCons (tVar 2) (tCons (tC (.int 3)) tNil)))) tNil))) tNil)) (gName 13) (tAsg (tOp (rCatS K) (tVar 12) (tCall (sp_box K) [] E0 (tCons (tVar 2) (tCons (tVar 3) (tCons (tVar 13) (tCons (tVar 10) (tCons (tVar 11) tNil))))))) (gName 12))) (tRet (tTup (tCons (tVar 7) (tCons (tVar 9) (tCons (tVar 6) (tCons (tVar 12) tNil))))))))))))))))))))
theorem w_store {K : PySem.W.Frag} (vs : List V) (H : Hp) (Q : VK) (E : XK) (h : sp_store K vs H Q E) : t_store K { nx := fun _ H' => Q .non H', rt := Q } (start N_store vs) H := by
  obtain ⟨F0, cs, ⟨script_1, base_2⟩, y, h, hS0, m, q⟩ := h
  obtain ⟨a0, _, rfl, ha0, h⟩ := Dts.hd h
  obtain ⟨a1, _, rfl, ha1, h⟩ := Dts.hd h
  obtain rfl := Dts.no h
  obtain rfl := Dt.toInt ha1
  unfold f_store at m
  try dsimp only at m
  unfold t_store
  refine go (σ' := [some a0, some (.int base_2), none, none, none, none, none, none, none, none, none, none, none, none]) rfl ?_
  obtain ⟨x3, k4, m⟩ := bnd m
  obtain ⟨x5, k6, m⟩ := bnd m
  refine s_setC (K := K) (ds := x5.map eI) (i := 2) (σ' := fun p11 => [some a0, some (.int base_2), some (.ref p11), none, none, none, none, none, none, none, none, none, none, none]) hS0 (c_callX (A := A_source) (B := B_source) (C := C_source) (x := (x3, base_2)) (y := x5) (cs2 := (cs)) (cc := []) (cs' := (cs)) (r_d (d_call (A := A_cell) (B := eI) (x := (script_1, base_2)) (a_cons (d_var rfl ha0) (a_cons (d_var rfl (.int _)) a_nil)) k4) (r_d (d_var rfl (.int _)) r_nil)) sb_rfl k6 (fun _ => sb_rfl)) (fun _ => rfl) (fun p11 us12 F7 H8 g9 hS10 hu13 => ?_)
  obtain rfl := Dts.ints hu13
  obtain ⟨⟨x14, source_here_16⟩, k15, m⟩ := bnd m; (try dsimp only at m)
  refine s_setV (K := K) (d := eI x14) (i := 3) (σ' := [some a0, some (.int base_2), some (.ref p11), some (.int x14), none, none, none, none, none, none, none, none, none, none]) (fun _ _ h => Dt.toInt h) hS10 (d_callX (A := A_draw) (B := B_draw) (C := C_draw) (x := (x5, (1664 : Int))) (y := (x14, source_here_16)) (cs2 := ((p11, HO.lst (source_here_16.map V.int)) :: cs)) (cc := [(p11, HO.lst (x5.map V.int))]) (cs' := (cs)) (r_c rfl (r_d d_int r_nil)) sb_rfl k15 sb_rfl) rfl (fun F17 H18 g19 hS20 => ?_)
  obtain ⟨⟨x21, source_here_23⟩, k22, m⟩ := bnd m; (try dsimp only at m)
  obtain ⟨x24, k25, m⟩ := bnd m
  obtain ⟨⟨x26, source_here_28⟩, k27, m⟩ := bnd m; (try dsimp only at m)
  obtain ⟨bays_33, k34, m⟩ := lt m
  refine s_setV (K := K) (d := eI bays_33) (i := 4) (σ' := [some a0, some (.int base_2), some (.ref p11), some (.int x14), some (.int bays_33), none, none, none, none, none, none, none, none, none]) (fun _ _ h => Dt.toInt h) hS20 (d_is (d_add d_int (d_callX (A := A_draw) (B := B_draw) (C := C_draw) (x := (source_here_23, x24)) (y := (x26, source_here_28)) (cs2 := ((p11, HO.lst (source_here_28.map V.int)) :: cs)) (cc := [(p11, HO.lst (source_here_23.map V.int))]) (cs' := (cs)) (r_c rfl (r_d (d_ix (e := eI) (d_lst (a_cons d_int (a_cons d_int (a_cons d_int (a_cons d_int a_nil)))) (Nat.le_of_ble_eq_true rfl)) (d_callX (A := A_draw) (B := B_draw) (C := C_draw) (x := (source_here_16, (4 : Int))) (y := (x21, source_here_23)) (cs2 := ((p11, HO.lst (source_here_23.map V.int)) :: cs)) (cc := [(p11, HO.lst (source_here_16.map V.int))]) (cs' := (cs)) (r_c rfl (r_d d_int r_nil)) sb_rfl k22 sb_rfl) k25) r_nil)) sb_rfl k27 sb_rfl)) (congrArg eI k34)) rfl (fun F29 H30 g31 hS32 => ?_)
  obtain ⟨⟨x35, source_here_37⟩, k36, m⟩ := bnd m; (try dsimp only at m)
  obtain ⟨x38, k39, m⟩ := bnd m
  refine s_setV (K := K) (d := eI x38) (i := 5) (σ' := [some a0, some (.int base_2), some (.ref p11), some (.int x14), some (.int bays_33), some (.int x38), none, none, none, none, none, none, none, none]) (fun _ _ h => Dt.toInt h) hS32 (d_ix (e := eI) (d_lst (a_cons d_int (a_cons d_int (a_cons d_int (a_cons d_int (a_cons d_int a_nil))))) (Nat.le_of_ble_eq_true rfl)) (d_callX (A := A_draw) (B := B_draw) (C := C_draw) (x := (source_here_28, (5 : Int))) (y := (x35, source_here_37)) (cs2 := ((p11, HO.lst (source_here_37.map V.int)) :: cs)) (cc := [(p11, HO.lst (source_here_28.map V.int))]) (cs' := (cs)) (r_c rfl (r_d d_int r_nil)) sb_rfl k36 sb_rfl) k39) rfl (fun F40 H41 g42 hS43 => ?_)
  obtain ⟨⟨x44, source_here_46⟩, k45, m⟩ := bnd m; (try dsimp only at m)
  obtain ⟨x47, k48, m⟩ := bnd m
  obtain ⟨⟨x49, source_here_51⟩, k50, m⟩ := bnd m; (try dsimp only at m)
  obtain ⟨most_56, k57, m⟩ := lt m
  refine s_setV (K := K) (d := eI most_56) (i := 6) (σ' := [some a0, some (.int base_2), some (.ref p11), some (.int x14), some (.int bays_33), some (.int x38), some (.int most_56), none, none, none, none, none, none, none]) (fun _ _ h => Dt.toInt h) hS43 (d_is (d_add d_int (d_callX (A := A_draw) (B := B_draw) (C := C_draw) (x := (source_here_46, x47)) (y := (x49, source_here_51)) (cs2 := ((p11, HO.lst (source_here_51.map V.int)) :: cs)) (cc := [(p11, HO.lst (source_here_46.map V.int))]) (cs' := (cs)) (r_c rfl (r_d (d_ix (e := eI) (d_lst (a_cons d_int (a_cons d_int (a_cons d_int a_nil))) (Nat.le_of_ble_eq_true rfl)) (d_callX (A := A_draw) (B := B_draw) (C := C_draw) (x := (source_here_37, (3 : Int))) (y := (x44, source_here_46)) (cs2 := ((p11, HO.lst (source_here_46.map V.int)) :: cs)) (cc := [(p11, HO.lst (source_here_37.map V.int))]) (cs' := (cs)) (r_c rfl (r_d d_int r_nil)) sb_rfl k45 sb_rfl) k48) r_nil)) sb_rfl k50 sb_rfl)) (congrArg eI k57)) rfl (fun F52 H53 g54 hS55 => ?_)
  obtain ⟨x58, k59, m⟩ := bnd m
  obtain ⟨⟨source_here_79, x77⟩, k78, m⟩ := bnd m; (try dsimp only at m)
  refine s_set (K := K) (d := (eL eI) x77) (i := 7) (σ' := fun v84 => [some a0, some (.int base_2), some (.ref p11), some (.int x14), some (.int bays_33), some (.int x38), some (.int most_56), some v84, none, none, none, none, none, none]) hS55 (EvC.dd (c_lcT (K := K) (f := (fun (source_here_69 : (List Int)) k_60 => (((f_draw (source_here_69, x38))).bind fun (x72, source_here_74) => some (source_here_74, some ((1 : Int) + x72))))) (em := eI) (s0 := source_here_51) (s1 := source_here_79) (fun (z : (List Int)) => (p11, .lst (z.map V.int)) :: cs) (i_rng1 (a_cons (d_var rfl (.int _)) a_nil) k59) k78 (fun k_60 source_here_69 z75 o67 v68 F61 p62 us63 g64 hv65 ho66 => by obtain rfl := Dt.toInt hv65; obtain ⟨⟨x72, source_here_74⟩, k73, ho66⟩ := bnd ho66; (try dsimp only at ho66); obtain ⟨rfl, rfl⟩ := pr2 (sm ho66); exact ⟨[some a0, some (.int base_2), some (.ref p11), some (.int x14), some (.int bays_33), some (.int x38), some (.int most_56), none, none, none, none, none, none, some (.int k_60)], source_here_69, fun H71 Q hS70 hq => (fun Q hq => hq) Q hq, rfl, t_yes, (fun hy => by cases hy), fun y hy => by obtain rfl := sm hy; exact (d_add d_int (d_callX (A := A_draw) (B := B_draw) (C := C_draw) (x := (source_here_69, x38)) (y := (x72, source_here_74)) (cs2 := ((p62, HO.lst us63) :: (p11, HO.lst (source_here_74.map V.int)) :: cs)) (cc := [(p11, HO.lst (source_here_69.map V.int))]) (cs' := ((p62, HO.lst us63) :: cs)) (r_c rfl (r_d (d_var rfl (.int _)) r_nil)) (sb_perm (List.perm_middle (l₁ := [(p62, HO.lst us63)]))) k73 (sb_perm (List.Perm.symm (List.perm_middle (l₁ := [(p62, HO.lst us63)]))))))⟩))) (fun _ => rfl) (fun v84 F80 H81 g82 hS83 hv85 => ?_)
  have hS86 := Sta.frozeAt (l1 := []) hS83
  obtain ⟨x87, k88, m⟩ := bnd m
  obtain ⟨x89, k90, m⟩ := bnd m
  refine s_setC (K := K) (ds := x89.map eI) (i := 2) (σ' := fun p95 => [some a0, some (.int base_2), some (.ref p95), some (.int x14), some (.int bays_33), some (.int x38), some (.int most_56), some v84, none, none, none, none, none, none]) hS86 (c_callX (A := A_source) (B := B_source) (C := C_source) (x := (x87, (base_2 + (1 : Int)))) (y := x89) (cs2 := (cs)) (cc := []) (cs' := (cs)) (r_d (d_call (A := A_cell) (B := eI) (x := (script_1, (base_2 + (1 : Int)))) (a_cons (d_var rfl (Dt.gr (Gr.tr g9 (Gr.tr g19 (Gr.tr g31 (Gr.tr g42 (Gr.tr g54 (Gr.tr g82 (Gr.new (Sta.freeAt (l1 := []) hS83)))))))) ha0)) (a_cons (d_add (d_var rfl (.int _)) d_int) a_nil)) k88) (r_d (d_add (d_var rfl (.int _)) d_int) r_nil)) sb_rfl k90 (fun _ => sb_rfl)) (fun _ => rfl) (fun p95 us96 F91 H92 g93 hS94 hu97 => ?_)
  obtain rfl := Dts.ints hu97
  obtain ⟨⟨x98, source_here_100⟩, k99, m⟩ := bnd m; (try dsimp only at m)
  obtain ⟨x101, k102, m⟩ := bnd m
  refine s_setV (K := K) (d := eI x101) (i := 8) (σ' := [some a0, some (.int base_2), some (.ref p95), some (.int x14), some (.int bays_33), some (.int x38), some (.int most_56), some v84, some (.int x101), none, none, none, none, none]) (fun _ _ h => Dt.toInt h) hS94 (d_ix (e := eI) (d_lst (a_cons d_int (a_cons (d_is (e := PyData.int 1000000000) (d_powC d_int d_int ⟨by decide, by decide, by decide⟩) (congrArg PyData.int (by decide))) a_nil)) (Nat.le_of_ble_eq_true rfl)) (d_callX (A := A_draw) (B := B_draw) (C := C_draw) (x := (x89, (2 : Int))) (y := (x98, source_here_100)) (cs2 := ((p95, HO.lst (source_here_100.map V.int)) :: cs)) (cc := [(p95, HO.lst (x89.map V.int))]) (cs' := (cs)) (r_c rfl (r_d d_int r_nil)) sb_rfl k99 sb_rfl) k102) rfl (fun F103 H104 g105 hS106 => ?_)
  obtain ⟨x107, k108, m⟩ := bnd m
  obtain ⟨⟨source_here_128, x126⟩, k127, m⟩ := bnd m; (try dsimp only at m)
  refine s_set (K := K) (d := (eL eI) x126) (i := 9) (σ' := fun v133 => [some a0, some (.int base_2), some (.ref p95), some (.int x14), some (.int bays_33), some (.int x38), some (.int most_56), some v84, some (.int x101), some v133, none, none, none, none]) hS106 (EvC.dd (c_lcT (K := K) (f := (fun (source_here_118 : (List Int)) k_109 => (((f_draw (source_here_118, x101))).bind fun (x121, source_here_123) => some (source_here_123, some ((1 : Int) + x121))))) (em := eI) (s0 := source_here_100) (s1 := source_here_128) (fun (z : (List Int)) => (p95, .lst (z.map V.int)) :: cs) (i_rng1 (a_cons (d_sub (d_var rfl (.int _)) d_int) a_nil) k108) k127 (fun k_109 source_here_118 z124 o116 v117 F110 p111 us112 g113 hv114 ho115 => by obtain rfl := Dt.toInt hv114; obtain ⟨⟨x121, source_here_123⟩, k122, ho115⟩ := bnd ho115; (try dsimp only at ho115); obtain ⟨rfl, rfl⟩ := pr2 (sm ho115); exact ⟨[some a0, some (.int base_2), some (.ref p95), some (.int x14), some (.int bays_33), some (.int x38), some (.int most_56), some v84, some (.int x101), none, none, none, none, some (.int k_109)], source_here_118, fun H120 Q hS119 hq => (fun Q hq => hq) Q hq, rfl, t_yes, (fun hy => by cases hy), fun y hy => by obtain rfl := sm hy; exact (d_add d_int (d_callX (A := A_draw) (B := B_draw) (C := C_draw) (x := (source_here_118, x101)) (y := (x121, source_here_123)) (cs2 := ((p111, HO.lst us112) :: (p95, HO.lst (source_here_123.map V.int)) :: cs)) (cc := [(p95, HO.lst (source_here_118.map V.int))]) (cs' := ((p111, HO.lst us112) :: cs)) (r_c rfl (r_d (d_var rfl (.int _)) r_nil)) (sb_perm (List.perm_middle (l₁ := [(p111, HO.lst us112)]))) k122 (sb_perm (List.Perm.symm (List.perm_middle (l₁ := [(p111, HO.lst us112)]))))))⟩))) (fun _ => rfl) (fun v133 F129 H130 g131 hS132 hv134 => ?_)
  have hS135 := Sta.frozeAt (l1 := []) hS132
  obtain ⟨x136, k137, m⟩ := bnd m
  obtain ⟨x138, k139, m⟩ := bnd m
  refine s_setC (K := K) (ds := x138.map eI) (i := 2) (σ' := fun p144 => [some a0, some (.int base_2), some (.ref p144), some (.int x14), some (.int bays_33), some (.int x38), some (.int most_56), some v84, some (.int x101), some v133, none, none, none, none]) hS135 (c_callX (A := A_source) (B := B_source) (C := C_source) (x := (x136, (base_2 + (2 : Int)))) (y := x138) (cs2 := (cs)) (cc := []) (cs' := (cs)) (r_d (d_call (A := A_cell) (B := eI) (x := (script_1, (base_2 + (2 : Int)))) (a_cons (d_var rfl (Dt.gr (Gr.tr g9 (Gr.tr g19 (Gr.tr g31 (Gr.tr g42 (Gr.tr g54 (Gr.tr g82 (Gr.tr (Gr.new (Sta.freeAt (l1 := []) hS83)) (Gr.tr g93 (Gr.tr g105 (Gr.tr g131 (Gr.new (Sta.freeAt (l1 := []) hS132)))))))))))) ha0)) (a_cons (d_add (d_var rfl (.int _)) d_int) a_nil)) k137) (r_d (d_add (d_var rfl (.int _)) d_int) r_nil)) sb_rfl k139 (fun _ => sb_rfl)) (fun _ => rfl) (fun p144 us145 F140 H141 g142 hS143 hu146 => ?_)
  obtain rfl := Dts.ints hu146
  refine s_setC (K := K) (ds := x77.map eI) (i := 10) (σ' := fun p151 => [some a0, some (.int base_2), some (.ref p144), some (.int x14), some (.int bays_33), some (.int x38), some (.int most_56), some v84, some (.int x101), some v133, some (.ref p151), none, none, none]) hS143 (c_list (a_cons (d_var rfl (Dt.gr (Gr.tr (Gr.new (Sta.freeAt (l1 := []) hS83)) (Gr.tr g93 (Gr.tr g105 (Gr.tr g131 (Gr.tr (Gr.new (Sta.freeAt (l1 := []) hS132)) g142))))) hv85)) a_nil)) (fun _ => rfl) (fun p151 us152 F147 H148 g149 hS150 hu153 => ?_)
  obtain rfl := Dts.ints hu153
  refine s_setC (K := K) (ds := x77.map eI) (i := 11) (σ' := fun p158 => [some a0, some (.int base_2), some (.ref p144), some (.int x14), some (.int bays_33), some (.int x38), some (.int most_56), some v84, some (.int x101), some v133, some (.ref p151), some (.ref p158), none, none]) hS150 (c_list (a_cons (d_var rfl (Dt.gr (Gr.tr (Gr.new (Sta.freeAt (l1 := []) hS83)) (Gr.tr g93 (Gr.tr g105 (Gr.tr g131 (Gr.tr (Gr.new (Sta.freeAt (l1 := []) hS132)) (Gr.tr g142 g149)))))) hv85)) a_nil)) (fun _ => rfl) (fun p158 us159 F154 H155 g156 hS157 hu160 => ?_)
  obtain rfl := Dts.ints hu160
  obtain ⟨boxes_165, k166, m⟩ := lt m
  refine s_set (K := K) (d := (eL (eT3 eS eI eI)) boxes_165) (i := 12) (σ' := fun v167 => [some a0, some (.int base_2), some (.ref p144), some (.int x14), some (.int bays_33), some (.int x38), some (.int most_56), some v84, some (.int x101), some v133, some (.ref p151), some (.ref p158), some v167, none]) hS157 (d_is (d_lst a_nil (Nat.le_of_ble_eq_true rfl)) (congrArg (eL (eT3 eS eI eI)) k166)) (fun _ => rfl) (fun v167 F161 H162 g163 hS164 hv168 => ?_)
  obtain ⟨⟨x169, source_here_171⟩, k170, m⟩ := bnd m; (try dsimp only at m)
  obtain ⟨x172, k173, m⟩ := bnd m
  obtain ⟨⟨x174, source_here_176⟩, k175, m⟩ := bnd m; (try dsimp only at m)
  obtain ⟨x177, k178, m⟩ := bnd m
  obtain ⟨⟨boxes_226, source_here_227, here_228, there_229⟩, k181, m⟩ := bnd m
  try dsimp only at m
  refine s_for (K := K) (xs := x177) (en := eI) (body := (f_store_b179 x14)) (s0 := (boxes_165, source_here_176, x77, x77)) (r := (boxes_226, source_here_227, here_228, there_229)) (fun (a : (List (Str × Int × Int)) × (List Int) × (List Int) × (List Int)) F σ c => ∃ (j12 : V) (j13 : Option V), σ = [some a0, some (.int base_2), some (.ref p144), some (.int x14), some (.int bays_33), some (.int x38), some (.int most_56), some v84, some (.int x101), some v133, some (.ref p151), some (.ref p158), some j12, j13] ∧ (p158, .lst (a.2.2.2.map V.int)) :: (p151, .lst (a.2.2.1.map V.int)) :: (p144, .lst (a.2.1.map V.int)) :: cs = c ∧ Dt K F j12 ((eL (eT3 eS eI eI)) a.1)) hS164 (i_rng1 (a_cons (d_callX (A := A_draw) (B := B_draw) (C := C_draw) (x := (source_here_171, x172)) (y := (x174, source_here_176)) (cs2 := ((p158, HO.lst (x77.map V.int)) :: (p151, HO.lst (x77.map V.int)) :: (p144, HO.lst (source_here_176.map V.int)) :: cs)) (cc := [(p144, HO.lst (source_here_171.map V.int))]) (cs' := ((p158, HO.lst (x77.map V.int)) :: (p151, HO.lst (x77.map V.int)) :: cs)) (r_c rfl (r_d (d_ix (e := eI) (d_lst (a_cons d_int (a_cons d_int (a_cons d_int a_nil))) (Nat.le_of_ble_eq_true rfl)) (d_callX (A := A_draw) (B := B_draw) (C := C_draw) (x := (x138, (3 : Int))) (y := (x169, source_here_171)) (cs2 := ((p158, HO.lst (x77.map V.int)) :: (p151, HO.lst (x77.map V.int)) :: (p144, HO.lst (source_here_171.map V.int)) :: cs)) (cc := [(p144, HO.lst (x138.map V.int))]) (cs' := ((p158, HO.lst (x77.map V.int)) :: (p151, HO.lst (x77.map V.int)) :: cs)) (r_c rfl (r_d d_int r_nil)) (sb_perm (List.perm_middle (l₁ := [(p158, HO.lst (x77.map V.int)), (p151, HO.lst (x77.map V.int))]))) k170 (sb_perm (List.Perm.symm (List.perm_middle (l₁ := [(p158, HO.lst (x77.map V.int)), (p151, HO.lst (x77.map V.int))]))))) k173) r_nil)) (sb_perm (List.perm_middle (l₁ := [(p158, HO.lst (x77.map V.int)), (p151, HO.lst (x77.map V.int))]))) k175 (sb_perm (List.Perm.symm (List.perm_middle (l₁ := [(p158, HO.lst (x77.map V.int)), (p151, HO.lst (x77.map V.int))]))))) a_nil) k178) (fun _ _ => ⟨_, _, rfl, rfl, (Dt.gr ‹_› hv168)⟩) k181 ?_ ?_
  · rintro k_186 ⟨boxes_182, source_here_183, here_184, there_185⟩ b195 F187 F188 σ201 c202 H189 v194 N196 g190 ⟨v204, u205, rfl, rfl, h206⟩ g191 hS192 hv193 m203 hN198
    obtain rfl := Dt.toInt hv193
    refine tg (σ' := [some a0, some (.int base_2), some (.ref p144), some (.int x14), some (.int bays_33), some (.int x38), some (.int most_56), some v84, some (.int x101), some v133, some (.ref p151), some (.ref p158), some v204, some (.int k_186)]) (fun Q hq => hq) ?_
    unfold f_store_b179 at m203
    try dsimp only at m203
    obtain ⟨⟨x207, source_here_209, here_210, there_211⟩, k208, m203⟩ := bnd m203; (try dsimp only at m203)
    obtain ⟨x212, k213, m203⟩ := bnd m203
    refine s_set (K := K) (d := (eL (eT3 eS eI eI)) x212) (i := 12) (σ' := fun v218 => [some a0, some (.int base_2), some (.ref p144), some (.int x14), some (.int bays_33), some (.int x38), some (.int most_56), some v84, some (.int x101), some v133, some (.ref p151), some (.ref p158), some v218, some (.int k_186)]) hS192 (EvC.dd (c_cat (en := (eT3 eS eI eI)) (d_var rfl (Dt.gr g191 h206)) (EvC.dd (c_callX (A := A_box) (B := B_box) (C := C_box) (x := (source_here_183, x14, k_186, here_184, there_185)) (y := (x207, source_here_209, here_210, there_211)) (cs2 := ((p158, HO.lst (there_211.map V.int)) :: (p151, HO.lst (here_210.map V.int)) :: (p144, HO.lst (source_here_209.map V.int)) :: cs)) (cc := [(p144, HO.lst (source_here_183.map V.int)), (p151, HO.lst (here_184.map V.int)), (p158, HO.lst (there_185.map V.int))]) (cs' := (cs)) (r_c rfl (r_d (d_var rfl (.int _)) (r_d (d_var rfl (.int _)) (r_c rfl (r_c rfl r_nil))))) (sb_perm (List.Perm.trans (List.perm_middle (l₁ := [(p158, HO.lst (there_185.map V.int))])) (List.perm_middle (l₁ := [(p151, HO.lst (here_184.map V.int)), (p158, HO.lst (there_185.map V.int))])))) k208 (fun _ => sb_perm (List.Perm.cons _ (List.Perm.symm (List.Perm.trans (List.perm_middle (l₁ := [(p158, HO.lst (there_211.map V.int))])) (List.perm_middle (l₁ := [(p151, HO.lst (here_210.map V.int)), (p158, HO.lst (there_211.map V.int))])))))))) k213)) (fun _ => rfl) (fun v218 F214 H215 g216 hS217 hv219 => ?_)
    obtain rfl := sm m203
    exact hN198 _ _ _ _ g216 hS217 ⟨_, _, rfl, rfl, hv219⟩
  · rintro F220 σ225 c224 H221 g222 hS223 ⟨v230, u231, rfl, rfl, h232⟩
    have hS233 := Sta.frozeAt (l1 := []) hS223
    have hS234 := Sta.frozeAt (l1 := []) hS233
    have hS235 := Sta.frozeAt (l1 := []) hS234
    refine s_ret (K := K) (d := (eT4 (eL eI) (eL eI) eI (eL (eT3 eS eI eI))) (x77, x126, most_56, boxes_226)) hS235 (d_tup (a_cons (d_var rfl (Dt.gr (Gr.tr (Gr.new (Sta.freeAt (l1 := []) hS83)) (Gr.tr g93 (Gr.tr g105 (Gr.tr g131 (Gr.tr (Gr.new (Sta.freeAt (l1 := []) hS132)) (Gr.tr g142 (Gr.tr g149 (Gr.tr g156 (Gr.tr g163 (Gr.tr g222 (Gr.tr (Gr.new (Sta.freeAt (l1 := []) hS223)) (Gr.tr (Gr.new (Sta.freeAt (l1 := []) hS233)) (Gr.new (Sta.freeAt (l1 := []) hS234)))))))))))))) hv85)) (a_cons (d_var rfl (Dt.gr (Gr.tr (Gr.new (Sta.freeAt (l1 := []) hS132)) (Gr.tr g142 (Gr.tr g149 (Gr.tr g156 (Gr.tr g163 (Gr.tr g222 (Gr.tr (Gr.new (Sta.freeAt (l1 := []) hS223)) (Gr.tr (Gr.new (Sta.freeAt (l1 := []) hS233)) (Gr.new (Sta.freeAt (l1 := []) hS234)))))))))) hv134)) (a_cons (d_var rfl (.int _)) (a_cons (d_var rfl (Dt.gr (Gr.tr (Gr.new (Sta.freeAt (l1 := []) hS223)) (Gr.tr (Gr.new (Sta.freeAt (l1 := []) hS233)) (Gr.new (Sta.freeAt (l1 := []) hS234)))) h232)) a_nil)))) (Nat.le_of_ble_eq_true rfl)) (fun v240 F236 H237 g238 hS239 hv241 => ?_)
    obtain rfl := sm m
    exact q _ _ _ (Gr.tr g9 (Gr.tr g19 (Gr.tr g31 (Gr.tr g42 (Gr.tr g54 (Gr.tr g82 (Gr.tr (Gr.new (Sta.freeAt (l1 := []) hS83)) (Gr.tr g93 (Gr.tr g105 (Gr.tr g131 (Gr.tr (Gr.new (Sta.freeAt (l1 := []) hS132)) (Gr.tr g142 (Gr.tr g149 (Gr.tr g156 (Gr.tr g163 (Gr.tr g222 (Gr.tr (Gr.new (Sta.freeAt (l1 := []) hS223)) (Gr.tr (Gr.new (Sta.freeAt (l1 := []) hS233)) (Gr.tr (Gr.new (Sta.freeAt (l1 := []) hS234)) g238))))))))))))))))))) hS239 hv241
theorem sc_store : FnScope N_store ["_law_script", "_law_base"] (defScope s_store) := ⟨rfl, rfl, rfl, by decide +kernel, rfl, by decide +kernel, by decide +kernel⟩
theorem ok_store {P : Program} {w : World} {K : PySem.W.Frag} {mg : Str → Option Value} {base : Heap} (hF : Df K mg "_law_store" s_store) (m_list : mg "list" = none) (m_range : mg "range" = none) (o_draw : Ok P w K mg base 1 "_law_draw" ["_law_source_here", "_law_many"] (sp_draw K)) (o_box : Ok P w K mg base 2 "_law_box" ["_law_source_here", "_law_salt", "_law_k", "_law_here", "_law_there"] (sp_box K)) (o_source : Ok P w K mg base 1 "_law_source" ["_law_cell_here", "_law_k"] (sp_source K)) (o_cell : Ok P w K mg base 1 "_law_cell" ["_law_script", "_law_k"] (sp_cell K)) : Ok P w K mg base 3 "_law_store" ["_law_script", "_law_base"] (sp_store K) := by
  obtain ⟨⟨_, G_draw, bd_draw, _⟩, kp_draw, gm_draw⟩ := o_draw
  obtain ⟨⟨_, G_box, bd_box, _⟩, kp_box, gm_box⟩ := o_box
  obtain ⟨⟨_, G_source, bd_source, _⟩, kp_source, gm_source⟩ := o_source
  obtain ⟨⟨_, G_cell, bd_cell, _⟩, kp_cell, gm_cell⟩ := o_cell
  obtain ⟨⟨fd, F⟩, gm⟩ := hF
  refine ⟨⟨fd, F.ok sc_store (fun vs H Q E h => ?_) (fun cdv A outer s H vs Q E hr h => ⟨t_store K, PSs.nox ?_, w_store vs H Q E h⟩), F.bindsN fun _ _ _ _ _ _ us hl => match us, hl with | [_, _], _ => rfl, lk_of F⟩, F.kp, gm⟩
  · obtain ⟨F0, cs, x, y, h, _⟩ := h; exact Dts.len h
  · exact (pss_cons (ps_set (i := 2) sc_store.nd rfl (Or.inr rfl) (pe_call G_source (hr.mono (by decide)) (by rfl) gm_source kp_source bd_source .nil pass0 (pa_cons (pe_call G_cell (hr.mono (by decide)) (by rfl) gm_cell kp_cell bd_cell .nil pass0 (pa_cons (pv 0) (pa_cons (pv 1) pa_nil))) (pa_cons (pv 1) pa_nil)))) (pss_cons (ps_set (i := 3) sc_store.nd rfl (Or.inl rfl) (pe_call G_draw (hr.mono (by decide)) (by rfl) gm_draw kp_draw bd_draw .nil pass0 (pa_cons (pv 2) (pa_cons pe_int pa_nil)))) (pss_cons (ps_set (i := 4) sc_store.nd rfl (Or.inl rfl) (pe_op op_add pe_int (pe_call G_draw (hr.mono (by decide)) (by rfl) gm_draw kp_draw bd_draw .nil pass0 (pa_cons (pv 2) (pa_cons (pe_ix ix_list (pe_lst (pa_cons pe_int (pa_cons pe_int (pa_cons pe_int (pa_cons pe_int pa_nil))))) (pe_call G_draw (hr.mono (by decide)) (by rfl) gm_draw kp_draw bd_draw .nil pass0 (pa_cons (pv 2) (pa_cons pe_int pa_nil))) (fun _ _ => rfl)) pa_nil))))) (pss_cons (ps_set (i := 5) sc_store.nd rfl (Or.inr rfl) (pe_ix ix_list (pe_lst (pa_cons pe_int (pa_cons pe_int (pa_cons pe_int (pa_cons pe_int (pa_cons pe_int pa_nil)))))) (pe_call G_draw (hr.mono (by decide)) (by rfl) gm_draw kp_draw bd_draw .nil pass0 (pa_cons (pv 2) (pa_cons pe_int pa_nil))) (fun _ _ => rfl))) (pss_cons (ps_set (i := 6) sc_store.nd rfl (Or.inl rfl) (pe_op op_add pe_int (pe_call G_draw (hr.mono (by decide)) (by rfl) gm_draw kp_draw bd_draw .nil pass0 (pa_cons (pv 2) (pa_cons (pe_ix ix_list (pe_lst (pa_cons pe_int (pa_cons pe_int (pa_cons pe_int pa_nil)))) (pe_call G_draw (hr.mono (by decide)) (by rfl) gm_draw kp_draw bd_draw .nil pass0 (pa_cons (pv 2) (pa_cons pe_int pa_nil))) (fun _ _ => rfl)) pa_nil))))) (pss_cons (ps_setLc (i := 7) (own := [("_law_k", 13)]) (g := (gName 13)) (tt := tYes) (te := (tOp (rI0 fun i j => .int (i + j)) (tC (.int 1)) (tCall (sp_draw K) [] E0 (tCons (tVar 2) (tCons (tVar 5) tNil))))) (by rfl) sc_store.nd rfl rfl (sw_true rfl rfl rfl (by decide +kernel)) (pi_range1 (by rfl) m_range (pa_cons (pv 4) pa_nil)) (blkOk_by (own := [("_law_k", 13)]) (N := N_store) (sc := defScope s_store) (by decide +kernel)) (fun _ _ _ _ _ => (pg_name (i := 13) sc_store.nd rfl (Or.inl rfl))) (fun _ _ _ _ _ => pts_nil) (fun _ _ _ _ _ => (pe_op op_add pe_int (pe_call G_draw (hr.mono (by decide)) (by rfl) gm_draw kp_draw bd_draw .nil pass0 (pa_cons (pv 2) (pa_cons (pv 5) pa_nil)))))) (pss_cons (ps_set (i := 2) sc_store.nd rfl (Or.inr rfl) (pe_call G_source (hr.mono (by decide)) (by rfl) gm_source kp_source bd_source .nil pass0 (pa_cons (pe_call G_cell (hr.mono (by decide)) (by rfl) gm_cell kp_cell bd_cell .nil pass0 (pa_cons (pv 0) (pa_cons (pe_op op_add (pv 1) pe_int) pa_nil))) (pa_cons (pe_op op_add (pv 1) pe_int) pa_nil)))) (pss_cons (ps_set (i := 8) sc_store.nd rfl (Or.inr rfl) (pe_ix ix_list (pe_lst (pa_cons pe_int (pa_cons (pe_op op_pow pe_int pe_int) pa_nil))) (pe_call G_draw (hr.mono (by decide)) (by rfl) gm_draw kp_draw bd_draw .nil pass0 (pa_cons (pv 2) (pa_cons pe_int pa_nil))) (fun _ _ => rfl))) (pss_cons (ps_setLc (i := 9) (own := [("_law_k", 13)]) (g := (gName 13)) (tt := tYes) (te := (tOp (rI0 fun i j => .int (i + j)) (tC (.int 1)) (tCall (sp_draw K) [] E0 (tCons (tVar 2) (tCons (tVar 8) tNil))))) (by rfl) sc_store.nd rfl rfl (sw_true rfl rfl rfl (by decide +kernel)) (pi_range1 (by rfl) m_range (pa_cons (pe_op op_sub (pv 4) pe_int) pa_nil)) (blkOk_by (own := [("_law_k", 13)]) (N := N_store) (sc := defScope s_store) (by decide +kernel)) (fun _ _ _ _ _ => (pg_name (i := 13) sc_store.nd rfl (Or.inl rfl))) (fun _ _ _ _ _ => pts_nil) (fun _ _ _ _ _ => (pe_op op_add pe_int (pe_call G_draw (hr.mono (by decide)) (by rfl) gm_draw kp_draw bd_draw .nil pass0 (pa_cons (pv 2) (pa_cons (pv 8) pa_nil)))))) (pss_cons (ps_set (i := 2) sc_store.nd rfl (Or.inr rfl) (pe_call G_source (hr.mono (by decide)) (by rfl) gm_source kp_source bd_source .nil pass0 (pa_cons (pe_call G_cell (hr.mono (by decide)) (by rfl) gm_cell kp_cell bd_cell .nil pass0 (pa_cons (pv 0) (pa_cons (pe_op op_add (pv 1) pe_int) pa_nil))) (pa_cons (pe_op op_add (pv 1) pe_int) pa_nil)))) (pss_cons (ps_set (i := 10) sc_store.nd rfl (Or.inl rfl) (pe_callTy cr_list (by rfl) m_list (by decide +kernel) (pa_cons (pv 7) pa_nil))) (pss_cons (ps_set (i := 11) sc_store.nd rfl (Or.inl rfl) (pe_callTy cr_list (by rfl) m_list (by decide +kernel) (pa_cons (pv 7) pa_nil))) (pss_cons (ps_set (i := 12) sc_store.nd rfl (Or.inl rfl) (pe_lst pa_nil)) (pss_cons (ps_for PassesOwn.never rfl (pi_range1 (by rfl) m_range (pa_cons (pe_call G_draw (hr.mono (by decide)) (by rfl) gm_draw kp_draw bd_draw .nil pass0 (pa_cons (pv 2) (pa_cons (pe_ix ix_list (pe_lst (pa_cons pe_int (pa_cons pe_int (pa_cons pe_int pa_nil)))) (pe_call G_draw (hr.mono (by decide)) (by rfl) gm_draw kp_draw bd_draw .nil pass0 (pa_cons (pv 2) (pa_cons pe_int pa_nil))) (fun _ _ => rfl)) pa_nil))) pa_nil)) (pg_name (i := 13) sc_store.nd rfl (Or.inl rfl)) (pss_one (ps_set (i := 12) sc_store.nd rfl (Or.inl rfl) (pe_op op_catS (pv 12) (pe_call G_box (hr.mono (by decide)) (by rfl) gm_box kp_box bd_box .nil pass0 (pa_cons (pv 2) (pa_cons (pv 3) (pa_cons (pv 13) (pa_cons (pv 10) (pa_cons (pv 11) pa_nil)))))))))) (pss_one (ps_ret (pe_tup (pa_cons (pv 7) (pa_cons (pv 9) (pa_cons (pv 6) (pa_cons (pv 12) pa_nil)))))))))))))))))))))
abbrev s_part_of : Stmt := (top 49)
def f_part_of : (Option Xe) → Option PyData := fun kept_1 => (if ((!(isX kept_1 "NoStore")) || (!(kept_1).isSome)) = true then some (eS ("none" : Str)) else (if (anyX kept_1 ["NoText", "NoBay", "NoBox", "NoRoom", "NoFork", "NoWants", "NoAisle", "NoOrders", "NoRow", "NoPlan", "NoPaper"]) = true then some (eS ("none" : Str)) else (if (anyX kept_1 ["TooMany", "Unknown"]) = true then some (eS ("none" : Str)) else (((partM "part" kept_1)).bind fun x44 => some x44))))
abbrev N_part_of : List Str := ["_law_kept"]
abbrev sp_part_of (K : PySem.W.Frag) : Sp := spX K xcl eD f_part_of
def t_part_of (K : PySem.W.Frag) : TS := (tSeq (tIfS (tOr (tNot (tB (tCB (rIsiX K) (tCons (tVar 0) (tCons (tC (.ref (He.ga K "NoStore"))) tNil))))) (tNot (tB (tCB (rIsiX K) (tCons (tVar 0) (tCons (tC (.ty "ValueError")) tNil)))))) (tRet (tC (.str "none"))) tNext) (tSeq (tIfS (tB (tCB (rIsiXT K) (tCons (tVar 0) (tCons (tTup (tCons (tC (.ref (He.ga K "NoText"))) (tCons (tC (.ref (He.ga K "NoBay"))) (tCons (tC (.ref (He.ga K "NoBox"))) (tCons (tC (.ref (He.ga K "NoRoom"))) (tCons (tC (.ref (He.ga K "NoFork"))) (tCons (tC (.ref (He.ga K "NoWants"))) (tCons (tC (.ref (He.ga K "NoAisle"))) (tCons (tC (.ref (He.ga K "NoOrders"))) (tCons (tC (.ref (He.ga K "NoRow"))) (tCons (tC (.ref (He.ga K "NoPlan"))) (tCons (tC (.ref (He.ga K "NoPaper"))) tNil)))))))))))) tNil)))) (tRet (tC (.str "none"))) tNext) (tSeq (tIfS (tB (tCB (rIsiXT K) (tCons (tVar 0) (tCons (tTup (tCons (tC (.ref (He.ga K "TooMany"))) (tCons (tC (.ref (He.ga K "Unknown"))) tNil))) tNil)))) (tRet (tC (.str "none"))) tNext) (tRet (tXat K "part" (tVar 0))))))
theorem w_part_of {K : PySem.W.Frag} (XC : XFc K xcl xts) (vs : List V) (H : Hp) (Q : VK) (E : XK) (h : sp_part_of K vs H Q E) : t_part_of K { nx := fun _ H' => Q .non H', rt := Q } (start N_part_of vs) H := by
  obtain ⟨F0, cs, a0, kept_1, y, rfl, ha0, hS0, m, q⟩ := h
  unfold f_part_of at m
  try dsimp only at m
  unfold t_part_of
  refine go (σ' := [some a0]) rfl ?_
  refine s_if (b := ((!(isX kept_1 "NoStore")) || (!(kept_1).isSome))) hS0 (t_orP (t_not (t_B (K := K) (d_isiX XC (i := 0) (d := "NoStore") rfl ha0 (by decide)))) (fun hc => (t_not (t_B (K := K) (d_isiXV XC (i := 0) rfl ha0))))) (fun hc F2 H3 g4 hS5 => ?_) (fun hc F12 H13 g14 hS15 => ?_)
  · rw [if_pos hc] at m
    refine s_ret (K := K) (d := eD (eS ("none" : Str))) hS5 d_str (fun v10 F6 H7 g8 hS9 hv11 => ?_)
    obtain rfl := sm m
    exact q _ _ _ (Gr.tr g4 g8) hS9 hv11
  · rw [if_neg (bf hc)] at m
    refine nxt ?_
    refine s_if (b := (anyX kept_1 ["NoText", "NoBay", "NoBox", "NoRoom", "NoFork", "NoWants", "NoAisle", "NoOrders", "NoRow", "NoPlan", "NoPaper"])) hS15 (t_B (K := K) (d_isiXT (ds := ["NoText", "NoBay", "NoBox", "NoRoom", "NoFork", "NoWants", "NoAisle", "NoOrders", "NoRow", "NoPlan", "NoPaper"]) XC (i := 0) rfl (Xv.gr g14 ha0) (by decide) (by decide) (fun _ _ q => q))) (fun hc F16 H17 g18 hS19 => ?_) (fun hc F26 H27 g28 hS29 => ?_)
    · rw [if_pos hc] at m
      refine s_ret (K := K) (d := eD (eS ("none" : Str))) hS19 d_str (fun v24 F20 H21 g22 hS23 hv25 => ?_)
      obtain rfl := sm m
      exact q _ _ _ (Gr.tr g14 (Gr.tr g18 g22)) hS23 hv25
    · rw [if_neg (bf hc)] at m
      refine nxt ?_
      refine s_if (b := (anyX kept_1 ["TooMany", "Unknown"])) hS29 (t_B (K := K) (d_isiXT (ds := ["TooMany", "Unknown"]) XC (i := 0) rfl (Xv.gr (Gr.tr g14 g28) ha0) (by decide) (by decide) (fun _ _ q => q))) (fun hc F30 H31 g32 hS33 => ?_) (fun hc F40 H41 g42 hS43 => ?_)
      · rw [if_pos hc] at m
        refine s_ret (K := K) (d := eD (eS ("none" : Str))) hS33 d_str (fun v38 F34 H35 g36 hS37 hv39 => ?_)
        obtain rfl := sm m
        exact q _ _ _ (Gr.tr g14 (Gr.tr g28 (Gr.tr g32 g36))) hS37 hv39
      · rw [if_neg (bf hc)] at m
        refine nxt ?_
        obtain ⟨x44, k45, m⟩ := bnd m
        refine s_ret (K := K) (d := eD x44) hS43 (d_xat XC (i := 0) rfl (Xv.gr (Gr.tr g14 (Gr.tr g28 g42)) ha0) k45) (fun v50 F46 H47 g48 hS49 hv51 => ?_)
        obtain rfl := sm m
        exact q _ _ _ (Gr.tr g14 (Gr.tr g28 (Gr.tr g42 g48))) hS49 hv51
theorem sc_part_of : FnScope N_part_of ["_law_kept"] (defScope s_part_of) := ⟨rfl, rfl, rfl, by decide +kernel, rfl, by decide +kernel, by decide +kernel⟩
theorem ok_part_of {P : Program} {w : World} {K : PySem.W.Frag} {mg : Str → Option Value} {base : Heap} (hF : Df K mg "_law_part_of" s_part_of) (m_ValueError : mg "ValueError" = none) (m_isinstance : mg "isinstance" = none) (XC : XFc K xcl xts) (g_CartError : mg "CartError" = some (.ref (He.ga K "CartError"))) (g_NoAisle : mg "NoAisle" = some (.ref (He.ga K "NoAisle"))) (g_NoBay : mg "NoBay" = some (.ref (He.ga K "NoBay"))) (g_NoBox : mg "NoBox" = some (.ref (He.ga K "NoBox"))) (g_NoFork : mg "NoFork" = some (.ref (He.ga K "NoFork"))) (g_NoOrders : mg "NoOrders" = some (.ref (He.ga K "NoOrders"))) (g_NoPaper : mg "NoPaper" = some (.ref (He.ga K "NoPaper"))) (g_NoPlan : mg "NoPlan" = some (.ref (He.ga K "NoPlan"))) (g_NoRoom : mg "NoRoom" = some (.ref (He.ga K "NoRoom"))) (g_NoRow : mg "NoRow" = some (.ref (He.ga K "NoRow"))) (g_NoStore : mg "NoStore" = some (.ref (He.ga K "NoStore"))) (g_NoText : mg "NoText" = some (.ref (He.ga K "NoText"))) (g_NoWants : mg "NoWants" = some (.ref (He.ga K "NoWants"))) (g_TooMany : mg "TooMany" = some (.ref (He.ga K "TooMany"))) (g_Unknown : mg "Unknown" = some (.ref (He.ga K "Unknown"))) : Ok P w K mg base 1 "_law_part_of" ["_law_kept"] (sp_part_of K) := by
  obtain ⟨⟨fd, F⟩, gm⟩ := hF
  refine ⟨⟨fd, F.ok sc_part_of (fun vs H Q E h => ?_) (fun cdv A outer s H vs Q E hr h => ⟨t_part_of K, PSs.nox ?_, w_part_of XC vs H Q E h⟩), F.bindsN fun _ _ _ _ _ _ us hl => match us, hl with | [_], _ => rfl, lk_of F⟩, F.kp, gm⟩
  · obtain ⟨F0, cs, v, o, y, rfl, _⟩ := h; rfl
  · exact (pss_cons (ps_if (PW.pt (pw_or (pt_not (pt_val (pe_callB cr_isiX (by rfl) m_isinstance (by decide +kernel) (pa_cons (pv 0) (pa_cons (pe_glob (by rfl) g_NoStore rfl) pa_nil))))) (pw_or1 (pt_not (pt_val (pe_callB cr_isiX (by rfl) m_isinstance (by decide +kernel) (pa_cons (pv 0) (pa_cons (pe_bltn (v := .ty "ValueError") (by rfl) m_ValueError (by decide +kernel) rfl) pa_nil)))))))) (pss_one (ps_ret pe_str)) pss_nil) (pss_cons (ps_if (pt_val (pe_callB cr_isiXT (by rfl) m_isinstance (by decide +kernel) (pa_cons (pv 0) (pa_cons (pe_tup (pa_cons (pe_glob (by rfl) g_NoText rfl) (pa_cons (pe_glob (by rfl) g_NoBay rfl) (pa_cons (pe_glob (by rfl) g_NoBox rfl) (pa_cons (pe_glob (by rfl) g_NoRoom rfl) (pa_cons (pe_glob (by rfl) g_NoFork rfl) (pa_cons (pe_glob (by rfl) g_NoWants rfl) (pa_cons (pe_glob (by rfl) g_NoAisle rfl) (pa_cons (pe_glob (by rfl) g_NoOrders rfl) (pa_cons (pe_glob (by rfl) g_NoRow rfl) (pa_cons (pe_glob (by rfl) g_NoPlan rfl) (pa_cons (pe_glob (by rfl) g_NoPaper rfl) pa_nil)))))))))))) pa_nil)))) (pss_one (ps_ret pe_str)) pss_nil) (pss_cons (ps_if (pt_val (pe_callB cr_isiXT (by rfl) m_isinstance (by decide +kernel) (pa_cons (pv 0) (pa_cons (pe_tup (pa_cons (pe_glob (by rfl) g_TooMany rfl) (pa_cons (pe_glob (by rfl) g_Unknown rfl) pa_nil))) pa_nil)))) (pss_one (ps_ret pe_str)) pss_nil) (pss_one (ps_ret (pe_xat (pv 0)))))))
abbrev s_is_whole_D : Stmt := (top 20)
def f_is_whole_D : PyData → Option Bool := fun thing_1 => some ((isiD "int" thing_1) && (!(isiD "bool" thing_1)))
abbrev A_is_whole_D : PyData → List PyData := fun x => [eD x]
abbrev N_is_whole_D : List Str := ["thing"]
abbrev sp_is_whole_D (K : PySem.W.Frag) : Sp := spP K A_is_whole_D eB f_is_whole_D
def t_is_whole_D (K : PySem.W.Frag) : TS := (tRet (tAndV (tCB (rIsi K) (tCons (tVar 0) (tCons (tC (.ty "int")) tNil))) (tNotV (tCB (rIsi K) (tCons (tVar 0) (tCons (tC (.ty "bool")) tNil))))))
theorem w_is_whole_D {K : PySem.W.Frag} (vs : List V) (H : Hp) (Q : VK) (E : XK) (h : sp_is_whole_D K vs H Q E) : t_is_whole_D K { nx := fun _ H' => Q .non H', rt := Q } (start N_is_whole_D vs) H := by
  obtain ⟨F0, cs, thing_1, y, h, hS0, m, q⟩ := h
  obtain ⟨a0, _, rfl, ha0, h⟩ := Dts.hd h
  obtain rfl := Dts.no h
  unfold f_is_whole_D at m
  try dsimp only at m
  unfold t_is_whole_D
  refine go (σ' := [some a0]) rfl ?_
  refine s_ret (K := K) (d := eB ((isiD "int" thing_1) && (!(isiD "bool" thing_1)))) hS0 (d_andP (d_isiD (c := "int") (by decide) (d_var rfl ha0)) (fun hc => (d_notV (d_isiD (c := "bool") (by decide) (d_var rfl ha0))))) (fun v6 F2 H3 g4 hS5 hv7 => ?_)
  obtain rfl := sm m
  exact q _ _ _ g4 hS5 hv7
theorem sc_is_whole_D : FnScope N_is_whole_D ["thing"] (defScope s_is_whole_D) := ⟨rfl, rfl, rfl, by decide +kernel, rfl, by decide +kernel, by decide +kernel⟩
theorem ok_is_whole_D {P : Program} {w : World} {K : PySem.W.Frag} {mg : Str → Option Value} {base : Heap} (hF : Df K mg "is_whole" s_is_whole_D) (m_bool : mg "bool" = none) (m_int : mg "int" = none) (m_isinstance : mg "isinstance" = none) : Ok P w K mg base 1 "is_whole" ["thing"] (sp_is_whole_D K) := by
  obtain ⟨⟨fd, F⟩, gm⟩ := hF
  refine ⟨⟨fd, F.ok sc_is_whole_D (fun vs H Q E h => ?_) (fun cdv A outer s H vs Q E hr h => ⟨t_is_whole_D K, PSs.nox ?_, w_is_whole_D vs H Q E h⟩), F.bindsN fun _ _ _ _ _ _ us hl => match us, hl with | [_], _ => rfl, lk_of F⟩, F.kp, gm⟩
  · obtain ⟨F0, cs, x, y, h, _⟩ := h; exact Dts.len h
  · exact (pss_one (ps_ret (pe_and (pe_callB call_isi (by rfl) m_isinstance (by decide +kernel) (pa_cons (pv 0) (pa_cons (pe_bltn (v := .ty "int") (by rfl) m_int (by decide +kernel) rfl) pa_nil))) (pe_one (pe_not (pe_callB call_isi (by rfl) m_isinstance (by decide +kernel) (pa_cons (pv 0) (pa_cons (pe_bltn (v := .ty "bool") (by rfl) m_bool (by decide +kernel) rfl) pa_nil))))))))
abbrev s_is_whole : Stmt := (top 20)
def f_is_whole : Int → Option Bool := fun thing_1 => some (true && (!false))
abbrev A_is_whole : Int → List PyData := fun x => [eI x]
abbrev N_is_whole : List Str := ["thing"]
abbrev sp_is_whole (K : PySem.W.Frag) : Sp := spP K A_is_whole eB f_is_whole
def t_is_whole (K : PySem.W.Frag) : TS := (tRet (tAndV (tCB (rIsi K) (tCons (tVar 0) (tCons (tC (.ty "int")) tNil))) (tNotV (tCB (rIsi K) (tCons (tVar 0) (tCons (tC (.ty "bool")) tNil))))))
theorem w_is_whole {K : PySem.W.Frag} (vs : List V) (H : Hp) (Q : VK) (E : XK) (h : sp_is_whole K vs H Q E) : t_is_whole K { nx := fun _ H' => Q .non H', rt := Q } (start N_is_whole vs) H := by
  obtain ⟨F0, cs, thing_1, y, h, hS0, m, q⟩ := h
  obtain ⟨a0, _, rfl, ha0, h⟩ := Dts.hd h
  obtain rfl := Dts.no h
  obtain rfl := Dt.toInt ha0
  unfold f_is_whole at m
  try dsimp only at m
  unfold t_is_whole
  refine go (σ' := [some (.int thing_1)]) rfl ?_
  refine s_ret (K := K) (d := eB (true && (!false))) hS0 (d_andP (d_is (e := PyData.bool true) (d_isiD (c := "int") (by decide) (d_var rfl (.int _))) (congrArg PyData.bool (by rfl))) (fun hc => (d_notV (d_is (e := PyData.bool false) (d_isiD (c := "bool") (by decide) (d_var rfl (.int _))) (congrArg PyData.bool (by rfl)))))) (fun v6 F2 H3 g4 hS5 hv7 => ?_)
  obtain rfl := sm m
  exact q _ _ _ g4 hS5 hv7
theorem sc_is_whole : FnScope N_is_whole ["thing"] (defScope s_is_whole) := ⟨rfl, rfl, rfl, by decide +kernel, rfl, by decide +kernel, by decide +kernel⟩
theorem ok_is_whole {P : Program} {w : World} {K : PySem.W.Frag} {mg : Str → Option Value} {base : Heap} (hF : Df K mg "is_whole" s_is_whole) (m_bool : mg "bool" = none) (m_int : mg "int" = none) (m_isinstance : mg "isinstance" = none) : Ok P w K mg base 1 "is_whole" ["thing"] (sp_is_whole K) := by
  obtain ⟨⟨fd, F⟩, gm⟩ := hF
  refine ⟨⟨fd, F.ok sc_is_whole (fun vs H Q E h => ?_) (fun cdv A outer s H vs Q E hr h => ⟨t_is_whole K, PSs.nox ?_, w_is_whole vs H Q E h⟩), F.bindsN fun _ _ _ _ _ _ us hl => match us, hl with | [_], _ => rfl, lk_of F⟩, F.kp, gm⟩
  · obtain ⟨F0, cs, x, y, h, _⟩ := h; exact Dts.len h
  · exact (pss_one (ps_ret (pe_and (pe_callB call_isi (by rfl) m_isinstance (by decide +kernel) (pa_cons (pv 0) (pa_cons (pe_bltn (v := .ty "int") (by rfl) m_int (by decide +kernel) rfl) pa_nil))) (pe_one (pe_not (pe_callB call_isi (by rfl) m_isinstance (by decide +kernel) (pa_cons (pv 0) (pa_cons (pe_bltn (v := .ty "bool") (by rfl) m_bool (by decide +kernel) rfl) pa_nil))))))))
abbrev s_is_within_D : Stmt := (top 21)
def f_is_within_D : (PyData × Int × Int) → Option Bool := fun (thing_1, least_2, greatest_3) => (((f_is_whole_D thing_1)).bind fun x4 => ((if x4 = true then (((asI thing_1)).bind fun x6 => some (decide (least_2 ≤ x6) && decide (x6 ≤ greatest_3))) else some false)).bind fun x8 => some x8)
abbrev A_is_within_D : (PyData × Int × Int) → List PyData := fun x => [eD x.1, eI x.2.1, eI x.2.2]
abbrev N_is_within_D : List Str := ["thing", "least", "greatest"]
abbrev sp_is_within_D (K : PySem.W.Frag) : Sp := spP K A_is_within_D eB f_is_within_D
def t_is_within_D (K : PySem.W.Frag) : TS := (tRet (tAndV (tCall (sp_is_whole_D K) [] E0 (tCons (tVar 0) tNil)) (tChain (rI0 fun i j => .bl (decide (i ≤ j))) (rI0 fun i j => .bl (decide (i ≤ j))) (tVar 1) (tVar 0) (tVar 2))))
theorem w_is_within_D {K : PySem.W.Frag} (vs : List V) (H : Hp) (Q : VK) (E : XK) (h : sp_is_within_D K vs H Q E) : t_is_within_D K { nx := fun _ H' => Q .non H', rt := Q } (start N_is_within_D vs) H := by
  obtain ⟨F0, cs, ⟨thing_1, least_2, greatest_3⟩, y, h, hS0, m, q⟩ := h
  obtain ⟨a0, _, rfl, ha0, h⟩ := Dts.hd h
  obtain ⟨a1, _, rfl, ha1, h⟩ := Dts.hd h
  obtain ⟨a2, _, rfl, ha2, h⟩ := Dts.hd h
  obtain rfl := Dts.no h
  obtain rfl := Dt.toInt ha1
  obtain rfl := Dt.toInt ha2
  unfold f_is_within_D at m
  try dsimp only at m
  unfold t_is_within_D
  refine go (σ' := [some a0, some (.int least_2), some (.int greatest_3)]) rfl ?_
  obtain ⟨x4, k5, m⟩ := bnd m
  obtain ⟨x8, k9, m⟩ := bnd m
  refine s_ret (K := K) (d := eB x8) hS0 (d_andM (r := x8) (d_call (A := A_is_whole_D) (B := eB) (x := thing_1) (a_cons (d_var rfl ha0) a_nil) k5) (fun hc => by rw [if_pos hc] at k9; obtain ⟨x6, k7, k9⟩ := bnd k9; obtain rfl := sm k9; exact (d_chain (d_var rfl (.int _)) (d_is (d_var rfl ha0) (ck_I _ _ k7)) (d_var rfl (.int _)))) (fun hc => by rw [if_neg (bf hc)] at k9; exact (sm k9).symm)) (fun v14 F10 H11 g12 hS13 hv15 => ?_)
  obtain rfl := sm m
  exact q _ _ _ g12 hS13 hv15
theorem sc_is_within_D : FnScope N_is_within_D ["thing", "least", "greatest"] (defScope s_is_within_D) := ⟨rfl, rfl, rfl, by decide +kernel, rfl, by decide +kernel, by decide +kernel⟩
theorem ok_is_within_D {P : Program} {w : World} {K : PySem.W.Frag} {mg : Str → Option Value} {base : Heap} (hF : Df K mg "is_within" s_is_within_D) (o_is_whole_D : Ok P w K mg base 1 "is_whole" ["thing"] (sp_is_whole_D K)) : Ok P w K mg base 2 "is_within" ["thing", "least", "greatest"] (sp_is_within_D K) := by
  obtain ⟨⟨_, G_is_whole_D, bd_is_whole_D, _⟩, kp_is_whole_D, gm_is_whole_D⟩ := o_is_whole_D
  obtain ⟨⟨fd, F⟩, gm⟩ := hF
  refine ⟨⟨fd, F.ok sc_is_within_D (fun vs H Q E h => ?_) (fun cdv A outer s H vs Q E hr h => ⟨t_is_within_D K, PSs.nox ?_, w_is_within_D vs H Q E h⟩), F.bindsN fun _ _ _ _ _ _ us hl => match us, hl with | [_, _, _], _ => rfl, lk_of F⟩, F.kp, gm⟩
  · obtain ⟨F0, cs, x, y, h, _⟩ := h; exact Dts.len h
  · exact (pss_one (ps_ret (pe_and (pe_call G_is_whole_D (hr.mono (by decide)) (by rfl) gm_is_whole_D kp_is_whole_D bd_is_whole_D .nil pass0 (pa_cons (pv 0) pa_nil)) (pe_one (pe_chain op_le op_le (pv 1) (pv 0) (pv 2))))))
abbrev s_is_within : Stmt := (top 21)
def f_is_within : (Int × Int × Int) → Option Bool := fun (thing_1, least_2, greatest_3) => (((f_is_whole thing_1)).bind fun x4 => some (x4 && (decide (least_2 ≤ thing_1) && decide (thing_1 ≤ greatest_3))))
abbrev A_is_within : (Int × Int × Int) → List PyData := fun x => [eI x.1, eI x.2.1, eI x.2.2]
abbrev N_is_within : List Str := ["thing", "least", "greatest"]
abbrev sp_is_within (K : PySem.W.Frag) : Sp := spP K A_is_within eB f_is_within
def t_is_within (K : PySem.W.Frag) : TS := (tRet (tAndV (tCall (sp_is_whole K) [] E0 (tCons (tVar 0) tNil)) (tChain (rI0 fun i j => .bl (decide (i ≤ j))) (rI0 fun i j => .bl (decide (i ≤ j))) (tVar 1) (tVar 0) (tVar 2))))
theorem w_is_within {K : PySem.W.Frag} (vs : List V) (H : Hp) (Q : VK) (E : XK) (h : sp_is_within K vs H Q E) : t_is_within K { nx := fun _ H' => Q .non H', rt := Q } (start N_is_within vs) H := by
  obtain ⟨F0, cs, ⟨thing_1, least_2, greatest_3⟩, y, h, hS0, m, q⟩ := h
  obtain ⟨a0, _, rfl, ha0, h⟩ := Dts.hd h
  obtain ⟨a1, _, rfl, ha1, h⟩ := Dts.hd h
  obtain ⟨a2, _, rfl, ha2, h⟩ := Dts.hd h
  obtain rfl := Dts.no h
  obtain rfl := Dt.toInt ha0
  obtain rfl := Dt.toInt ha1
  obtain rfl := Dt.toInt ha2
  unfold f_is_within at m
  try dsimp only at m
  unfold t_is_within
  refine go (σ' := [some (.int thing_1), some (.int least_2), some (.int greatest_3)]) rfl ?_
  obtain ⟨x4, k5, m⟩ := bnd m
  refine s_ret (K := K) (d := eB (x4 && (decide (least_2 ≤ thing_1) && decide (thing_1 ≤ greatest_3)))) hS0 (d_andP (d_call (A := A_is_whole) (B := eB) (x := thing_1) (a_cons (d_var rfl (.int _)) a_nil) k5) (fun hc => (d_chain (d_var rfl (.int _)) (d_var rfl (.int _)) (d_var rfl (.int _))))) (fun v10 F6 H7 g8 hS9 hv11 => ?_)
  obtain rfl := sm m
  exact q _ _ _ g8 hS9 hv11
theorem sc_is_within : FnScope N_is_within ["thing", "least", "greatest"] (defScope s_is_within) := ⟨rfl, rfl, rfl, by decide +kernel, rfl, by decide +kernel, by decide +kernel⟩
theorem ok_is_within {P : Program} {w : World} {K : PySem.W.Frag} {mg : Str → Option Value} {base : Heap} (hF : Df K mg "is_within" s_is_within) (o_is_whole : Ok P w K mg base 1 "is_whole" ["thing"] (sp_is_whole K)) : Ok P w K mg base 2 "is_within" ["thing", "least", "greatest"] (sp_is_within K) := by
  obtain ⟨⟨_, G_is_whole, bd_is_whole, _⟩, kp_is_whole, gm_is_whole⟩ := o_is_whole
  obtain ⟨⟨fd, F⟩, gm⟩ := hF
  refine ⟨⟨fd, F.ok sc_is_within (fun vs H Q E h => ?_) (fun cdv A outer s H vs Q E hr h => ⟨t_is_within K, PSs.nox ?_, w_is_within vs H Q E h⟩), F.bindsN fun _ _ _ _ _ _ us hl => match us, hl with | [_, _, _], _ => rfl, lk_of F⟩, F.kp, gm⟩
  · obtain ⟨F0, cs, x, y, h, _⟩ := h; exact Dts.len h
  · exact (pss_one (ps_ret (pe_and (pe_call G_is_whole (hr.mono (by decide)) (by rfl) gm_is_whole kp_is_whole bd_is_whole .nil pass0 (pa_cons (pv 0) pa_nil)) (pe_one (pe_chain op_le op_le (pv 1) (pv 0) (pv 2))))))
abbrev s_has_names_twice_D : Stmt := (top 32)
def f_has_names_twice_D : PyData → Option Bool := fun boxes_1 => (((asLD boxes_1)).bind fun x2 => ((lcC (fun box_4 => (((ixD box_4 (0 : Int))).bind fun x15 => ((asS x15)).bind fun x17 => some (some x17))) x2)).bind fun x19 => ((setLenM x19)).bind fun x21 => ((lenD boxes_1)).bind fun x23 => some (!decide (x21 = x23)))
abbrev A_has_names_twice_D : PyData → List PyData := fun x => [eD x]
abbrev N_has_names_twice_D : List Str := ["boxes", "box"]
abbrev sp_has_names_twice_D (K : PySem.W.Frag) : Sp := spP K A_has_names_twice_D eB f_has_names_twice_D
def t_has_names_twice_D (K : PySem.W.Frag) : TS := (tRet (tOp rNe (tLenSetS K (tLc (iList K (tVar 0)) (gName 1) tYes (tOp (rIx K) (tVar 1) (tC (.int 0))) [1])) (tCB (rLenG K) (tCons (tVar 0) tNil))))
theorem w_has_names_twice_D {K : PySem.W.Frag} (vs : List V) (H : Hp) (Q : VK) (E : XK) (h : sp_has_names_twice_D K vs H Q E) : t_has_names_twice_D K { nx := fun _ H' => Q .non H', rt := Q } (start N_has_names_twice_D vs) H := by
  obtain ⟨F0, cs, boxes_1, y, h, hS0, m, q⟩ := h
  obtain ⟨a0, _, rfl, ha0, h⟩ := Dts.hd h
  obtain rfl := Dts.no h
  unfold f_has_names_twice_D at m
  try dsimp only at m
  unfold t_has_names_twice_D
  refine go (σ' := [some a0, none]) rfl ?_
  obtain ⟨x2, k3, m⟩ := bnd m
  obtain ⟨x19, k20, m⟩ := bnd m
  obtain ⟨x21, k22, m⟩ := bnd m
  obtain ⟨x23, k24, m⟩ := bnd m
  refine s_ret (K := K) (d := eB (!decide (x21 = x23))) hS0 (d_neI (d_setLen (EvC.dd (c_lcC (K := K) (f := (fun box_4 => (((ixD box_4 (0 : Int))).bind fun x15 => ((asS x15)).bind fun x17 => some (some x17)))) (em := eS) (i_list (en := eD) (d_is (d_var rfl ha0) (ck_LD _ _ k3))) k20 (fun box_4 o11 v12 F5 p6 us7 g8 hv9 ho10 => by obtain ⟨x15, k16, ho10⟩ := bnd ho10; obtain ⟨x17, k18, ho10⟩ := bnd ho10; obtain rfl := sm ho10; exact ⟨[some a0, some v12], fun H14 Q hS13 hq => (fun Q hq => hq) Q hq, rfl, t_yes, fun y hy => by obtain rfl := sm hy; exact (d_is (d_ixD (d_var rfl hv9) d_int k16) (ck_S _ _ k18))⟩))) k22) (d_lenD (a_cons (d_var rfl ha0) a_nil) k24)) (fun v29 F25 H26 g27 hS28 hv30 => ?_)
  obtain rfl := sm m
  exact q _ _ _ g27 hS28 hv30
theorem sc_has_names_twice_D : FnScope N_has_names_twice_D ["boxes"] (defScope s_has_names_twice_D) := ⟨rfl, rfl, rfl, by decide +kernel, rfl, by decide +kernel, by decide +kernel⟩
theorem ok_has_names_twice_D {P : Program} {w : World} {K : PySem.W.Frag} {mg : Str → Option Value} {base : Heap} (hF : Df K mg "has_names_twice" s_has_names_twice_D) (m_len : mg "len" = none) (m_set : mg "set" = none) : Ok P w K mg base 1 "has_names_twice" ["boxes"] (sp_has_names_twice_D K) := by
  obtain ⟨⟨fd, F⟩, gm⟩ := hF
  refine ⟨⟨fd, F.ok sc_has_names_twice_D (fun vs H Q E h => ?_) (fun cdv A outer s H vs Q E hr h => ⟨t_has_names_twice_D K, PSs.nox ?_, w_has_names_twice_D vs H Q E h⟩), F.bindsN fun _ _ _ _ _ _ us hl => match us, hl with | [_], _ => rfl, lk_of F⟩, F.kp, gm⟩
  · obtain ⟨F0, cs, x, y, h, _⟩ := h; exact Dts.len h
  · exact (pss_one (ps_ret (pe_cmpR op_ne (pe_lenSetS rfl (by rfl) m_len (by rfl) m_set (pe_lc (own := [("box", 1)]) (g := (gName 1)) (tt := tYes) (te := (tOp (rIx K) (tVar 1) (tC (.int 0)))) (by rfl) sc_has_names_twice_D.nd (pi_list (pv 0)) (blkOk_by (own := [("box", 1)]) (N := N_has_names_twice_D) (sc := defScope s_has_names_twice_D) (by decide +kernel)) (fun _ _ _ _ _ => (pg_name (i := 1) sc_has_names_twice_D.nd rfl (Or.inl rfl))) (fun _ _ _ _ _ => pts_nil) (fun _ _ _ _ _ => (pe_ix ix_seq (pv 1) pe_int (fun _ _ => rfl))))) (pe_callB cr_lenG (by rfl) m_len PySem.boot_len (pa_cons (pv 0) pa_nil)) (nomark _))))
abbrev s_has_names_twice : Stmt := (top 32)
def f_has_names_twice : (List (Str × Int × Int)) → Option Bool := fun boxes_1 => (((mapC (fun box_2 => box_2.1) boxes_1)).bind fun x13 => ((setLenM x13)).bind fun x15 => some (!decide (x15 = (boxes_1.length : Int))))
abbrev A_has_names_twice : (List (Str × Int × Int)) → List PyData := fun x => [(eL (eT3 eS eI eI)) x]
abbrev N_has_names_twice : List Str := ["boxes", "box"]
abbrev sp_has_names_twice (K : PySem.W.Frag) : Sp := spP K A_has_names_twice eB f_has_names_twice
def t_has_names_twice (K : PySem.W.Frag) : TS := (tRet (tOp rNe (tLenSetS K (tLc (iList K (tVar 0)) (gName 1) tYes (tOp (rIxT K) (tVar 1) (tC (.int 0))) [1])) (tCB (rLenL K) (tCons (tVar 0) tNil))))
theorem w_has_names_twice {K : PySem.W.Frag} (vs : List V) (H : Hp) (Q : VK) (E : XK) (h : sp_has_names_twice K vs H Q E) : t_has_names_twice K { nx := fun _ H' => Q .non H', rt := Q } (start N_has_names_twice vs) H := by
  obtain ⟨F0, cs, boxes_1, y, h, hS0, m, q⟩ := h
  obtain ⟨a0, _, rfl, ha0, h⟩ := Dts.hd h
  obtain rfl := Dts.no h
  unfold f_has_names_twice at m
  try dsimp only at m
  unfold t_has_names_twice
  refine go (σ' := [some a0, none]) rfl ?_
  obtain ⟨x13, k14, m⟩ := bnd m
  obtain ⟨x15, k16, m⟩ := bnd m
  refine s_ret (K := K) (d := eB (!decide (x15 = (boxes_1.length : Int)))) hS0 (d_neI (d_setLen (EvC.dd (c_mapC (K := K) (f := (fun box_2 => box_2.1)) (em := eS) (i_list (en := (eT3 eS eI eI)) (d_var rfl ha0)) k14 (fun box_2 o9 v10 F3 p4 us5 g6 hv7 ho8 => by obtain rfl := sm ho8; exact ⟨[some a0, some v10], fun H12 Q hS11 hq => (fun Q hq => hq) Q hq, rfl, t_yes, fun y hy => by obtain rfl := sm hy; exact (d_ixT (d_var rfl hv7) d_int rfl)⟩))) k16) (d_len (e := (eT3 eS eI eI)) (a_cons (d_var rfl ha0) a_nil))) (fun v21 F17 H18 g19 hS20 hv22 => ?_)
  obtain rfl := sm m
  exact q _ _ _ g19 hS20 hv22
theorem sc_has_names_twice : FnScope N_has_names_twice ["boxes"] (defScope s_has_names_twice) := ⟨rfl, rfl, rfl, by decide +kernel, rfl, by decide +kernel, by decide +kernel⟩
theorem ok_has_names_twice {P : Program} {w : World} {K : PySem.W.Frag} {mg : Str → Option Value} {base : Heap} (hF : Df K mg "has_names_twice" s_has_names_twice) (m_len : mg "len" = none) (m_set : mg "set" = none) : Ok P w K mg base 1 "has_names_twice" ["boxes"] (sp_has_names_twice K) := by
  obtain ⟨⟨fd, F⟩, gm⟩ := hF
  refine ⟨⟨fd, F.ok sc_has_names_twice (fun vs H Q E h => ?_) (fun cdv A outer s H vs Q E hr h => ⟨t_has_names_twice K, PSs.nox ?_, w_has_names_twice vs H Q E h⟩), F.bindsN fun _ _ _ _ _ _ us hl => match us, hl with | [_], _ => rfl, lk_of F⟩, F.kp, gm⟩
  · obtain ⟨F0, cs, x, y, h, _⟩ := h; exact Dts.len h
  · exact (pss_one (ps_ret (pe_cmpR op_ne (pe_lenSetS rfl (by rfl) m_len (by rfl) m_set (pe_lc (own := [("box", 1)]) (g := (gName 1)) (tt := tYes) (te := (tOp (rIxT K) (tVar 1) (tC (.int 0)))) (by rfl) sc_has_names_twice.nd (pi_list (pv 0)) (blkOk_by (own := [("box", 1)]) (N := N_has_names_twice) (sc := defScope s_has_names_twice) (by decide +kernel)) (fun _ _ _ _ _ => (pg_name (i := 1) sc_has_names_twice.nd rfl (Or.inl rfl))) (fun _ _ _ _ _ => pts_nil) (fun _ _ _ _ _ => (pe_ix ix_tup (pv 1) pe_int (fun _ _ => rfl))))) (pe_callB cr_lenL (by rfl) m_len PySem.boot_len (pa_cons (pv 0) pa_nil)) (nomark _))))
abbrev s_has_room_D : Stmt := (top 33)
def f_has_room_D_b6 (boxes_2 : PyData) (place_3 : Int) : Unit → (Int × PyData) → Option (Fl Unit Bool) := fun _ (bay_9, room_10) => (((asLD boxes_2)).bind fun x37 => ((lcC (fun box_39 => (((ixD box_39 place_3)).bind fun x50 => ((eqDM x50 (eI bay_9))).bind fun x52 => if (x52) = true then (some (some box_39)) else some none)) x37)).bind fun x54 => ((asI room_10)).bind fun x56 => (if (decide (x56 < (x54.length : Int))) = true then some (Fl.rt false) else some (Fl.nx ())))
def f_has_room_D : (PyData × PyData × Int) → Option Bool := fun (rooms_1, boxes_2, place_3) => (((asLD rooms_1)).bind fun x4 => (forF (f_has_room_D_b6 boxes_2 place_3) (enumM x4) ()).bind fun r7 => match r7 with | .nx _ => some true | .br _ => none | .rt z88 => some z88)
abbrev A_has_room_D : (PyData × PyData × Int) → List PyData := fun x => [eD x.1, eD x.2.1, eI x.2.2]
abbrev N_has_room_D : List Str := ["rooms", "boxes", "place", "bay", "room", "box"]
abbrev sp_has_room_D (K : PySem.W.Frag) : Sp := spP K A_has_room_D eB f_has_room_D
def t_has_room_D (K : PySem.W.Frag) : TS := (tSeq (tFor (iEnum K (tCons (tVar 0) tNil)) (gTup K 2 (gCons (gName 3) (gCons (gName 4) gNil))) (tIfS (tTest (tOp (rI0 fun i j => .bl (decide (j < i))) (tCB (rLenL K) (tCons (tLc (iList K (tVar 1)) (gName 5) (tTest (tOp (rEqD K) (tOp (rIx K) (tVar 5) (tVar 2)) (tVar 3))) (tVar 5) [5]) tNil)) (tVar 4))) (tRet (tC (.bl false))) tNext)) (tRet (tC (.bl true))))
theorem w_has_room_D {K : PySem.W.Frag} (vs : List V) (H : Hp) (Q : VK) (E : XK) (h : sp_has_room_D K vs H Q E) : t_has_room_D K { nx := fun _ H' => Q .non H', rt := Q } (start N_has_room_D vs) H := by
  obtain ⟨F0, cs, ⟨rooms_1, boxes_2, place_3⟩, y, h, hS0, m, q⟩ := h
  obtain ⟨a0, _, rfl, ha0, h⟩ := Dts.hd h
  obtain ⟨a1, _, rfl, ha1, h⟩ := Dts.hd h
  obtain ⟨a2, _, rfl, ha2, h⟩ := Dts.hd h
  obtain rfl := Dts.no h
  obtain rfl := Dt.toInt ha2
  unfold f_has_room_D at m
  try dsimp only at m
  unfold t_has_room_D
  refine go (σ' := [some a0, some a1, some (.int place_3), none, none, none]) rfl ?_
  obtain ⟨x4, k5, m⟩ := bnd m
  obtain ⟨r7, k8, m⟩ := bnd m
  refine s_forF (K := K) (xs := (enumM x4)) (en := (eT2 eI eD)) (body := (f_has_room_D_b6 boxes_2 place_3)) (s0 := ()) (r := r7) (fun (a : Unit) F σ c => ∃ (j3 : Option V) (j4 : Option V) (j5 : Option V), σ = [some a0, some a1, some (.int place_3), j3, j4, j5] ∧ cs = c) hS0 (i_enum (en := eD) (a_cons (d_is (d_var rfl ha0) (ck_LD _ _ k5)) a_nil)) (fun _ _ => ⟨_, _, _, rfl, rfl⟩) k8 ?_ ?_
  · rintro ⟨⟩ F73 σ78 c77 H74 hz89 g75 hS76 ⟨u79, u80, u81, rfl, rfl⟩
    rcases hz89.symm with rfl | rfl
    · cases (show (none : Option _) = some _ from m)
    try dsimp only at m
    refine s_ret (K := K) (d := eB true) hS76 d_bl (fun v86 F82 H83 g84 hS85 hv87 => ?_)
    obtain rfl := sm m
    exact q _ _ _ (Gr.tr g75 g84) hS85 hv87
  · rintro ⟨bay_9, room_10⟩ ⟨⟩ b19 F11 F12 σ25 c26 H13 v18 N20 B21 g14 ⟨u28, u29, u30, rfl, rfl⟩ g15 hS16 hv17 m27 hN22 hB23 hR24
    obtain ⟨p31, w33, w34, rfl, hT32, hw35, hw36⟩ := u2 hv17
    obtain rfl := Dt.toInt hw35
    refine tg (σ' := [some a0, some a1, some (.int place_3), some (.int bay_9), some w34, u30]) (fun Q hq => ⟨p31, [_, _], rfl, gr_T hS16.fr hT32, rfl, _, _, rfl, _, _, rfl, rfl, hq⟩) ?_
    unfold f_has_room_D_b6 at m27
    try dsimp only at m27
    obtain ⟨x37, k38, m27⟩ := bnd m27
    obtain ⟨x54, k55, m27⟩ := bnd m27
    obtain ⟨x56, k57, m27⟩ := bnd m27
    refine s_if (b := (decide (x56 < (x54.length : Int)))) hS16 (t_test (K := K) (d_gt (d_len (e := eD) (a_cons (EvC.dd (c_lcC (K := K) (f := (fun box_39 => (((ixD box_39 place_3)).bind fun x50 => ((eqDM x50 (eI bay_9))).bind fun x52 => if (x52) = true then (some (some box_39)) else some none))) (em := eD) (i_list (en := eD) (d_is (d_var rfl (Dt.gr (Gr.tr g14 g15) ha1)) (ck_LD _ _ k38))) k55 (fun box_39 o46 v47 F40 p41 us42 g43 hv44 ho45 => by obtain ⟨x50, k51, ho45⟩ := bnd ho45; obtain ⟨x52, k53, ho45⟩ := bnd ho45; by_cases hc : (x52) = true; (rw [if_pos hc] at ho45; obtain rfl := sm ho45; refine ⟨[some a0, some a1, some (.int place_3), some (.int bay_9), some w34, some v47], fun H49 Q hS48 hq => (fun Q hq => hq) Q hq, rfl, ?_, ?_⟩; (rw [show (some box_39).isSome = (x52) from hc.symm]; exact (t_test (K := K) (d_eqDM (d_ixD (d_var rfl hv44) (d_var rfl (.int _)) k51) (d_var rfl (.int _)) k53))); (intro y hy; obtain rfl := sm hy; exact (d_var rfl hv44))); (rw [if_neg hc] at ho45; obtain rfl := sm ho45; refine ⟨[some a0, some a1, some (.int place_3), some (.int bay_9), some w34, some v47], fun H49 Q hS48 hq => (fun Q hq => hq) Q hq, rfl, ?_, ?_⟩; (rw [show (none : Option PyData).isSome = (x52) from (bt hc).symm]; exact (t_test (K := K) (d_eqDM (d_ixD (d_var rfl hv44) (d_var rfl (.int _)) k51) (d_var rfl (.int _)) k53))); (intro y hy; cases hy))))) a_nil)) (d_is (d_var rfl hw36) (ck_I _ _ k57)))) (fun hc F58 H59 g60 hS61 => ?_) (fun hc F69 H70 g71 hS72 => ?_)
    · rw [if_pos hc] at m27
      refine s_ret (K := K) (d := eB false) hS61 d_bl (fun v66 F62 H63 g64 hS65 hv67 => ?_)
      obtain rfl := sm m27
      have hr68 := hR24 _ rfl
      subst hr68
      obtain rfl := sm m
      exact q _ _ _ (Gr.tr g14 (Gr.tr g15 (Gr.tr g60 g64))) hS65 hv67
    · rw [if_neg (bf hc)] at m27
      refine nxt ?_
      obtain rfl := sm m27
      exact hN22 _ _ _ _ _ rfl g71 hS72 ⟨_, _, _, rfl, rfl⟩
theorem sc_has_room_D : FnScope N_has_room_D ["rooms", "boxes", "place"] (defScope s_has_room_D) := ⟨rfl, rfl, rfl, by decide +kernel, rfl, by decide +kernel, by decide +kernel⟩
theorem ok_has_room_D {P : Program} {w : World} {K : PySem.W.Frag} {mg : Str → Option Value} {base : Heap} (hF : Df K mg "has_room" s_has_room_D) (m_enumerate : mg "enumerate" = none) (m_len : mg "len" = none) : Ok P w K mg base 1 "has_room" ["rooms", "boxes", "place"] (sp_has_room_D K) := by
  obtain ⟨⟨fd, F⟩, gm⟩ := hF
  refine ⟨⟨fd, F.ok sc_has_room_D (fun vs H Q E h => ?_) (fun cdv A outer s H vs Q E hr h => ⟨t_has_room_D K, PSs.nox ?_, w_has_room_D vs H Q E h⟩), F.bindsN fun _ _ _ _ _ _ us hl => match us, hl with | [_, _, _], _ => rfl, lk_of F⟩, F.kp, gm⟩
  · obtain ⟨F0, cs, x, y, h, _⟩ := h; exact Dts.len h
  · exact (pss_cons (ps_for PassesOwn.never rfl (pi_enum (by rfl) m_enumerate (pa_cons (pv 0) pa_nil)) (pg_tup rfl (pgs_cons (pg_name (i := 3) sc_has_room_D.nd rfl (Or.inr rfl)) (pgs_cons (pg_name (i := 4) sc_has_room_D.nd rfl (Or.inl rfl)) pgs_nil))) (pss_one (ps_if (pt_cmpR op_gt (pe_callB cr_lenL (by rfl) m_len PySem.boot_len (pa_cons (pe_lc (own := [("box", 5)]) (g := (gName 5)) (tt := (tTest (tOp (rEqD K) (tOp (rIx K) (tVar 5) (tVar 2)) (tVar 3)))) (te := (tVar 5)) (by rfl) sc_has_room_D.nd (pi_list (pv 1)) (blkOk_by (own := [("box", 5)]) (N := N_has_room_D) (sc := defScope s_has_room_D) (by decide +kernel)) (fun _ _ _ _ _ => (pg_name (i := 5) sc_has_room_D.nd rfl (Or.inl rfl))) (fun _ _ _ _ _ => (pts_one (pt_cmpR (op_eqD hr.units) (pe_ix ix_seq (pv 5) (pv 2) (fun _ _ => rfl)) (pv 3) (nomark _)))) (fun _ _ _ _ _ => (pv 5))) pa_nil)) (pv 4) (nomark _)) (pss_one (ps_ret pe_bl)) pss_nil))) (pss_one (ps_ret pe_bl)))
abbrev s_has_room : Stmt := (top 33)
def f_has_room_b4 (boxes_2 : (List (Str × Int × Int))) (place_3 : Int) : Unit → (Int × Int) → Option (Fl Unit Bool) := fun _ (bay_7, room_8) => (((lcC (fun box_35 => (((atI [eS box_35.1, eI box_35.2.1, eI box_35.2.2] place_3)).bind fun x46 => ((eqDM x46 (eI bay_7))).bind fun x48 => if (x48) = true then (some (some box_35)) else some none)) boxes_2)).bind fun x50 => (if (decide (room_8 < (x50.length : Int))) = true then some (Fl.rt false) else some (Fl.nx ())))
def f_has_room : ((List Int) × (List (Str × Int × Int)) × Int) → Option Bool := fun (rooms_1, boxes_2, place_3) => (forF (f_has_room_b4 boxes_2 place_3) (enumM rooms_1) ()).bind fun r5 => match r5 with | .nx _ => some true | .br _ => none | .rt z82 => some z82
abbrev A_has_room : ((List Int) × (List (Str × Int × Int)) × Int) → List PyData := fun x => [(eL eI) x.1, (eL (eT3 eS eI eI)) x.2.1, eI x.2.2]
abbrev N_has_room : List Str := ["rooms", "boxes", "place", "bay", "room", "box"]
abbrev sp_has_room (K : PySem.W.Frag) : Sp := spP K A_has_room eB f_has_room
def t_has_room (K : PySem.W.Frag) : TS := (tSeq (tFor (iEnum K (tCons (tVar 0) tNil)) (gTup K 2 (gCons (gName 3) (gCons (gName 4) gNil))) (tIfS (tTest (tOp (rI0 fun i j => .bl (decide (j < i))) (tCB (rLenL K) (tCons (tLc (iList K (tVar 1)) (gName 5) (tTest (tOp (rEqD K) (tOp (rIxT K) (tVar 5) (tVar 2)) (tVar 3))) (tVar 5) [5]) tNil)) (tVar 4))) (tRet (tC (.bl false))) tNext)) (tRet (tC (.bl true))))
theorem w_has_room {K : PySem.W.Frag} (vs : List V) (H : Hp) (Q : VK) (E : XK) (h : sp_has_room K vs H Q E) : t_has_room K { nx := fun _ H' => Q .non H', rt := Q } (start N_has_room vs) H := by
  obtain ⟨F0, cs, ⟨rooms_1, boxes_2, place_3⟩, y, h, hS0, m, q⟩ := h
  obtain ⟨a0, _, rfl, ha0, h⟩ := Dts.hd h
  obtain ⟨a1, _, rfl, ha1, h⟩ := Dts.hd h
  obtain ⟨a2, _, rfl, ha2, h⟩ := Dts.hd h
  obtain rfl := Dts.no h
  obtain rfl := Dt.toInt ha2
  unfold f_has_room at m
  try dsimp only at m
  unfold t_has_room
  refine go (σ' := [some a0, some a1, some (.int place_3), none, none, none]) rfl ?_
  obtain ⟨r5, k6, m⟩ := bnd m
  refine s_forF (K := K) (xs := (enumM rooms_1)) (en := (eT2 eI eI)) (body := (f_has_room_b4 boxes_2 place_3)) (s0 := ()) (r := r5) (fun (a : Unit) F σ c => ∃ (j3 : Option V) (j4 : Option V) (j5 : Option V), σ = [some a0, some a1, some (.int place_3), j3, j4, j5] ∧ cs = c) hS0 (i_enum (en := eI) (a_cons (d_var rfl ha0) a_nil)) (fun _ _ => ⟨_, _, _, rfl, rfl⟩) k6 ?_ ?_
  · rintro ⟨⟩ F67 σ72 c71 H68 hz83 g69 hS70 ⟨u73, u74, u75, rfl, rfl⟩
    rcases hz83.symm with rfl | rfl
    · cases (show (none : Option _) = some _ from m)
    try dsimp only at m
    refine s_ret (K := K) (d := eB true) hS70 d_bl (fun v80 F76 H77 g78 hS79 hv81 => ?_)
    obtain rfl := sm m
    exact q _ _ _ (Gr.tr g69 g78) hS79 hv81
  · rintro ⟨bay_7, room_8⟩ ⟨⟩ b17 F9 F10 σ23 c24 H11 v16 N18 B19 g12 ⟨u26, u27, u28, rfl, rfl⟩ g13 hS14 hv15 m25 hN20 hB21 hR22
    obtain ⟨p29, w31, w32, rfl, hT30, hw33, hw34⟩ := u2 hv15
    obtain rfl := Dt.toInt hw33
    obtain rfl := Dt.toInt hw34
    refine tg (σ' := [some a0, some a1, some (.int place_3), some (.int bay_7), some (.int room_8), u28]) (fun Q hq => ⟨p29, [_, _], rfl, gr_T hS14.fr hT30, rfl, _, _, rfl, _, _, rfl, rfl, hq⟩) ?_
    unfold f_has_room_b4 at m25
    try dsimp only at m25
    obtain ⟨x50, k51, m25⟩ := bnd m25
    refine s_if (b := (decide (room_8 < (x50.length : Int)))) hS14 (t_test (K := K) (d_gt (d_len (e := (eT3 eS eI eI)) (a_cons (EvC.dd (c_lcC (K := K) (f := (fun box_35 => (((atI [eS box_35.1, eI box_35.2.1, eI box_35.2.2] place_3)).bind fun x46 => ((eqDM x46 (eI bay_7))).bind fun x48 => if (x48) = true then (some (some box_35)) else some none))) (em := (eT3 eS eI eI)) (i_list (en := (eT3 eS eI eI)) (d_var rfl (Dt.gr (Gr.tr g12 g13) ha1))) k51 (fun box_35 o42 v43 F36 p37 us38 g39 hv40 ho41 => by obtain ⟨x46, k47, ho41⟩ := bnd ho41; obtain ⟨x48, k49, ho41⟩ := bnd ho41; by_cases hc : (x48) = true; (rw [if_pos hc] at ho41; obtain rfl := sm ho41; refine ⟨[some a0, some a1, some (.int place_3), some (.int bay_7), some (.int room_8), some v43], fun H45 Q hS44 hq => (fun Q hq => hq) Q hq, rfl, ?_, ?_⟩; (rw [show (some box_35).isSome = (x48) from hc.symm]; exact (t_test (K := K) (d_eqDM (d_ixT (d_var rfl hv40) (d_var rfl (.int _)) k47) (d_var rfl (.int _)) k49))); (intro y hy; obtain rfl := sm hy; exact (d_var rfl hv40))); (rw [if_neg hc] at ho41; obtain rfl := sm ho41; refine ⟨[some a0, some a1, some (.int place_3), some (.int bay_7), some (.int room_8), some v43], fun H45 Q hS44 hq => (fun Q hq => hq) Q hq, rfl, ?_, ?_⟩; (rw [show (none : Option (Str × Int × Int)).isSome = (x48) from (bt hc).symm]; exact (t_test (K := K) (d_eqDM (d_ixT (d_var rfl hv40) (d_var rfl (.int _)) k47) (d_var rfl (.int _)) k49))); (intro y hy; cases hy))))) a_nil)) (d_var rfl (.int _)))) (fun hc F52 H53 g54 hS55 => ?_) (fun hc F63 H64 g65 hS66 => ?_)
    · rw [if_pos hc] at m25
      refine s_ret (K := K) (d := eB false) hS55 d_bl (fun v60 F56 H57 g58 hS59 hv61 => ?_)
      obtain rfl := sm m25
      have hr62 := hR22 _ rfl
      subst hr62
      obtain rfl := sm m
      exact q _ _ _ (Gr.tr g12 (Gr.tr g13 (Gr.tr g54 g58))) hS59 hv61
    · rw [if_neg (bf hc)] at m25
      refine nxt ?_
      obtain rfl := sm m25
      exact hN20 _ _ _ _ _ rfl g65 hS66 ⟨_, _, _, rfl, rfl⟩
theorem sc_has_room : FnScope N_has_room ["rooms", "boxes", "place"] (defScope s_has_room) := ⟨rfl, rfl, rfl, by decide +kernel, rfl, by decide +kernel, by decide +kernel⟩
theorem ok_has_room {P : Program} {w : World} {K : PySem.W.Frag} {mg : Str → Option Value} {base : Heap} (hF : Df K mg "has_room" s_has_room) (m_enumerate : mg "enumerate" = none) (m_len : mg "len" = none) : Ok P w K mg base 1 "has_room" ["rooms", "boxes", "place"] (sp_has_room K) := by
  obtain ⟨⟨fd, F⟩, gm⟩ := hF
  refine ⟨⟨fd, F.ok sc_has_room (fun vs H Q E h => ?_) (fun cdv A outer s H vs Q E hr h => ⟨t_has_room K, PSs.nox ?_, w_has_room vs H Q E h⟩), F.bindsN fun _ _ _ _ _ _ us hl => match us, hl with | [_, _, _], _ => rfl, lk_of F⟩, F.kp, gm⟩
  · obtain ⟨F0, cs, x, y, h, _⟩ := h; exact Dts.len h
  · exact (pss_cons (ps_for PassesOwn.never rfl (pi_enum (by rfl) m_enumerate (pa_cons (pv 0) pa_nil)) (pg_tup rfl (pgs_cons (pg_name (i := 3) sc_has_room.nd rfl (Or.inr rfl)) (pgs_cons (pg_name (i := 4) sc_has_room.nd rfl (Or.inl rfl)) pgs_nil))) (pss_one (ps_if (pt_cmpR op_gt (pe_callB cr_lenL (by rfl) m_len PySem.boot_len (pa_cons (pe_lc (own := [("box", 5)]) (g := (gName 5)) (tt := (tTest (tOp (rEqD K) (tOp (rIxT K) (tVar 5) (tVar 2)) (tVar 3)))) (te := (tVar 5)) (by rfl) sc_has_room.nd (pi_list (pv 1)) (blkOk_by (own := [("box", 5)]) (N := N_has_room) (sc := defScope s_has_room) (by decide +kernel)) (fun _ _ _ _ _ => (pg_name (i := 5) sc_has_room.nd rfl (Or.inl rfl))) (fun _ _ _ _ _ => (pts_one (pt_cmpR (op_eqD hr.units) (pe_ix ix_tup (pv 5) (pv 2) (fun _ _ => rfl)) (pv 3) (nomark _)))) (fun _ _ _ _ _ => (pv 5))) pa_nil)) (pv 4) (nomark _)) (pss_one (ps_ret pe_bl)) pss_nil))) (pss_one (ps_ret pe_bl)))
abbrev s_is_name_D : Stmt := (top 22)
def f_is_name_D : PyData → Option Bool := fun thing_1 => (((if (!(isiD "str" thing_1)) = true then some true else (((lenD thing_1)).bind fun x2 => some (!(decide ((1 : Int) ≤ x2) && decide (x2 ≤ (8 : Int))))))).bind fun x4 => (if x4 = true then some false else (((asS thing_1)).bind fun x20 => ((mapC (fun sign_22 => (inS sign_22 ("abcdefghijklmnopqrstuvwxyz" : Str))) (signs x20))).bind fun x33 => some ((x33).all id))))
abbrev A_is_name_D : PyData → List PyData := fun x => [eD x]
abbrev N_is_name_D : List Str := ["thing", "sign"]
abbrev sp_is_name_D (K : PySem.W.Frag) : Sp := spP K A_is_name_D eB f_is_name_D
def t_is_name_D (K : PySem.W.Frag) : TS := (tSeq (tIfS (tOr (tNot (tB (tCB (rIsi K) (tCons (tVar 0) (tCons (tC (.ty "str")) tNil))))) (tNot (tTest (tChain (rI0 fun i j => .bl (decide (i ≤ j))) (rI0 fun i j => .bl (decide (i ≤ j))) (tC (.int 1)) (tCB (rLenG K) (tCons (tVar 0) tNil)) (tC (.int 8)))))) (tRet (tC (.bl false))) tNext) (tRet (tCB (rAll K) (tCons (tLc (iStr (tVar 0)) (gName 1) tYes (tOp rInS (tVar 1) (tC (.str "abcdefghijklmnopqrstuvwxyz"))) [1]) tNil))))
theorem w_is_name_D {K : PySem.W.Frag} (vs : List V) (H : Hp) (Q : VK) (E : XK) (h : sp_is_name_D K vs H Q E) : t_is_name_D K { nx := fun _ H' => Q .non H', rt := Q } (start N_is_name_D vs) H := by
  obtain ⟨F0, cs, thing_1, y, h, hS0, m, q⟩ := h
  obtain ⟨a0, _, rfl, ha0, h⟩ := Dts.hd h
  obtain rfl := Dts.no h
  unfold f_is_name_D at m
  try dsimp only at m
  unfold t_is_name_D
  refine go (σ' := [some a0, none]) rfl ?_
  obtain ⟨x4, k5, m⟩ := bnd m
  refine s_if (b := x4) hS0 (t_orM (r := x4) (t_not (t_B (K := K) (d_isiD (c := "str") (by decide) (d_var rfl ha0)))) (fun hc => by rw [if_neg (bf hc)] at k5; obtain ⟨x2, k3, k5⟩ := bnd k5; obtain rfl := sm k5; exact (t_not (t_test (K := K) (d_chain d_int (d_lenD (a_cons (d_var rfl ha0) a_nil) k3) d_int)))) (fun hc => by rw [if_pos hc] at k5; exact (sm k5).symm)) (fun hc F6 H7 g8 hS9 => ?_) (fun hc F16 H17 g18 hS19 => ?_)
  · rw [if_pos hc] at m
    refine s_ret (K := K) (d := eB false) hS9 d_bl (fun v14 F10 H11 g12 hS13 hv15 => ?_)
    obtain rfl := sm m
    exact q _ _ _ (Gr.tr g8 g12) hS13 hv15
  · rw [if_neg (bf hc)] at m
    refine nxt ?_
    obtain ⟨x20, k21, m⟩ := bnd m
    obtain ⟨x33, k34, m⟩ := bnd m
    refine s_ret (K := K) (d := eB ((x33).all id)) hS19 (d_all (a_cons (EvC.dd (c_mapC (K := K) (f := (fun sign_22 => (inS sign_22 ("abcdefghijklmnopqrstuvwxyz" : Str)))) (em := eB) (i_str (d_is (d_var rfl (Dt.gr g18 ha0)) (ck_S _ _ k21))) k34 (fun sign_22 o29 v30 F23 p24 us25 g26 hv27 ho28 => by obtain rfl := Dt.toStr hv27; obtain rfl := sm ho28; exact ⟨[some a0, some (.str sign_22)], fun H32 Q hS31 hq => (fun Q hq => hq) Q hq, rfl, t_yes, fun y hy => by obtain rfl := sm hy; exact (d_inS (d_var rfl (.str _)) d_str)⟩))) a_nil)) (fun v39 F35 H36 g37 hS38 hv40 => ?_)
    obtain rfl := sm m
    exact q _ _ _ (Gr.tr g18 g37) hS38 hv40
theorem sc_is_name_D : FnScope N_is_name_D ["thing"] (defScope s_is_name_D) := ⟨rfl, rfl, rfl, by decide +kernel, rfl, by decide +kernel, by decide +kernel⟩
theorem ok_is_name_D {P : Program} {w : World} {K : PySem.W.Frag} {mg : Str → Option Value} {base : Heap} (hF : Df K mg "is_name" s_is_name_D) (m_all : mg "all" = none) (m_isinstance : mg "isinstance" = none) (m_len : mg "len" = none) (m_str : mg "str" = none) (c_LETTERS : ∃ t, mg "LETTERS" = some (.str "abcdefghijklmnopqrstuvwxyz" t)) (c_LONGEST : ∃ t, mg "LONGEST" = some (.int 8 t)) : Ok P w K mg base 1 "is_name" ["thing"] (sp_is_name_D K) := by
  obtain ⟨_, c_LETTERS⟩ := c_LETTERS
  obtain ⟨_, c_LONGEST⟩ := c_LONGEST
  obtain ⟨⟨fd, F⟩, gm⟩ := hF
  refine ⟨⟨fd, F.ok sc_is_name_D (fun vs H Q E h => ?_) (fun cdv A outer s H vs Q E hr h => ⟨t_is_name_D K, PSs.nox ?_, w_is_name_D vs H Q E h⟩), F.bindsN fun _ _ _ _ _ _ us hl => match us, hl with | [_], _ => rfl, lk_of F⟩, F.kp, gm⟩
  · obtain ⟨F0, cs, x, y, h, _⟩ := h; exact Dts.len h
  · exact (pss_cons (ps_if (PW.pt (pw_or (pt_not (pt_val (pe_callB call_isi (by rfl) m_isinstance (by decide +kernel) (pa_cons (pv 0) (pa_cons (pe_bltn (v := .ty "str") (by rfl) m_str (by decide +kernel) rfl) pa_nil))))) (pw_or1 (pt_not (pt_chain op_le op_le pe_int (pe_callB cr_lenG (by rfl) m_len PySem.boot_len (pa_cons (pv 0) pa_nil)) (pe_glob (v := .int 8) (by rfl) c_LONGEST ⟨_, rfl⟩)))))) (pss_one (ps_ret pe_bl)) pss_nil) (pss_one (ps_ret (pe_callB (cr_all rfl) (by rfl) m_all (by decide +kernel) (pa_cons (pe_lc (own := [("sign", 1)]) (g := (gName 1)) (tt := tYes) (te := (tOp rInS (tVar 1) (tC (.str "abcdefghijklmnopqrstuvwxyz")))) (by rfl) sc_is_name_D.nd (pi_str (pv 0)) (blkOk_by (own := [("sign", 1)]) (N := N_is_name_D) (sc := defScope s_is_name_D) (by decide +kernel)) (fun _ _ _ _ _ => (pg_name (i := 1) sc_is_name_D.nd rfl (Or.inl rfl))) (fun _ _ _ _ _ => pts_nil) (fun _ _ _ _ _ => (pe_cmpR op_inR (pv 1) (pe_glob (v := .str "abcdefghijklmnopqrstuvwxyz") (by rfl) c_LETTERS ⟨_, rfl⟩) (by rfl)))) pa_nil)))))
abbrev s_is_name : Stmt := (top 22)
def f_is_name : Str → Option Bool := fun thing_1 => (((if (!true) = true then some true else (((lenS thing_1)).bind fun x2 => some (!(decide ((1 : Int) ≤ x2) && decide (x2 ≤ (8 : Int))))))).bind fun x4 => (if x4 = true then some false else (((mapC (fun sign_20 => (inS sign_20 ("abcdefghijklmnopqrstuvwxyz" : Str))) (signs thing_1))).bind fun x31 => some ((x31).all id))))
abbrev A_is_name : Str → List PyData := fun x => [eS x]
abbrev N_is_name : List Str := ["thing", "sign"]
abbrev sp_is_name (K : PySem.W.Frag) : Sp := spP K A_is_name eB f_is_name
def t_is_name (K : PySem.W.Frag) : TS := (tSeq (tIfS (tOr (tNot (tB (tCB (rIsi K) (tCons (tVar 0) (tCons (tC (.ty "str")) tNil))))) (tNot (tTest (tChain (rI0 fun i j => .bl (decide (i ≤ j))) (rI0 fun i j => .bl (decide (i ≤ j))) (tC (.int 1)) (tCB rLenS (tCons (tVar 0) tNil)) (tC (.int 8)))))) (tRet (tC (.bl false))) tNext) (tRet (tCB (rAll K) (tCons (tLc (iStr (tVar 0)) (gName 1) tYes (tOp rInS (tVar 1) (tC (.str "abcdefghijklmnopqrstuvwxyz"))) [1]) tNil))))
theorem w_is_name {K : PySem.W.Frag} (vs : List V) (H : Hp) (Q : VK) (E : XK) (h : sp_is_name K vs H Q E) : t_is_name K { nx := fun _ H' => Q .non H', rt := Q } (start N_is_name vs) H := by
  obtain ⟨F0, cs, thing_1, y, h, hS0, m, q⟩ := h
  obtain ⟨a0, _, rfl, ha0, h⟩ := Dts.hd h
  obtain rfl := Dts.no h
  obtain rfl := Dt.toStr ha0
  unfold f_is_name at m
  try dsimp only at m
  unfold t_is_name
  refine go (σ' := [some (.str thing_1), none]) rfl ?_
  obtain ⟨x4, k5, m⟩ := bnd m
  refine s_if (b := x4) hS0 (t_orM (r := x4) (t_not (t_B (K := K) (d_is (e := PyData.bool true) (d_isiD (c := "str") (by decide) (d_var rfl (.str _))) (congrArg PyData.bool (by rfl))))) (fun hc => by rw [if_neg (bf hc)] at k5; obtain ⟨x2, k3, k5⟩ := bnd k5; obtain rfl := sm k5; exact (t_not (t_test (K := K) (d_chain d_int (d_lenS (a_cons (d_var rfl (.str _)) a_nil) k3) d_int)))) (fun hc => by rw [if_pos hc] at k5; exact (sm k5).symm)) (fun hc F6 H7 g8 hS9 => ?_) (fun hc F16 H17 g18 hS19 => ?_)
  · rw [if_pos hc] at m
    refine s_ret (K := K) (d := eB false) hS9 d_bl (fun v14 F10 H11 g12 hS13 hv15 => ?_)
    obtain rfl := sm m
    exact q _ _ _ (Gr.tr g8 g12) hS13 hv15
  · rw [if_neg (bf hc)] at m
    refine nxt ?_
    obtain ⟨x31, k32, m⟩ := bnd m
    refine s_ret (K := K) (d := eB ((x31).all id)) hS19 (d_all (a_cons (EvC.dd (c_mapC (K := K) (f := (fun sign_20 => (inS sign_20 ("abcdefghijklmnopqrstuvwxyz" : Str)))) (em := eB) (i_str (d_var rfl (.str _))) k32 (fun sign_20 o27 v28 F21 p22 us23 g24 hv25 ho26 => by obtain rfl := Dt.toStr hv25; obtain rfl := sm ho26; exact ⟨[some (.str thing_1), some (.str sign_20)], fun H30 Q hS29 hq => (fun Q hq => hq) Q hq, rfl, t_yes, fun y hy => by obtain rfl := sm hy; exact (d_inS (d_var rfl (.str _)) d_str)⟩))) a_nil)) (fun v37 F33 H34 g35 hS36 hv38 => ?_)
    obtain rfl := sm m
    exact q _ _ _ (Gr.tr g18 g35) hS36 hv38
theorem sc_is_name : FnScope N_is_name ["thing"] (defScope s_is_name) := ⟨rfl, rfl, rfl, by decide +kernel, rfl, by decide +kernel, by decide +kernel⟩
theorem ok_is_name {P : Program} {w : World} {K : PySem.W.Frag} {mg : Str → Option Value} {base : Heap} (hF : Df K mg "is_name" s_is_name) (m_all : mg "all" = none) (m_isinstance : mg "isinstance" = none) (m_len : mg "len" = none) (m_str : mg "str" = none) (c_LETTERS : ∃ t, mg "LETTERS" = some (.str "abcdefghijklmnopqrstuvwxyz" t)) (c_LONGEST : ∃ t, mg "LONGEST" = some (.int 8 t)) : Ok P w K mg base 1 "is_name" ["thing"] (sp_is_name K) := by
  obtain ⟨_, c_LETTERS⟩ := c_LETTERS
  obtain ⟨_, c_LONGEST⟩ := c_LONGEST
  obtain ⟨⟨fd, F⟩, gm⟩ := hF
  refine ⟨⟨fd, F.ok sc_is_name (fun vs H Q E h => ?_) (fun cdv A outer s H vs Q E hr h => ⟨t_is_name K, PSs.nox ?_, w_is_name vs H Q E h⟩), F.bindsN fun _ _ _ _ _ _ us hl => match us, hl with | [_], _ => rfl, lk_of F⟩, F.kp, gm⟩
  · obtain ⟨F0, cs, x, y, h, _⟩ := h; exact Dts.len h
  · exact (pss_cons (ps_if (PW.pt (pw_or (pt_not (pt_val (pe_callB call_isi (by rfl) m_isinstance (by decide +kernel) (pa_cons (pv 0) (pa_cons (pe_bltn (v := .ty "str") (by rfl) m_str (by decide +kernel) rfl) pa_nil))))) (pw_or1 (pt_not (pt_chain op_le op_le pe_int (pe_callB cr_lenS (by rfl) m_len PySem.boot_len (pa_cons (pv 0) pa_nil)) (pe_glob (v := .int 8) (by rfl) c_LONGEST ⟨_, rfl⟩)))))) (pss_one (ps_ret pe_bl)) pss_nil) (pss_one (ps_ret (pe_callB (cr_all rfl) (by rfl) m_all (by decide +kernel) (pa_cons (pe_lc (own := [("sign", 1)]) (g := (gName 1)) (tt := tYes) (te := (tOp rInS (tVar 1) (tC (.str "abcdefghijklmnopqrstuvwxyz")))) (by rfl) sc_is_name.nd (pi_str (pv 0)) (blkOk_by (own := [("sign", 1)]) (N := N_is_name) (sc := defScope s_is_name) (by decide +kernel)) (fun _ _ _ _ _ => (pg_name (i := 1) sc_is_name.nd rfl (Or.inl rfl))) (fun _ _ _ _ _ => pts_nil) (fun _ _ _ _ _ => (pe_cmpR op_inR (pv 1) (pe_glob (v := .str "abcdefghijklmnopqrstuvwxyz") (by rfl) c_LETTERS ⟨_, rfl⟩) (by rfl)))) pa_nil)))))
abbrev s_is_box_D : Stmt := (top 31)
def f_is_box_D : (PyData × Int) → Option Bool := fun (thing_1, many_2) => (((if (!(isiD "tuple" thing_1)) = true then some true else (((lenD thing_1)).bind fun x3 => ((if (!decide (x3 = (3 : Int))) = true then some true else (((ixD thing_1 (0 : Int))).bind fun x5 => ((f_is_name_D x5)).bind fun x7 => some (!x7)))).bind fun x9 => some x9))).bind fun x11 => (if x11 = true then some false else (((ixD thing_1 (1 : Int))).bind fun x27 => ((f_is_within_D (x27, (0 : Int), (many_2 - (1 : Int))))).bind fun x29 => ((if x29 = true then (((ixD thing_1 (2 : Int))).bind fun x31 => ((f_is_within_D (x31, (0 : Int), (many_2 - (1 : Int))))).bind fun x33 => some x33) else some false)).bind fun x35 => some x35)))
abbrev A_is_box_D : (PyData × Int) → List PyData := fun x => [eD x.1, eI x.2]
abbrev N_is_box_D : List Str := ["thing", "many"]
abbrev sp_is_box_D (K : PySem.W.Frag) : Sp := spP K A_is_box_D eB f_is_box_D
def t_is_box_D (K : PySem.W.Frag) : TS := (tSeq (tIfS (tOr (tNot (tB (tCB (rIsi K) (tCons (tVar 0) (tCons (tC (.ty "tuple")) tNil))))) (tOr (tTest (tOp rNe (tCB (rLenG K) (tCons (tVar 0) tNil)) (tC (.int 3)))) (tNot (tB (tCall (sp_is_name_D K) [] E0 (tCons (tOp (rIx K) (tVar 0) (tC (.int 0))) tNil)))))) (tRet (tC (.bl false))) tNext) (tRet (tAndV (tCall (sp_is_within_D K) [] E0 (tCons (tOp (rIx K) (tVar 0) (tC (.int 1))) (tCons (tC (.int 0)) (tCons (tOp (rI0 fun i j => .int (i - j)) (tVar 1) (tC (.int 1))) tNil)))) (tCall (sp_is_within_D K) [] E0 (tCons (tOp (rIx K) (tVar 0) (tC (.int 2))) (tCons (tC (.int 0)) (tCons (tOp (rI0 fun i j => .int (i - j)) (tVar 1) (tC (.int 1))) tNil)))))))
theorem w_is_box_D {K : PySem.W.Frag} (vs : List V) (H : Hp) (Q : VK) (E : XK) (h : sp_is_box_D K vs H Q E) : t_is_box_D K { nx := fun _ H' => Q .non H', rt := Q } (start N_is_box_D vs) H := by
  obtain ⟨F0, cs, ⟨thing_1, many_2⟩, y, h, hS0, m, q⟩ := h
  obtain ⟨a0, _, rfl, ha0, h⟩ := Dts.hd h
  obtain ⟨a1, _, rfl, ha1, h⟩ := Dts.hd h
  obtain rfl := Dts.no h
  obtain rfl := Dt.toInt ha1
  unfold f_is_box_D at m
  try dsimp only at m
  unfold t_is_box_D
  refine go (σ' := [some a0, some (.int many_2)]) rfl ?_
  obtain ⟨x11, k12, m⟩ := bnd m
  refine s_if (b := x11) hS0 (t_orM (r := x11) (t_not (t_B (K := K) (d_isiD (c := "tuple") (by decide) (d_var rfl ha0)))) (fun hc => by rw [if_neg (bf hc)] at k12; obtain ⟨x3, k4, k12⟩ := bnd k12; obtain ⟨x9, k10, k12⟩ := bnd k12; obtain rfl := sm k12; exact (t_orM (r := x9) (t_test (K := K) (d_neI (d_lenD (a_cons (d_var rfl ha0) a_nil) k4) d_int)) (fun hc => by rw [if_neg (bf hc)] at k10; obtain ⟨x5, k6, k10⟩ := bnd k10; obtain ⟨x7, k8, k10⟩ := bnd k10; obtain rfl := sm k10; exact (t_not (t_B (K := K) (d_call (A := A_is_name_D) (B := eB) (x := x5) (a_cons (d_ixD (d_var rfl ha0) d_int k6) a_nil) k8)))) (fun hc => by rw [if_pos hc] at k10; exact (sm k10).symm))) (fun hc => by rw [if_pos hc] at k12; exact (sm k12).symm)) (fun hc F13 H14 g15 hS16 => ?_) (fun hc F23 H24 g25 hS26 => ?_)
  · rw [if_pos hc] at m
    refine s_ret (K := K) (d := eB false) hS16 d_bl (fun v21 F17 H18 g19 hS20 hv22 => ?_)
    obtain rfl := sm m
    exact q _ _ _ (Gr.tr g15 g19) hS20 hv22
  · rw [if_neg (bf hc)] at m
    refine nxt ?_
    obtain ⟨x27, k28, m⟩ := bnd m
    obtain ⟨x29, k30, m⟩ := bnd m
    obtain ⟨x35, k36, m⟩ := bnd m
    refine s_ret (K := K) (d := eB x35) hS26 (d_andM (r := x35) (d_call (A := A_is_within_D) (B := eB) (x := (x27, (0 : Int), (many_2 - (1 : Int)))) (a_cons (d_ixD (d_var rfl (Dt.gr g25 ha0)) d_int k28) (a_cons d_int (a_cons (d_sub (d_var rfl (.int _)) d_int) a_nil))) k30) (fun hc => by rw [if_pos hc] at k36; obtain ⟨x31, k32, k36⟩ := bnd k36; obtain ⟨x33, k34, k36⟩ := bnd k36; obtain rfl := sm k36; exact (d_call (A := A_is_within_D) (B := eB) (x := (x31, (0 : Int), (many_2 - (1 : Int)))) (a_cons (d_ixD (d_var rfl (Dt.gr g25 ha0)) d_int k32) (a_cons d_int (a_cons (d_sub (d_var rfl (.int _)) d_int) a_nil))) k34)) (fun hc => by rw [if_neg (bf hc)] at k36; exact (sm k36).symm)) (fun v41 F37 H38 g39 hS40 hv42 => ?_)
    obtain rfl := sm m
    exact q _ _ _ (Gr.tr g25 g39) hS40 hv42
theorem sc_is_box_D : FnScope N_is_box_D ["thing", "many"] (defScope s_is_box_D) := ⟨rfl, rfl, rfl, by decide +kernel, rfl, by decide +kernel, by decide +kernel⟩
theorem ok_is_box_D {P : Program} {w : World} {K : PySem.W.Frag} {mg : Str → Option Value} {base : Heap} (hF : Df K mg "is_box" s_is_box_D) (m_isinstance : mg "isinstance" = none) (m_len : mg "len" = none) (m_tuple : mg "tuple" = none) (o_is_within_D : Ok P w K mg base 2 "is_within" ["thing", "least", "greatest"] (sp_is_within_D K)) (o_is_name_D : Ok P w K mg base 1 "is_name" ["thing"] (sp_is_name_D K)) : Ok P w K mg base 3 "is_box" ["thing", "many"] (sp_is_box_D K) := by
  obtain ⟨⟨_, G_is_within_D, bd_is_within_D, _⟩, kp_is_within_D, gm_is_within_D⟩ := o_is_within_D
  obtain ⟨⟨_, G_is_name_D, bd_is_name_D, _⟩, kp_is_name_D, gm_is_name_D⟩ := o_is_name_D
  obtain ⟨⟨fd, F⟩, gm⟩ := hF
  refine ⟨⟨fd, F.ok sc_is_box_D (fun vs H Q E h => ?_) (fun cdv A outer s H vs Q E hr h => ⟨t_is_box_D K, PSs.nox ?_, w_is_box_D vs H Q E h⟩), F.bindsN fun _ _ _ _ _ _ us hl => match us, hl with | [_, _], _ => rfl, lk_of F⟩, F.kp, gm⟩
  · obtain ⟨F0, cs, x, y, h, _⟩ := h; exact Dts.len h
  · exact (pss_cons (ps_if (PW.pt (pw_or (pt_not (pt_val (pe_callB call_isi (by rfl) m_isinstance (by decide +kernel) (pa_cons (pv 0) (pa_cons (pe_bltn (v := .ty "tuple") (by rfl) m_tuple (by decide +kernel) rfl) pa_nil))))) (pw_or (pt_cmpR op_ne (pe_callB cr_lenG (by rfl) m_len PySem.boot_len (pa_cons (pv 0) pa_nil)) pe_int (nomark _)) (pw_or1 (pt_not (pt_val (pe_call G_is_name_D (hr.mono (by decide)) (by rfl) gm_is_name_D kp_is_name_D bd_is_name_D .nil pass0 (pa_cons (pe_ix ix_seq (pv 0) pe_int (fun _ _ => rfl)) pa_nil)))))))) (pss_one (ps_ret pe_bl)) pss_nil) (pss_one (ps_ret (pe_and (pe_call G_is_within_D (hr.mono (by decide)) (by rfl) gm_is_within_D kp_is_within_D bd_is_within_D .nil pass0 (pa_cons (pe_ix ix_seq (pv 0) pe_int (fun _ _ => rfl)) (pa_cons pe_int (pa_cons (pe_op op_sub (pv 1) pe_int) pa_nil)))) (pe_one (pe_call G_is_within_D (hr.mono (by decide)) (by rfl) gm_is_within_D kp_is_within_D bd_is_within_D .nil pass0 (pa_cons (pe_ix ix_seq (pv 0) pe_int (fun _ _ => rfl)) (pa_cons pe_int (pa_cons (pe_op op_sub (pv 1) pe_int) pa_nil)))))))))
abbrev s_is_box : Stmt := (top 31)
def f_is_box : ((Str × Int × Int) × Int) → Option Bool := fun (thing_1, many_2) => (((if (!true) = true then some true else (((if (!decide ((3 : Int) = (3 : Int))) = true then some true else (((f_is_name thing_1.1)).bind fun x3 => some (!x3)))).bind fun x5 => some x5))).bind fun x7 => (if x7 = true then some false else (((f_is_within (thing_1.2.1, (0 : Int), (many_2 - (1 : Int))))).bind fun x23 => ((if x23 = true then (((f_is_within (thing_1.2.2, (0 : Int), (many_2 - (1 : Int))))).bind fun x25 => some x25) else some false)).bind fun x27 => some x27)))
abbrev A_is_box : ((Str × Int × Int) × Int) → List PyData := fun x => [(eT3 eS eI eI) x.1, eI x.2]
abbrev N_is_box : List Str := ["thing", "many"]
abbrev sp_is_box (K : PySem.W.Frag) : Sp := spP K A_is_box eB f_is_box
def t_is_box (K : PySem.W.Frag) : TS := (tSeq (tIfS (tOr (tNot (tB (tCB (rIsi K) (tCons (tVar 0) (tCons (tC (.ty "tuple")) tNil))))) (tOr (tTest (tOp rNe (tCB (rLenL K) (tCons (tVar 0) tNil)) (tC (.int 3)))) (tNot (tB (tCall (sp_is_name K) [] E0 (tCons (tOp (rIxT K) (tVar 0) (tC (.int 0))) tNil)))))) (tRet (tC (.bl false))) tNext) (tRet (tAndV (tCall (sp_is_within K) [] E0 (tCons (tOp (rIxT K) (tVar 0) (tC (.int 1))) (tCons (tC (.int 0)) (tCons (tOp (rI0 fun i j => .int (i - j)) (tVar 1) (tC (.int 1))) tNil)))) (tCall (sp_is_within K) [] E0 (tCons (tOp (rIxT K) (tVar 0) (tC (.int 2))) (tCons (tC (.int 0)) (tCons (tOp (rI0 fun i j => .int (i - j)) (tVar 1) (tC (.int 1))) tNil)))))))
theorem w_is_box {K : PySem.W.Frag} (vs : List V) (H : Hp) (Q : VK) (E : XK) (h : sp_is_box K vs H Q E) : t_is_box K { nx := fun _ H' => Q .non H', rt := Q } (start N_is_box vs) H := by
  obtain ⟨F0, cs, ⟨thing_1, many_2⟩, y, h, hS0, m, q⟩ := h
  obtain ⟨a0, _, rfl, ha0, h⟩ := Dts.hd h
  obtain ⟨a1, _, rfl, ha1, h⟩ := Dts.hd h
  obtain rfl := Dts.no h
  obtain rfl := Dt.toInt ha1
  unfold f_is_box at m
  try dsimp only at m
  unfold t_is_box
  refine go (σ' := [some a0, some (.int many_2)]) rfl ?_
  obtain ⟨x7, k8, m⟩ := bnd m
  refine s_if (b := x7) hS0 (t_orM (r := x7) (t_not (t_B (K := K) (d_is (e := PyData.bool true) (d_isiD (c := "tuple") (by decide) (d_var rfl ha0)) (congrArg PyData.bool (by rfl))))) (fun hc => by rw [if_neg (bf hc)] at k8; obtain ⟨x5, k6, k8⟩ := bnd k8; obtain rfl := sm k8; exact (t_orM (r := x5) (t_test (K := K) (d_neI (d_is (e := PyData.int 3) (d_lenT (a_cons (d_var rfl ha0) a_nil)) (congrArg PyData.int (by rfl))) d_int)) (fun hc => by rw [if_neg (bf hc)] at k6; obtain ⟨x3, k4, k6⟩ := bnd k6; obtain rfl := sm k6; exact (t_not (t_B (K := K) (d_call (A := A_is_name) (B := eB) (x := thing_1.1) (a_cons (d_ixT (d_var rfl ha0) d_int rfl) a_nil) k4)))) (fun hc => by rw [if_pos hc] at k6; exact (sm k6).symm))) (fun hc => by rw [if_pos hc] at k8; exact (sm k8).symm)) (fun hc F9 H10 g11 hS12 => ?_) (fun hc F19 H20 g21 hS22 => ?_)
  · rw [if_pos hc] at m
    refine s_ret (K := K) (d := eB false) hS12 d_bl (fun v17 F13 H14 g15 hS16 hv18 => ?_)
    obtain rfl := sm m
    exact q _ _ _ (Gr.tr g11 g15) hS16 hv18
  · rw [if_neg (bf hc)] at m
    refine nxt ?_
    obtain ⟨x23, k24, m⟩ := bnd m
    obtain ⟨x27, k28, m⟩ := bnd m
    refine s_ret (K := K) (d := eB x27) hS22 (d_andM (r := x27) (d_call (A := A_is_within) (B := eB) (x := (thing_1.2.1, (0 : Int), (many_2 - (1 : Int)))) (a_cons (d_ixT (d_var rfl (Dt.gr g21 ha0)) d_int rfl) (a_cons d_int (a_cons (d_sub (d_var rfl (.int _)) d_int) a_nil))) k24) (fun hc => by rw [if_pos hc] at k28; obtain ⟨x25, k26, k28⟩ := bnd k28; obtain rfl := sm k28; exact (d_call (A := A_is_within) (B := eB) (x := (thing_1.2.2, (0 : Int), (many_2 - (1 : Int)))) (a_cons (d_ixT (d_var rfl (Dt.gr g21 ha0)) d_int rfl) (a_cons d_int (a_cons (d_sub (d_var rfl (.int _)) d_int) a_nil))) k26)) (fun hc => by rw [if_neg (bf hc)] at k28; exact (sm k28).symm)) (fun v33 F29 H30 g31 hS32 hv34 => ?_)
    obtain rfl := sm m
    exact q _ _ _ (Gr.tr g21 g31) hS32 hv34
theorem sc_is_box : FnScope N_is_box ["thing", "many"] (defScope s_is_box) := ⟨rfl, rfl, rfl, by decide +kernel, rfl, by decide +kernel, by decide +kernel⟩
theorem ok_is_box {P : Program} {w : World} {K : PySem.W.Frag} {mg : Str → Option Value} {base : Heap} (hF : Df K mg "is_box" s_is_box) (m_isinstance : mg "isinstance" = none) (m_len : mg "len" = none) (m_tuple : mg "tuple" = none) (o_is_within : Ok P w K mg base 2 "is_within" ["thing", "least", "greatest"] (sp_is_within K)) (o_is_name : Ok P w K mg base 1 "is_name" ["thing"] (sp_is_name K)) : Ok P w K mg base 3 "is_box" ["thing", "many"] (sp_is_box K) := by
  obtain ⟨⟨_, G_is_within, bd_is_within, _⟩, kp_is_within, gm_is_within⟩ := o_is_within
  obtain ⟨⟨_, G_is_name, bd_is_name, _⟩, kp_is_name, gm_is_name⟩ := o_is_name
  obtain ⟨⟨fd, F⟩, gm⟩ := hF
  refine ⟨⟨fd, F.ok sc_is_box (fun vs H Q E h => ?_) (fun cdv A outer s H vs Q E hr h => ⟨t_is_box K, PSs.nox ?_, w_is_box vs H Q E h⟩), F.bindsN fun _ _ _ _ _ _ us hl => match us, hl with | [_, _], _ => rfl, lk_of F⟩, F.kp, gm⟩
  · obtain ⟨F0, cs, x, y, h, _⟩ := h; exact Dts.len h
  · exact (pss_cons (ps_if (PW.pt (pw_or (pt_not (pt_val (pe_callB call_isi (by rfl) m_isinstance (by decide +kernel) (pa_cons (pv 0) (pa_cons (pe_bltn (v := .ty "tuple") (by rfl) m_tuple (by decide +kernel) rfl) pa_nil))))) (pw_or (pt_cmpR op_ne (pe_callB cr_lenL (by rfl) m_len PySem.boot_len (pa_cons (pv 0) pa_nil)) pe_int (nomark _)) (pw_or1 (pt_not (pt_val (pe_call G_is_name (hr.mono (by decide)) (by rfl) gm_is_name kp_is_name bd_is_name .nil pass0 (pa_cons (pe_ix ix_tup (pv 0) pe_int (fun _ _ => rfl)) pa_nil)))))))) (pss_one (ps_ret pe_bl)) pss_nil) (pss_one (ps_ret (pe_and (pe_call G_is_within (hr.mono (by decide)) (by rfl) gm_is_within kp_is_within bd_is_within .nil pass0 (pa_cons (pe_ix ix_tup (pv 0) pe_int (fun _ _ => rfl)) (pa_cons pe_int (pa_cons (pe_op op_sub (pv 1) pe_int) pa_nil)))) (pe_one (pe_call G_is_within (hr.mono (by decide)) (by rfl) gm_is_within kp_is_within bd_is_within .nil pass0 (pa_cons (pe_ix ix_tup (pv 0) pe_int (fun _ _ => rfl)) (pa_cons pe_int (pa_cons (pe_op op_sub (pv 1) pe_int) pa_nil)))))))))
abbrev s_are_boxes_D : Stmt := (top 34)
def f_are_boxes_D : (PyData × PyData) → Option Bool := fun (rooms_1, thing_2) => (((if (!(isiD "list" thing_2)) = true then some true else (((lenD thing_2)).bind fun x3 => some (decide ((60 : Int) < x3))))).bind fun x5 => (if x5 = true then some false else (((asLD thing_2)).bind fun x21 => ((lcC (fun one_23 => (((lenD rooms_1)).bind fun x34 => ((f_is_box_D (one_23, x34))).bind fun x36 => some (some x36))) x21)).bind fun x38 => ((if (!((x38).all id)) = true then some true else (((f_has_names_twice_D thing_2)).bind fun x40 => some x40))).bind fun x42 => (if x42 = true then some false else (((f_has_room_D (rooms_1, thing_2, (1 : Int)))).bind fun x58 => ((if x58 = true then (((f_has_room_D (rooms_1, thing_2, (2 : Int)))).bind fun x60 => some x60) else some false)).bind fun x62 => some x62)))))
abbrev A_are_boxes_D : (PyData × PyData) → List PyData := fun x => [eD x.1, eD x.2]
abbrev N_are_boxes_D : List Str := ["rooms", "thing", "one"]
abbrev sp_are_boxes_D (K : PySem.W.Frag) : Sp := spP K A_are_boxes_D eB f_are_boxes_D
def t_are_boxes_D (K : PySem.W.Frag) : TS := (tSeq (tIfS (tOr (tNot (tB (tCB (rIsi K) (tCons (tVar 1) (tCons (tC (.ty "list")) tNil))))) (tTest (tOp (rI0 fun i j => .bl (decide (j < i))) (tCB (rLenG K) (tCons (tVar 1) tNil)) (tC (.int 60))))) (tRet (tC (.bl false))) tNext) (tSeq (tIfS (tOr (tNot (tB (tCB (rAll K) (tCons (tLc (iList K (tVar 1)) (gName 2) tYes (tCall (sp_is_box_D K) [] E0 (tCons (tVar 2) (tCons (tCB (rLenG K) (tCons (tVar 0) tNil)) tNil))) [2]) tNil)))) (tB (tCall (sp_has_names_twice_D K) [] E0 (tCons (tVar 1) tNil)))) (tRet (tC (.bl false))) tNext) (tRet (tAndV (tCall (sp_has_room_D K) [] E0 (tCons (tVar 0) (tCons (tVar 1) (tCons (tC (.int 1)) tNil)))) (tCall (sp_has_room_D K) [] E0 (tCons (tVar 0) (tCons (tVar 1) (tCons (tC (.int 2)) tNil))))))))
theorem w_are_boxes_D {K : PySem.W.Frag} (vs : List V) (H : Hp) (Q : VK) (E : XK) (h : sp_are_boxes_D K vs H Q E) : t_are_boxes_D K { nx := fun _ H' => Q .non H', rt := Q } (start N_are_boxes_D vs) H := by
  obtain ⟨F0, cs, ⟨rooms_1, thing_2⟩, y, h, hS0, m, q⟩ := h
  obtain ⟨a0, _, rfl, ha0, h⟩ := Dts.hd h
  obtain ⟨a1, _, rfl, ha1, h⟩ := Dts.hd h
  obtain rfl := Dts.no h
  unfold f_are_boxes_D at m
  try dsimp only at m
  unfold t_are_boxes_D
  refine go (σ' := [some a0, some a1, none]) rfl ?_
  obtain ⟨x5, k6, m⟩ := bnd m
  refine s_if (b := x5) hS0 (t_orM (r := x5) (t_not (t_B (K := K) (d_isiD (c := "list") (by decide) (d_var rfl ha1)))) (fun hc => by rw [if_neg (bf hc)] at k6; obtain ⟨x3, k4, k6⟩ := bnd k6; obtain rfl := sm k6; exact (t_test (K := K) (d_gt (d_lenD (a_cons (d_var rfl ha1) a_nil) k4) d_int))) (fun hc => by rw [if_pos hc] at k6; exact (sm k6).symm)) (fun hc F7 H8 g9 hS10 => ?_) (fun hc F17 H18 g19 hS20 => ?_)
  · rw [if_pos hc] at m
    refine s_ret (K := K) (d := eB false) hS10 d_bl (fun v15 F11 H12 g13 hS14 hv16 => ?_)
    obtain rfl := sm m
    exact q _ _ _ (Gr.tr g9 g13) hS14 hv16
  · rw [if_neg (bf hc)] at m
    refine nxt ?_
    obtain ⟨x21, k22, m⟩ := bnd m
    obtain ⟨x38, k39, m⟩ := bnd m
    obtain ⟨x42, k43, m⟩ := bnd m
    refine s_if (b := x42) hS20 (t_orM (r := x42) (t_not (t_B (K := K) (d_all (a_cons (EvC.dd (c_lcC (K := K) (f := (fun one_23 => (((lenD rooms_1)).bind fun x34 => ((f_is_box_D (one_23, x34))).bind fun x36 => some (some x36)))) (em := eB) (i_list (en := eD) (d_is (d_var rfl (Dt.gr g19 ha1)) (ck_LD _ _ k22))) k39 (fun one_23 o30 v31 F24 p25 us26 g27 hv28 ho29 => by obtain ⟨x34, k35, ho29⟩ := bnd ho29; obtain ⟨x36, k37, ho29⟩ := bnd ho29; obtain rfl := sm ho29; exact ⟨[some a0, some a1, some v31], fun H33 Q hS32 hq => (fun Q hq => hq) Q hq, rfl, t_yes, fun y hy => by obtain rfl := sm hy; exact (d_call (A := A_is_box_D) (B := eB) (x := (one_23, x34)) (a_cons (d_var rfl hv28) (a_cons (d_lenD (a_cons (d_var rfl (Dt.gr (Gr.tr g19 g27) ha0)) a_nil) k35) a_nil)) k37)⟩))) a_nil)))) (fun hc => by rw [if_neg (bf hc)] at k43; obtain ⟨x40, k41, k43⟩ := bnd k43; obtain rfl := sm k43; exact (t_B (K := K) (d_call (A := A_has_names_twice_D) (B := eB) (x := thing_2) (a_cons (d_var rfl (Dt.gr g19 ha1)) a_nil) k41))) (fun hc => by rw [if_pos hc] at k43; exact (sm k43).symm)) (fun hc F44 H45 g46 hS47 => ?_) (fun hc F54 H55 g56 hS57 => ?_)
    · rw [if_pos hc] at m
      refine s_ret (K := K) (d := eB false) hS47 d_bl (fun v52 F48 H49 g50 hS51 hv53 => ?_)
      obtain rfl := sm m
      exact q _ _ _ (Gr.tr g19 (Gr.tr g46 g50)) hS51 hv53
    · rw [if_neg (bf hc)] at m
      refine nxt ?_
      obtain ⟨x58, k59, m⟩ := bnd m
      obtain ⟨x62, k63, m⟩ := bnd m
      refine s_ret (K := K) (d := eB x62) hS57 (d_andM (r := x62) (d_call (A := A_has_room_D) (B := eB) (x := (rooms_1, thing_2, (1 : Int))) (a_cons (d_var rfl (Dt.gr (Gr.tr g19 g56) ha0)) (a_cons (d_var rfl (Dt.gr (Gr.tr g19 g56) ha1)) (a_cons d_int a_nil))) k59) (fun hc => by rw [if_pos hc] at k63; obtain ⟨x60, k61, k63⟩ := bnd k63; obtain rfl := sm k63; exact (d_call (A := A_has_room_D) (B := eB) (x := (rooms_1, thing_2, (2 : Int))) (a_cons (d_var rfl (Dt.gr (Gr.tr g19 g56) ha0)) (a_cons (d_var rfl (Dt.gr (Gr.tr g19 g56) ha1)) (a_cons d_int a_nil))) k61)) (fun hc => by rw [if_neg (bf hc)] at k63; exact (sm k63).symm)) (fun v68 F64 H65 g66 hS67 hv69 => ?_)
      obtain rfl := sm m
      exact q _ _ _ (Gr.tr g19 (Gr.tr g56 g66)) hS67 hv69
theorem sc_are_boxes_D : FnScope N_are_boxes_D ["rooms", "thing"] (defScope s_are_boxes_D) := ⟨rfl, rfl, rfl, by decide +kernel, rfl, by decide +kernel, by decide +kernel⟩
theorem ok_are_boxes_D {P : Program} {w : World} {K : PySem.W.Frag} {mg : Str → Option Value} {base : Heap} (hF : Df K mg "are_boxes" s_are_boxes_D) (m_all : mg "all" = none) (m_isinstance : mg "isinstance" = none) (m_len : mg "len" = none) (m_list : mg "list" = none) (c_MOST_BOXES : ∃ t, mg "MOST_BOXES" = some (.int 60 t)) (o_has_room_D : Ok P w K mg base 1 "has_room" ["rooms", "boxes", "place"] (sp_has_room_D K)) (o_is_box_D : Ok P w K mg base 3 "is_box" ["thing", "many"] (sp_is_box_D K)) (o_has_names_twice_D : Ok P w K mg base 1 "has_names_twice" ["boxes"] (sp_has_names_twice_D K)) : Ok P w K mg base 4 "are_boxes" ["rooms", "thing"] (sp_are_boxes_D K) := by
  obtain ⟨_, c_MOST_BOXES⟩ := c_MOST_BOXES
  obtain ⟨⟨_, G_has_room_D, bd_has_room_D, _⟩, kp_has_room_D, gm_has_room_D⟩ := o_has_room_D
  obtain ⟨⟨_, G_is_box_D, bd_is_box_D, _⟩, kp_is_box_D, gm_is_box_D⟩ := o_is_box_D
  obtain ⟨⟨_, G_has_names_twice_D, bd_has_names_twice_D, _⟩, kp_has_names_twice_D, gm_has_names_twice_D⟩ := o_has_names_twice_D
  obtain ⟨⟨fd, F⟩, gm⟩ := hF
  refine ⟨⟨fd, F.ok sc_are_boxes_D (fun vs H Q E h => ?_) (fun cdv A outer s H vs Q E hr h => ⟨t_are_boxes_D K, PSs.nox ?_, w_are_boxes_D vs H Q E h⟩), F.bindsN fun _ _ _ _ _ _ us hl => match us, hl with | [_, _], _ => rfl, lk_of F⟩, F.kp, gm⟩
  · obtain ⟨F0, cs, x, y, h, _⟩ := h; exact Dts.len h
  · exact (pss_cons (ps_if (PW.pt (pw_or (pt_not (pt_val (pe_callB call_isi (by rfl) m_isinstance (by decide +kernel) (pa_cons (pv 1) (pa_cons (pe_bltn (v := .ty "list") (by rfl) m_list (by decide +kernel) rfl) pa_nil))))) (pw_or1 (pt_cmpR op_gt (pe_callB cr_lenG (by rfl) m_len PySem.boot_len (pa_cons (pv 1) pa_nil)) (pe_glob (v := .int 60) (by rfl) c_MOST_BOXES ⟨_, rfl⟩) (nomark _))))) (pss_one (ps_ret pe_bl)) pss_nil) (pss_cons (ps_if (PW.pt (pw_or (pt_not (pt_val (pe_callB (cr_all rfl) (by rfl) m_all (by decide +kernel) (pa_cons (pe_lc (own := [("one", 2)]) (g := (gName 2)) (tt := tYes) (te := (tCall (sp_is_box_D K) [] E0 (tCons (tVar 2) (tCons (tCB (rLenG K) (tCons (tVar 0) tNil)) tNil)))) (by rfl) sc_are_boxes_D.nd (pi_list (pv 1)) (blkOk_by (own := [("one", 2)]) (N := N_are_boxes_D) (sc := defScope s_are_boxes_D) (by decide +kernel)) (fun _ _ _ _ _ => (pg_name (i := 2) sc_are_boxes_D.nd rfl (Or.inl rfl))) (fun _ _ _ _ _ => pts_nil) (fun _ _ _ _ _ => (pe_call G_is_box_D (hr.mono (by decide)) (by rfl) gm_is_box_D kp_is_box_D bd_is_box_D .nil pass0 (pa_cons (pv 2) (pa_cons (pe_callB cr_lenG (by rfl) m_len PySem.boot_len (pa_cons (pv 0) pa_nil)) pa_nil))))) pa_nil)))) (pw_or1 (pt_val (pe_call G_has_names_twice_D (hr.mono (by decide)) (by rfl) gm_has_names_twice_D kp_has_names_twice_D bd_has_names_twice_D .nil pass0 (pa_cons (pv 1) pa_nil)))))) (pss_one (ps_ret pe_bl)) pss_nil) (pss_one (ps_ret (pe_and (pe_call G_has_room_D (hr.mono (by decide)) (by rfl) gm_has_room_D kp_has_room_D bd_has_room_D .nil pass0 (pa_cons (pv 0) (pa_cons (pv 1) (pa_cons pe_int pa_nil)))) (pe_one (pe_call G_has_room_D (hr.mono (by decide)) (by rfl) gm_has_room_D kp_has_room_D bd_has_room_D .nil pass0 (pa_cons (pv 0) (pa_cons (pv 1) (pa_cons pe_int pa_nil))))))))))
abbrev s_are_boxes : Stmt := (top 34)
def f_are_boxes : ((List Int) × (List (Str × Int × Int))) → Option Bool := fun (rooms_1, thing_2) => (if ((!true) || (decide ((60 : Int) < (thing_2.length : Int)))) = true then some false else (((lcC (fun one_17 => (((f_is_box (one_17, (rooms_1.length : Int)))).bind fun x28 => some (some x28))) thing_2)).bind fun x30 => ((if (!((x30).all id)) = true then some true else (((f_has_names_twice thing_2)).bind fun x32 => some x32))).bind fun x34 => (if x34 = true then some false else (((f_has_room (rooms_1, thing_2, (1 : Int)))).bind fun x50 => ((if x50 = true then (((f_has_room (rooms_1, thing_2, (2 : Int)))).bind fun x52 => some x52) else some false)).bind fun x54 => some x54))))
abbrev A_are_boxes : ((List Int) × (List (Str × Int × Int))) → List PyData := fun x => [(eL eI) x.1, (eL (eT3 eS eI eI)) x.2]
abbrev N_are_boxes : List Str := ["rooms", "thing", "one"]
abbrev sp_are_boxes (K : PySem.W.Frag) : Sp := spP K A_are_boxes eB f_are_boxes
def t_are_boxes (K : PySem.W.Frag) : TS := (tSeq (tIfS (tOr (tNot (tB (tCB (rIsi K) (tCons (tVar 1) (tCons (tC (.ty "list")) tNil))))) (tTest (tOp (rI0 fun i j => .bl (decide (j < i))) (tCB (rLenL K) (tCons (tVar 1) tNil)) (tC (.int 60))))) (tRet (tC (.bl false))) tNext) (tSeq (tIfS (tOr (tNot (tB (tCB (rAll K) (tCons (tLc (iList K (tVar 1)) (gName 2) tYes (tCall (sp_is_box K) [] E0 (tCons (tVar 2) (tCons (tCB (rLenL K) (tCons (tVar 0) tNil)) tNil))) [2]) tNil)))) (tB (tCall (sp_has_names_twice K) [] E0 (tCons (tVar 1) tNil)))) (tRet (tC (.bl false))) tNext) (tRet (tAndV (tCall (sp_has_room K) [] E0 (tCons (tVar 0) (tCons (tVar 1) (tCons (tC (.int 1)) tNil)))) (tCall (sp_has_room K) [] E0 (tCons (tVar 0) (tCons (tVar 1) (tCons (tC (.int 2)) tNil))))))))
theorem w_are_boxes {K : PySem.W.Frag} (vs : List V) (H : Hp) (Q : VK) (E : XK) (h : sp_are_boxes K vs H Q E) : t_are_boxes K { nx := fun _ H' => Q .non H', rt := Q } (start N_are_boxes vs) H := by
  obtain ⟨F0, cs, ⟨rooms_1, thing_2⟩, y, h, hS0, m, q⟩ := h
  obtain ⟨a0, _, rfl, ha0, h⟩ := Dts.hd h
  obtain ⟨a1, _, rfl, ha1, h⟩ := Dts.hd h
  obtain rfl := Dts.no h
  unfold f_are_boxes at m
  try dsimp only at m
  unfold t_are_boxes
  refine go (σ' := [some a0, some a1, none]) rfl ?_
  refine s_if (b := ((!true) || (decide ((60 : Int) < (thing_2.length : Int))))) hS0 (t_orP (t_not (t_B (K := K) (d_is (e := PyData.bool true) (d_isiD (c := "list") (by decide) (d_var rfl ha1)) (congrArg PyData.bool (by rfl))))) (fun hc => (t_test (K := K) (d_gt (d_len (e := (eT3 eS eI eI)) (a_cons (d_var rfl ha1) a_nil)) d_int)))) (fun hc F3 H4 g5 hS6 => ?_) (fun hc F13 H14 g15 hS16 => ?_)
  · rw [if_pos hc] at m
    refine s_ret (K := K) (d := eB false) hS6 d_bl (fun v11 F7 H8 g9 hS10 hv12 => ?_)
    obtain rfl := sm m
    exact q _ _ _ (Gr.tr g5 g9) hS10 hv12
  · rw [if_neg (bf hc)] at m
    refine nxt ?_
    obtain ⟨x30, k31, m⟩ := bnd m
    obtain ⟨x34, k35, m⟩ := bnd m
    refine s_if (b := x34) hS16 (t_orM (r := x34) (t_not (t_B (K := K) (d_all (a_cons (EvC.dd (c_lcC (K := K) (f := (fun one_17 => (((f_is_box (one_17, (rooms_1.length : Int)))).bind fun x28 => some (some x28)))) (em := eB) (i_list (en := (eT3 eS eI eI)) (d_var rfl (Dt.gr g15 ha1))) k31 (fun one_17 o24 v25 F18 p19 us20 g21 hv22 ho23 => by obtain ⟨x28, k29, ho23⟩ := bnd ho23; obtain rfl := sm ho23; exact ⟨[some a0, some a1, some v25], fun H27 Q hS26 hq => (fun Q hq => hq) Q hq, rfl, t_yes, fun y hy => by obtain rfl := sm hy; exact (d_call (A := A_is_box) (B := eB) (x := (one_17, (rooms_1.length : Int))) (a_cons (d_var rfl hv22) (a_cons (d_len (e := eI) (a_cons (d_var rfl (Dt.gr (Gr.tr g15 g21) ha0)) a_nil)) a_nil)) k29)⟩))) a_nil)))) (fun hc => by rw [if_neg (bf hc)] at k35; obtain ⟨x32, k33, k35⟩ := bnd k35; obtain rfl := sm k35; exact (t_B (K := K) (d_call (A := A_has_names_twice) (B := eB) (x := thing_2) (a_cons (d_var rfl (Dt.gr g15 ha1)) a_nil) k33))) (fun hc => by rw [if_pos hc] at k35; exact (sm k35).symm)) (fun hc F36 H37 g38 hS39 => ?_) (fun hc F46 H47 g48 hS49 => ?_)
    · rw [if_pos hc] at m
      refine s_ret (K := K) (d := eB false) hS39 d_bl (fun v44 F40 H41 g42 hS43 hv45 => ?_)
      obtain rfl := sm m
      exact q _ _ _ (Gr.tr g15 (Gr.tr g38 g42)) hS43 hv45
    · rw [if_neg (bf hc)] at m
      refine nxt ?_
      obtain ⟨x50, k51, m⟩ := bnd m
      obtain ⟨x54, k55, m⟩ := bnd m
      refine s_ret (K := K) (d := eB x54) hS49 (d_andM (r := x54) (d_call (A := A_has_room) (B := eB) (x := (rooms_1, thing_2, (1 : Int))) (a_cons (d_var rfl (Dt.gr (Gr.tr g15 g48) ha0)) (a_cons (d_var rfl (Dt.gr (Gr.tr g15 g48) ha1)) (a_cons d_int a_nil))) k51) (fun hc => by rw [if_pos hc] at k55; obtain ⟨x52, k53, k55⟩ := bnd k55; obtain rfl := sm k55; exact (d_call (A := A_has_room) (B := eB) (x := (rooms_1, thing_2, (2 : Int))) (a_cons (d_var rfl (Dt.gr (Gr.tr g15 g48) ha0)) (a_cons (d_var rfl (Dt.gr (Gr.tr g15 g48) ha1)) (a_cons d_int a_nil))) k53)) (fun hc => by rw [if_neg (bf hc)] at k55; exact (sm k55).symm)) (fun v60 F56 H57 g58 hS59 hv61 => ?_)
      obtain rfl := sm m
      exact q _ _ _ (Gr.tr g15 (Gr.tr g48 g58)) hS59 hv61
theorem sc_are_boxes : FnScope N_are_boxes ["rooms", "thing"] (defScope s_are_boxes) := ⟨rfl, rfl, rfl, by decide +kernel, rfl, by decide +kernel, by decide +kernel⟩
theorem ok_are_boxes {P : Program} {w : World} {K : PySem.W.Frag} {mg : Str → Option Value} {base : Heap} (hF : Df K mg "are_boxes" s_are_boxes) (m_all : mg "all" = none) (m_isinstance : mg "isinstance" = none) (m_len : mg "len" = none) (m_list : mg "list" = none) (c_MOST_BOXES : ∃ t, mg "MOST_BOXES" = some (.int 60 t)) (o_has_room : Ok P w K mg base 1 "has_room" ["rooms", "boxes", "place"] (sp_has_room K)) (o_is_box : Ok P w K mg base 3 "is_box" ["thing", "many"] (sp_is_box K)) (o_has_names_twice : Ok P w K mg base 1 "has_names_twice" ["boxes"] (sp_has_names_twice K)) : Ok P w K mg base 4 "are_boxes" ["rooms", "thing"] (sp_are_boxes K) := by
  obtain ⟨_, c_MOST_BOXES⟩ := c_MOST_BOXES
  obtain ⟨⟨_, G_has_room, bd_has_room, _⟩, kp_has_room, gm_has_room⟩ := o_has_room
  obtain ⟨⟨_, G_is_box, bd_is_box, _⟩, kp_is_box, gm_is_box⟩ := o_is_box
  obtain ⟨⟨_, G_has_names_twice, bd_has_names_twice, _⟩, kp_has_names_twice, gm_has_names_twice⟩ := o_has_names_twice
  obtain ⟨⟨fd, F⟩, gm⟩ := hF
  refine ⟨⟨fd, F.ok sc_are_boxes (fun vs H Q E h => ?_) (fun cdv A outer s H vs Q E hr h => ⟨t_are_boxes K, PSs.nox ?_, w_are_boxes vs H Q E h⟩), F.bindsN fun _ _ _ _ _ _ us hl => match us, hl with | [_, _], _ => rfl, lk_of F⟩, F.kp, gm⟩
  · obtain ⟨F0, cs, x, y, h, _⟩ := h; exact Dts.len h
  · exact (pss_cons (ps_if (PW.pt (pw_or (pt_not (pt_val (pe_callB call_isi (by rfl) m_isinstance (by decide +kernel) (pa_cons (pv 1) (pa_cons (pe_bltn (v := .ty "list") (by rfl) m_list (by decide +kernel) rfl) pa_nil))))) (pw_or1 (pt_cmpR op_gt (pe_callB cr_lenL (by rfl) m_len PySem.boot_len (pa_cons (pv 1) pa_nil)) (pe_glob (v := .int 60) (by rfl) c_MOST_BOXES ⟨_, rfl⟩) (nomark _))))) (pss_one (ps_ret pe_bl)) pss_nil) (pss_cons (ps_if (PW.pt (pw_or (pt_not (pt_val (pe_callB (cr_all rfl) (by rfl) m_all (by decide +kernel) (pa_cons (pe_lc (own := [("one", 2)]) (g := (gName 2)) (tt := tYes) (te := (tCall (sp_is_box K) [] E0 (tCons (tVar 2) (tCons (tCB (rLenL K) (tCons (tVar 0) tNil)) tNil)))) (by rfl) sc_are_boxes.nd (pi_list (pv 1)) (blkOk_by (own := [("one", 2)]) (N := N_are_boxes) (sc := defScope s_are_boxes) (by decide +kernel)) (fun _ _ _ _ _ => (pg_name (i := 2) sc_are_boxes.nd rfl (Or.inl rfl))) (fun _ _ _ _ _ => pts_nil) (fun _ _ _ _ _ => (pe_call G_is_box (hr.mono (by decide)) (by rfl) gm_is_box kp_is_box bd_is_box .nil pass0 (pa_cons (pv 2) (pa_cons (pe_callB cr_lenL (by rfl) m_len PySem.boot_len (pa_cons (pv 0) pa_nil)) pa_nil))))) pa_nil)))) (pw_or1 (pt_val (pe_call G_has_names_twice (hr.mono (by decide)) (by rfl) gm_has_names_twice kp_has_names_twice bd_has_names_twice .nil pass0 (pa_cons (pv 1) pa_nil)))))) (pss_one (ps_ret pe_bl)) pss_nil) (pss_one (ps_ret (pe_and (pe_call G_has_room (hr.mono (by decide)) (by rfl) gm_has_room kp_has_room bd_has_room .nil pass0 (pa_cons (pv 0) (pa_cons (pv 1) (pa_cons pe_int pa_nil)))) (pe_one (pe_call G_has_room (hr.mono (by decide)) (by rfl) gm_has_room kp_has_room bd_has_room .nil pass0 (pa_cons (pv 0) (pa_cons (pv 1) (pa_cons pe_int pa_nil))))))))))
abbrev s_are_within_D : Stmt := (top 30)
def f_are_within_D : (PyData × Int × Int) → Option Bool := fun (thing_1, least_2, greatest_3) => (((if (isiD "list" thing_1) = true then (((asLD thing_1)).bind fun x4 => ((lcC (fun one_6 => (((f_is_within_D (one_6, least_2, greatest_3))).bind fun x17 => some (some x17))) x4)).bind fun x19 => some ((x19).all id)) else some false)).bind fun x21 => some x21)
abbrev A_are_within_D : (PyData × Int × Int) → List PyData := fun x => [eD x.1, eI x.2.1, eI x.2.2]
abbrev N_are_within_D : List Str := ["thing", "least", "greatest", "one"]
abbrev sp_are_within_D (K : PySem.W.Frag) : Sp := spP K A_are_within_D eB f_are_within_D
def t_are_within_D (K : PySem.W.Frag) : TS := (tRet (tAndV (tCB (rIsi K) (tCons (tVar 0) (tCons (tC (.ty "list")) tNil))) (tCB (rAll K) (tCons (tLc (iList K (tVar 0)) (gName 3) tYes (tCall (sp_is_within_D K) [] E0 (tCons (tVar 3) (tCons (tVar 1) (tCons (tVar 2) tNil)))) [3]) tNil))))
theorem w_are_within_D {K : PySem.W.Frag} (vs : List V) (H : Hp) (Q : VK) (E : XK) (h : sp_are_within_D K vs H Q E) : t_are_within_D K { nx := fun _ H' => Q .non H', rt := Q } (start N_are_within_D vs) H := by
  obtain ⟨F0, cs, ⟨thing_1, least_2, greatest_3⟩, y, h, hS0, m, q⟩ := h
  obtain ⟨a0, _, rfl, ha0, h⟩ := Dts.hd h
  obtain ⟨a1, _, rfl, ha1, h⟩ := Dts.hd h
  obtain ⟨a2, _, rfl, ha2, h⟩ := Dts.hd h
  obtain rfl := Dts.no h
  obtain rfl := Dt.toInt ha1
  obtain rfl := Dt.toInt ha2
  unfold f_are_within_D at m
  try dsimp only at m
  unfold t_are_within_D
  refine go (σ' := [some a0, some (.int least_2), some (.int greatest_3), none]) rfl ?_
  obtain ⟨x21, k22, m⟩ := bnd m
  refine s_ret (K := K) (d := eB x21) hS0 (d_andM (r := x21) (d_isiD (c := "list") (by decide) (d_var rfl ha0)) (fun hc => by rw [if_pos hc] at k22; obtain ⟨x4, k5, k22⟩ := bnd k22; obtain ⟨x19, k20, k22⟩ := bnd k22; obtain rfl := sm k22; exact (d_all (a_cons (EvC.dd (c_lcC (K := K) (f := (fun one_6 => (((f_is_within_D (one_6, least_2, greatest_3))).bind fun x17 => some (some x17)))) (em := eB) (i_list (en := eD) (d_is (d_var rfl ha0) (ck_LD _ _ k5))) k20 (fun one_6 o13 v14 F7 p8 us9 g10 hv11 ho12 => by obtain ⟨x17, k18, ho12⟩ := bnd ho12; obtain rfl := sm ho12; exact ⟨[some a0, some (.int least_2), some (.int greatest_3), some v14], fun H16 Q hS15 hq => (fun Q hq => hq) Q hq, rfl, t_yes, fun y hy => by obtain rfl := sm hy; exact (d_call (A := A_is_within_D) (B := eB) (x := (one_6, least_2, greatest_3)) (a_cons (d_var rfl hv11) (a_cons (d_var rfl (.int _)) (a_cons (d_var rfl (.int _)) a_nil))) k18)⟩))) a_nil))) (fun hc => by rw [if_neg (bf hc)] at k22; exact (sm k22).symm)) (fun v27 F23 H24 g25 hS26 hv28 => ?_)
  obtain rfl := sm m
  exact q _ _ _ g25 hS26 hv28
theorem sc_are_within_D : FnScope N_are_within_D ["thing", "least", "greatest"] (defScope s_are_within_D) := ⟨rfl, rfl, rfl, by decide +kernel, rfl, by decide +kernel, by decide +kernel⟩
theorem ok_are_within_D {P : Program} {w : World} {K : PySem.W.Frag} {mg : Str → Option Value} {base : Heap} (hF : Df K mg "are_within" s_are_within_D) (m_all : mg "all" = none) (m_isinstance : mg "isinstance" = none) (m_list : mg "list" = none) (o_is_within_D : Ok P w K mg base 2 "is_within" ["thing", "least", "greatest"] (sp_is_within_D K)) : Ok P w K mg base 3 "are_within" ["thing", "least", "greatest"] (sp_are_within_D K) := by
  obtain ⟨⟨_, G_is_within_D, bd_is_within_D, _⟩, kp_is_within_D, gm_is_within_D⟩ := o_is_within_D
  obtain ⟨⟨fd, F⟩, gm⟩ := hF
  refine ⟨⟨fd, F.ok sc_are_within_D (fun vs H Q E h => ?_) (fun cdv A outer s H vs Q E hr h => ⟨t_are_within_D K, PSs.nox ?_, w_are_within_D vs H Q E h⟩), F.bindsN fun _ _ _ _ _ _ us hl => match us, hl with | [_, _, _], _ => rfl, lk_of F⟩, F.kp, gm⟩
  · obtain ⟨F0, cs, x, y, h, _⟩ := h; exact Dts.len h
  · exact (pss_one (ps_ret (pe_and (pe_callB call_isi (by rfl) m_isinstance (by decide +kernel) (pa_cons (pv 0) (pa_cons (pe_bltn (v := .ty "list") (by rfl) m_list (by decide +kernel) rfl) pa_nil))) (pe_one (pe_callB (cr_all rfl) (by rfl) m_all (by decide +kernel) (pa_cons (pe_lc (own := [("one", 3)]) (g := (gName 3)) (tt := tYes) (te := (tCall (sp_is_within_D K) [] E0 (tCons (tVar 3) (tCons (tVar 1) (tCons (tVar 2) tNil))))) (by rfl) sc_are_within_D.nd (pi_list (pv 0)) (blkOk_by (own := [("one", 3)]) (N := N_are_within_D) (sc := defScope s_are_within_D) (by decide +kernel)) (fun _ _ _ _ _ => (pg_name (i := 3) sc_are_within_D.nd rfl (Or.inl rfl))) (fun _ _ _ _ _ => pts_nil) (fun _ _ _ _ _ => (pe_call G_is_within_D (hr.mono (by decide)) (by rfl) gm_is_within_D kp_is_within_D bd_is_within_D .nil pass0 (pa_cons (pv 3) (pa_cons (pv 1) (pa_cons (pv 2) pa_nil)))))) pa_nil))))))
abbrev s_are_within : Stmt := (top 30)
def f_are_within : ((List Int) × Int × Int) → Option Bool := fun (thing_1, least_2, greatest_3) => (((if true = true then (((lcC (fun one_4 => (((f_is_within (one_4, least_2, greatest_3))).bind fun x15 => some (some x15))) thing_1)).bind fun x17 => some ((x17).all id)) else some false)).bind fun x19 => some x19)
abbrev A_are_within : ((List Int) × Int × Int) → List PyData := fun x => [(eL eI) x.1, eI x.2.1, eI x.2.2]
abbrev N_are_within : List Str := ["thing", "least", "greatest", "one"]
abbrev sp_are_within (K : PySem.W.Frag) : Sp := spP K A_are_within eB f_are_within
def t_are_within (K : PySem.W.Frag) : TS := (tRet (tAndV (tCB (rIsi K) (tCons (tVar 0) (tCons (tC (.ty "list")) tNil))) (tCB (rAll K) (tCons (tLc (iList K (tVar 0)) (gName 3) tYes (tCall (sp_is_within K) [] E0 (tCons (tVar 3) (tCons (tVar 1) (tCons (tVar 2) tNil)))) [3]) tNil))))
theorem w_are_within {K : PySem.W.Frag} (vs : List V) (H : Hp) (Q : VK) (E : XK) (h : sp_are_within K vs H Q E) : t_are_within K { nx := fun _ H' => Q .non H', rt := Q } (start N_are_within vs) H := by
  obtain ⟨F0, cs, ⟨thing_1, least_2, greatest_3⟩, y, h, hS0, m, q⟩ := h
  obtain ⟨a0, _, rfl, ha0, h⟩ := Dts.hd h
  obtain ⟨a1, _, rfl, ha1, h⟩ := Dts.hd h
  obtain ⟨a2, _, rfl, ha2, h⟩ := Dts.hd h
  obtain rfl := Dts.no h
  obtain rfl := Dt.toInt ha1
  obtain rfl := Dt.toInt ha2
  unfold f_are_within at m
  try dsimp only at m
  unfold t_are_within
  refine go (σ' := [some a0, some (.int least_2), some (.int greatest_3), none]) rfl ?_
  obtain ⟨x19, k20, m⟩ := bnd m
  refine s_ret (K := K) (d := eB x19) hS0 (d_andM (r := x19) (d_is (e := PyData.bool true) (d_isiD (c := "list") (by decide) (d_var rfl ha0)) (congrArg PyData.bool (by rfl))) (fun hc => by rw [if_pos hc] at k20; obtain ⟨x17, k18, k20⟩ := bnd k20; obtain rfl := sm k20; exact (d_all (a_cons (EvC.dd (c_lcC (K := K) (f := (fun one_4 => (((f_is_within (one_4, least_2, greatest_3))).bind fun x15 => some (some x15)))) (em := eB) (i_list (en := eI) (d_var rfl ha0)) k18 (fun one_4 o11 v12 F5 p6 us7 g8 hv9 ho10 => by obtain rfl := Dt.toInt hv9; obtain ⟨x15, k16, ho10⟩ := bnd ho10; obtain rfl := sm ho10; exact ⟨[some a0, some (.int least_2), some (.int greatest_3), some (.int one_4)], fun H14 Q hS13 hq => (fun Q hq => hq) Q hq, rfl, t_yes, fun y hy => by obtain rfl := sm hy; exact (d_call (A := A_is_within) (B := eB) (x := (one_4, least_2, greatest_3)) (a_cons (d_var rfl (.int _)) (a_cons (d_var rfl (.int _)) (a_cons (d_var rfl (.int _)) a_nil))) k16)⟩))) a_nil))) (fun hc => by rw [if_neg (bf hc)] at k20; exact (sm k20).symm)) (fun v25 F21 H22 g23 hS24 hv26 => ?_)
  obtain rfl := sm m
  exact q _ _ _ g23 hS24 hv26
theorem sc_are_within : FnScope N_are_within ["thing", "least", "greatest"] (defScope s_are_within) := ⟨rfl, rfl, rfl, by decide +kernel, rfl, by decide +kernel, by decide +kernel⟩
theorem ok_are_within {P : Program} {w : World} {K : PySem.W.Frag} {mg : Str → Option Value} {base : Heap} (hF : Df K mg "are_within" s_are_within) (m_all : mg "all" = none) (m_isinstance : mg "isinstance" = none) (m_list : mg "list" = none) (o_is_within : Ok P w K mg base 2 "is_within" ["thing", "least", "greatest"] (sp_is_within K)) : Ok P w K mg base 3 "are_within" ["thing", "least", "greatest"] (sp_are_within K) := by
  obtain ⟨⟨_, G_is_within, bd_is_within, _⟩, kp_is_within, gm_is_within⟩ := o_is_within
  obtain ⟨⟨fd, F⟩, gm⟩ := hF
  refine ⟨⟨fd, F.ok sc_are_within (fun vs H Q E h => ?_) (fun cdv A outer s H vs Q E hr h => ⟨t_are_within K, PSs.nox ?_, w_are_within vs H Q E h⟩), F.bindsN fun _ _ _ _ _ _ us hl => match us, hl with | [_, _, _], _ => rfl, lk_of F⟩, F.kp, gm⟩
  · obtain ⟨F0, cs, x, y, h, _⟩ := h; exact Dts.len h
  · exact (pss_one (ps_ret (pe_and (pe_callB call_isi (by rfl) m_isinstance (by decide +kernel) (pa_cons (pv 0) (pa_cons (pe_bltn (v := .ty "list") (by rfl) m_list (by decide +kernel) rfl) pa_nil))) (pe_one (pe_callB (cr_all rfl) (by rfl) m_all (by decide +kernel) (pa_cons (pe_lc (own := [("one", 3)]) (g := (gName 3)) (tt := tYes) (te := (tCall (sp_is_within K) [] E0 (tCons (tVar 3) (tCons (tVar 1) (tCons (tVar 2) tNil))))) (by rfl) sc_are_within.nd (pi_list (pv 0)) (blkOk_by (own := [("one", 3)]) (N := N_are_within) (sc := defScope s_are_within) (by decide +kernel)) (fun _ _ _ _ _ => (pg_name (i := 3) sc_are_within.nd rfl (Or.inl rfl))) (fun _ _ _ _ _ => pts_nil) (fun _ _ _ _ _ => (pe_call G_is_within (hr.mono (by decide)) (by rfl) gm_is_within kp_is_within bd_is_within .nil pass0 (pa_cons (pv 3) (pa_cons (pv 1) (pa_cons (pv 2) pa_nil)))))) pa_nil))))))
abbrev s_look_at_store_D : Stmt := (top 35)
def f_look_at_store_D : PyData → Option (Rs Unit) := fun thing_1 => (((if (!(isiD "tuple" thing_1)) = true then some true else (((lenD thing_1)).bind fun x2 => some (!decide (x2 = (4 : Int)))))).bind fun x4 => (if x4 = true then some (Rs.ex ("NoStore", (eS ("store" : Str)))) else (((tupD4 thing_1)).bind fun x26 => letM x26.1 fun rooms_28 => letM x26.2.1 fun gaps_30 => letM x26.2.2.1 fun most_32 => letM x26.2.2.2 fun boxes_34 => (((f_are_within_D (rooms_28, (1 : Int), (40 : Int)))).bind fun x46 => ((if (!x46) = true then some true else (((lenD rooms_28)).bind fun x48 => some (!(decide ((2 : Int) ≤ x48) && decide (x48 ≤ (16 : Int))))))).bind fun x50 => (if x50 = true then some (Rs.ex ("NoStore", (eS ("rooms" : Str)))) else (((f_are_within_D (gaps_30, (1 : Int), (1000000000 : Int)))).bind fun x66 => ((if (!x66) = true then some true else (((lenD gaps_30)).bind fun x68 => ((lenD rooms_28)).bind fun x70 => some (!decide (x68 = (x70 - (1 : Int))))))).bind fun x72 => (if x72 = true then some (Rs.ex ("NoStore", (eS ("gaps" : Str)))) else (((f_is_within_D (most_32, (1 : Int), (20 : Int)))).bind fun x88 => (if (!x88) = true then some (Rs.ex ("NoStore", (eS ("most" : Str)))) else (((f_are_boxes_D (rooms_28, boxes_34))).bind fun x104 => (if (!x104) = true then some (Rs.ex ("NoStore", (eS ("boxes" : Str)))) else some (Rs.ok ()))))))))))))
abbrev A_look_at_store_D : PyData → List PyData := fun x => [eD x]
abbrev N_look_at_store_D : List Str := ["thing", "rooms", "gaps", "most", "boxes"]
abbrev sp_look_at_store_D (K : PySem.W.Frag) : Sp := spPX K A_look_at_store_D eN f_look_at_store_D
def t_look_at_store_D (K : PySem.W.Frag) (E : XK) : TS := (tSeq (tIfS (tOr (tNot (tB (tCB (rIsi K) (tCons (tVar 0) (tCons (tC (.ty "tuple")) tNil))))) (tTest (tOp rNe (tCB (rLenG K) (tCons (tVar 0) tNil)) (tC (.int 4))))) (tRaiseF K (WX0 E) "NoStore" "part" (tC (.str "store"))) tNext) (tSeq (tAsg (tVar 0) (gTup K 4 (gCons (gName 1) (gCons (gName 2) (gCons (gName 3) (gCons (gName 4) gNil)))))) (tSeq (tIfS (tOr (tNot (tB (tCall (sp_are_within_D K) [] E0 (tCons (tVar 1) (tCons (tC (.int 1)) (tCons (tC (.int 40)) tNil)))))) (tNot (tTest (tChain (rI0 fun i j => .bl (decide (i ≤ j))) (rI0 fun i j => .bl (decide (i ≤ j))) (tC (.int 2)) (tCB (rLenG K) (tCons (tVar 1) tNil)) (tC (.int 16)))))) (tRaiseF K (WX0 E) "NoStore" "part" (tC (.str "rooms"))) tNext) (tSeq (tIfS (tOr (tNot (tB (tCall (sp_are_within_D K) [] E0 (tCons (tVar 2) (tCons (tC (.int 1)) (tCons (tC (.int 1000000000)) tNil)))))) (tTest (tOp rNe (tCB (rLenG K) (tCons (tVar 2) tNil)) (tOp (rI0 fun i j => .int (i - j)) (tCB (rLenG K) (tCons (tVar 1) tNil)) (tC (.int 1)))))) (tRaiseF K (WX0 E) "NoStore" "part" (tC (.str "gaps"))) tNext) (tSeq (tIfS (tNot (tB (tCall (sp_is_within_D K) [] E0 (tCons (tVar 3) (tCons (tC (.int 1)) (tCons (tC (.int 20)) tNil)))))) (tRaiseF K (WX0 E) "NoStore" "part" (tC (.str "most"))) tNext) (tIfS (tNot (tB (tCall (sp_are_boxes_D K) [] E0 (tCons (tVar 1) (tCons (tVar 4) tNil))))) (tRaiseF K (WX0 E) "NoStore" "part" (tC (.str "boxes"))) tNext))))))
theorem w_look_at_store_D {K : PySem.W.Frag} (vs : List V) (H : Hp) (Q : VK) (E : XK) (h : sp_look_at_store_D K vs H Q E) : t_look_at_store_D K E { nx := fun _ H' => Q .non H', rt := Q } (start N_look_at_store_D vs) H := by
  obtain ⟨F0, cs, thing_1, y, h, hS0, m, q, qx⟩ := h
  obtain ⟨a0, _, rfl, ha0, h⟩ := Dts.hd h
  obtain rfl := Dts.no h
  unfold f_look_at_store_D at m
  try dsimp only at m
  unfold t_look_at_store_D
  refine go (σ' := [some a0, none, none, none, none]) rfl ?_
  obtain ⟨x4, k5, m⟩ := bnd m
  refine s_if (b := x4) hS0 (t_orM (r := x4) (t_not (t_B (K := K) (d_isiD (c := "tuple") (by decide) (d_var rfl ha0)))) (fun hc => by rw [if_neg (bf hc)] at k5; obtain ⟨x2, k3, k5⟩ := bnd k5; obtain rfl := sm k5; exact (t_test (K := K) (d_neI (d_lenD (a_cons (d_var rfl ha0) a_nil) k3) d_int))) (fun hc => by rw [if_pos hc] at k5; exact (sm k5).symm)) (fun hc F6 H7 g8 hS9 => ?_) (fun hc F16 H17 g18 hS19 => ?_)
  · rw [if_pos hc] at m
    refine s_raiseF (d := (eS ("store" : Str))) (x := "NoStore") (f := "part") hS9 d_str (by decide) (by decide) (fun dd14 F10 H11 g12 hS13 xd15 => ?_)
    obtain rfl := sm m
    exact qx _ rfl _ _ _ (Gr.tr g8 g12) hS13 xd15
  · rw [if_neg (bf hc)] at m
    refine nxt ?_
    obtain ⟨x26, k27, m⟩ := bnd m
    refine s_asg (K := K) (d := eD thing_1) hS19 (d_var rfl (Dt.gr g18 ha0)) (fun v24 F20 H21 g22 hS23 hv25 => ?_)
    rw [show eD thing_1 = _ from tupD4_eq k27] at hv25
    obtain ⟨rooms_28, k29, m⟩ := lt m
    obtain ⟨gaps_30, k31, m⟩ := lt m
    obtain ⟨most_32, k33, m⟩ := lt m
    obtain ⟨boxes_34, k35, m⟩ := lt m
    obtain ⟨p36, w38, w39, w40, w41, rfl, hT37, hw42, hw43, hw44, hw45⟩ := u4 hv25
    rw [k29] at hw42
    rw [k31] at hw43
    rw [k33] at hw44
    rw [k35] at hw45
    refine tg (σ' := [some a0, some w38, some w39, some w40, some w41]) (fun Q hq => ⟨p36, [_, _, _, _], rfl, gr_T hS23.fr hT37, rfl, _, _, rfl, _, _, rfl, _, _, rfl, _, _, rfl, rfl, hq⟩) ?_
    obtain ⟨x46, k47, m⟩ := bnd m
    obtain ⟨x50, k51, m⟩ := bnd m
    refine s_if (b := x50) hS23 (t_orM (r := x50) (t_not (t_B (K := K) (d_call (A := A_are_within_D) (B := eB) (x := (rooms_28, (1 : Int), (40 : Int))) (a_cons (d_var rfl hw42) (a_cons d_int (a_cons d_int a_nil))) k47))) (fun hc => by rw [if_neg (bf hc)] at k51; obtain ⟨x48, k49, k51⟩ := bnd k51; obtain rfl := sm k51; exact (t_not (t_test (K := K) (d_chain d_int (d_lenD (a_cons (d_var rfl hw42) a_nil) k49) d_int)))) (fun hc => by rw [if_pos hc] at k51; exact (sm k51).symm)) (fun hc F52 H53 g54 hS55 => ?_) (fun hc F62 H63 g64 hS65 => ?_)
    · rw [if_pos hc] at m
      refine s_raiseF (d := (eS ("rooms" : Str))) (x := "NoStore") (f := "part") hS55 d_str (by decide) (by decide) (fun dd60 F56 H57 g58 hS59 xd61 => ?_)
      obtain rfl := sm m
      exact qx _ rfl _ _ _ (Gr.tr g18 (Gr.tr g22 (Gr.tr g54 g58))) hS59 xd61
    · rw [if_neg (bf hc)] at m
      refine nxt ?_
      obtain ⟨x66, k67, m⟩ := bnd m
      obtain ⟨x72, k73, m⟩ := bnd m
      refine s_if (b := x72) hS65 (t_orM (r := x72) (t_not (t_B (K := K) (d_call (A := A_are_within_D) (B := eB) (x := (gaps_30, (1 : Int), (1000000000 : Int))) (a_cons (d_var rfl (Dt.gr g64 hw43)) (a_cons d_int (a_cons d_int a_nil))) k67))) (fun hc => by rw [if_neg (bf hc)] at k73; obtain ⟨x68, k69, k73⟩ := bnd k73; obtain ⟨x70, k71, k73⟩ := bnd k73; obtain rfl := sm k73; exact (t_test (K := K) (d_neI (d_lenD (a_cons (d_var rfl (Dt.gr g64 hw43)) a_nil) k69) (d_sub (d_lenD (a_cons (d_var rfl (Dt.gr g64 hw42)) a_nil) k71) d_int)))) (fun hc => by rw [if_pos hc] at k73; exact (sm k73).symm)) (fun hc F74 H75 g76 hS77 => ?_) (fun hc F84 H85 g86 hS87 => ?_)
      · rw [if_pos hc] at m
        refine s_raiseF (d := (eS ("gaps" : Str))) (x := "NoStore") (f := "part") hS77 d_str (by decide) (by decide) (fun dd82 F78 H79 g80 hS81 xd83 => ?_)
        obtain rfl := sm m
        exact qx _ rfl _ _ _ (Gr.tr g18 (Gr.tr g22 (Gr.tr g64 (Gr.tr g76 g80)))) hS81 xd83
      · rw [if_neg (bf hc)] at m
        refine nxt ?_
        obtain ⟨x88, k89, m⟩ := bnd m
        refine s_if (b := (!x88)) hS87 (t_not (t_B (K := K) (d_call (A := A_is_within_D) (B := eB) (x := (most_32, (1 : Int), (20 : Int))) (a_cons (d_var rfl (Dt.gr (Gr.tr g64 g86) hw44)) (a_cons d_int (a_cons d_int a_nil))) k89))) (fun hc F90 H91 g92 hS93 => ?_) (fun hc F100 H101 g102 hS103 => ?_)
        · rw [if_pos hc] at m
          refine s_raiseF (d := (eS ("most" : Str))) (x := "NoStore") (f := "part") hS93 d_str (by decide) (by decide) (fun dd98 F94 H95 g96 hS97 xd99 => ?_)
          obtain rfl := sm m
          exact qx _ rfl _ _ _ (Gr.tr g18 (Gr.tr g22 (Gr.tr g64 (Gr.tr g86 (Gr.tr g92 g96))))) hS97 xd99
        · rw [if_neg (bf hc)] at m
          refine nxt ?_
          obtain ⟨x104, k105, m⟩ := bnd m
          refine s_if (b := (!x104)) hS103 (t_not (t_B (K := K) (d_call (A := A_are_boxes_D) (B := eB) (x := (rooms_28, boxes_34)) (a_cons (d_var rfl (Dt.gr (Gr.tr g64 (Gr.tr g86 g102)) hw42)) (a_cons (d_var rfl (Dt.gr (Gr.tr g64 (Gr.tr g86 g102)) hw45)) a_nil)) k105))) (fun hc F106 H107 g108 hS109 => ?_) (fun hc F116 H117 g118 hS119 => ?_)
          · rw [if_pos hc] at m
            refine s_raiseF (d := (eS ("boxes" : Str))) (x := "NoStore") (f := "part") hS109 d_str (by decide) (by decide) (fun dd114 F110 H111 g112 hS113 xd115 => ?_)
            obtain rfl := sm m
            exact qx _ rfl _ _ _ (Gr.tr g18 (Gr.tr g22 (Gr.tr g64 (Gr.tr g86 (Gr.tr g102 (Gr.tr g108 g112)))))) hS113 xd115
          · rw [if_neg (bf hc)] at m
            refine nxt ?_
            obtain rfl := sm m
            exact q _ rfl _ _ _ (Gr.tr g18 (Gr.tr g22 (Gr.tr g64 (Gr.tr g86 (Gr.tr g102 g118))))) hS119 Dt.non
theorem sc_look_at_store_D : FnScope N_look_at_store_D ["thing"] (defScope s_look_at_store_D) := ⟨rfl, rfl, rfl, by decide +kernel, rfl, by decide +kernel, by decide +kernel⟩
theorem ok_look_at_store_D {P : Program} {w : World} {K : PySem.W.Frag} {mg : Str → Option Value} {base : Heap} (hF : Df K mg "look_at_store" s_look_at_store_D) (m_isinstance : mg "isinstance" = none) (m_len : mg "len" = none) (m_tuple : mg "tuple" = none) (c_FARTHEST : ∃ t, mg "FARTHEST" = some (.int 1000000000 t)) (c_FEWEST_BAYS : ∃ t, mg "FEWEST_BAYS" = some (.int 2 t)) (c_MOST_BAYS : ∃ t, mg "MOST_BAYS" = some (.int 16 t)) (c_MOST_LOAD : ∃ t, mg "MOST_LOAD" = some (.int 20 t)) (c_MOST_ROOM : ∃ t, mg "MOST_ROOM" = some (.int 40 t)) (o_are_boxes_D : Ok P w K mg base 4 "are_boxes" ["rooms", "thing"] (sp_are_boxes_D K)) (o_is_within_D : Ok P w K mg base 2 "is_within" ["thing", "least", "greatest"] (sp_is_within_D K)) (o_are_within_D : Ok P w K mg base 3 "are_within" ["thing", "least", "greatest"] (sp_are_within_D K)) (i_NoStore : OkI P w K mg base "NoStore" "part") : OkX P w K mg base 5 "look_at_store" ["thing"] (sp_look_at_store_D K) := by
  obtain ⟨_, c_FARTHEST⟩ := c_FARTHEST
  obtain ⟨_, c_FEWEST_BAYS⟩ := c_FEWEST_BAYS
  obtain ⟨_, c_MOST_BAYS⟩ := c_MOST_BAYS
  obtain ⟨_, c_MOST_LOAD⟩ := c_MOST_LOAD
  obtain ⟨_, c_MOST_ROOM⟩ := c_MOST_ROOM
  obtain ⟨⟨_, G_are_boxes_D, bd_are_boxes_D, _⟩, kp_are_boxes_D, gm_are_boxes_D⟩ := o_are_boxes_D
  obtain ⟨⟨_, G_is_within_D, bd_is_within_D, _⟩, kp_is_within_D, gm_is_within_D⟩ := o_is_within_D
  obtain ⟨⟨_, G_are_within_D, bd_are_within_D, _⟩, kp_are_within_D, gm_are_within_D⟩ := o_are_within_D
  obtain ⟨⟨fd, F⟩, gm⟩ := hF
  refine ⟨⟨fd, F.ok sc_look_at_store_D (fun vs H Q E h => ?_) (fun cdv A outer s H vs Q E hr h => ⟨t_look_at_store_D K E, ?_, w_look_at_store_D vs H Q E h⟩), F.bindsN fun _ _ _ _ _ _ us hl => match us, hl with | [_], _ => rfl, lk_of F⟩, F.kp, gm⟩
  · obtain ⟨F0, cs, x, y, h, _⟩ := h; exact Dts.len h
  · refine pss_tk (W := WX0 E) (takes_of (E := E) rfl rfl rfl rfl) fun tkE => ?_
    exact (pss_cons (ps_if (PW.pt (pw_or (pt_not (pt_val (pe_callB call_isi (by rfl) m_isinstance (by decide +kernel) (pa_cons (pv 0) (pa_cons (pe_bltn (v := .ty "tuple") (by rfl) m_tuple (by decide +kernel) rfl) pa_nil))))) (pw_or1 (pt_cmpR op_ne (pe_callB cr_lenG (by rfl) m_len PySem.boot_len (pa_cons (pv 0) pa_nil)) pe_int (nomark _))))) (pss_one (ps_raiseF rfl tkE i_NoStore (hr.mono (by decide)) (by rfl) pe_str)) pss_nil) (pss_cons (ps_asg (pv 0) (pg_tup rfl (pgs_cons (pg_name (i := 1) sc_look_at_store_D.nd rfl (Or.inl rfl)) (pgs_cons (pg_name (i := 2) sc_look_at_store_D.nd rfl (Or.inl rfl)) (pgs_cons (pg_name (i := 3) sc_look_at_store_D.nd rfl (Or.inl rfl)) (pgs_cons (pg_name (i := 4) sc_look_at_store_D.nd rfl (Or.inl rfl)) pgs_nil)))))) (pss_cons (ps_if (PW.pt (pw_or (pt_not (pt_val (pe_call G_are_within_D (hr.mono (by decide)) (by rfl) gm_are_within_D kp_are_within_D bd_are_within_D .nil pass0 (pa_cons (pv 1) (pa_cons pe_int (pa_cons (pe_glob (v := .int 40) (by rfl) c_MOST_ROOM ⟨_, rfl⟩) pa_nil)))))) (pw_or1 (pt_not (pt_chain op_le op_le (pe_glob (v := .int 2) (by rfl) c_FEWEST_BAYS ⟨_, rfl⟩) (pe_callB cr_lenG (by rfl) m_len PySem.boot_len (pa_cons (pv 1) pa_nil)) (pe_glob (v := .int 16) (by rfl) c_MOST_BAYS ⟨_, rfl⟩)))))) (pss_one (ps_raiseF rfl tkE i_NoStore (hr.mono (by decide)) (by rfl) pe_str)) pss_nil) (pss_cons (ps_if (PW.pt (pw_or (pt_not (pt_val (pe_call G_are_within_D (hr.mono (by decide)) (by rfl) gm_are_within_D kp_are_within_D bd_are_within_D .nil pass0 (pa_cons (pv 2) (pa_cons pe_int (pa_cons (pe_glob (v := .int 1000000000) (by rfl) c_FARTHEST ⟨_, rfl⟩) pa_nil)))))) (pw_or1 (pt_cmpR op_ne (pe_callB cr_lenG (by rfl) m_len PySem.boot_len (pa_cons (pv 2) pa_nil)) (pe_op op_sub (pe_callB cr_lenG (by rfl) m_len PySem.boot_len (pa_cons (pv 1) pa_nil)) pe_int) (nomark _))))) (pss_one (ps_raiseF rfl tkE i_NoStore (hr.mono (by decide)) (by rfl) pe_str)) pss_nil) (pss_cons (ps_if (pt_not (pt_val (pe_call G_is_within_D (hr.mono (by decide)) (by rfl) gm_is_within_D kp_is_within_D bd_is_within_D .nil pass0 (pa_cons (pv 3) (pa_cons pe_int (pa_cons (pe_glob (v := .int 20) (by rfl) c_MOST_LOAD ⟨_, rfl⟩) pa_nil)))))) (pss_one (ps_raiseF rfl tkE i_NoStore (hr.mono (by decide)) (by rfl) pe_str)) pss_nil) (pss_one (ps_if (pt_not (pt_val (pe_call G_are_boxes_D (hr.mono (by decide)) (by rfl) gm_are_boxes_D kp_are_boxes_D bd_are_boxes_D .nil pass0 (pa_cons (pv 1) (pa_cons (pv 4) pa_nil))))) (pss_one (ps_raiseF rfl tkE i_NoStore (hr.mono (by decide)) (by rfl) pe_str)) pss_nil)))))))
abbrev s_look_at_store : Stmt := (top 35)
def f_look_at_store : ((List Int) × (List Int) × Int × (List (Str × Int × Int))) → Option (Rs Unit) := fun thing_1 => (if ((!true) || (!decide ((4 : Int) = (4 : Int)))) = true then some (Rs.ex ("NoStore", (eS ("store" : Str)))) else (letM thing_1.1 fun rooms_22 => letM thing_1.2.1 fun gaps_24 => letM thing_1.2.2.1 fun most_26 => letM thing_1.2.2.2 fun boxes_28 => (((f_are_within (rooms_22, (1 : Int), (40 : Int)))).bind fun x40 => (if ((!x40) || (!(decide ((2 : Int) ≤ (rooms_22.length : Int)) && decide ((rooms_22.length : Int) ≤ (16 : Int))))) = true then some (Rs.ex ("NoStore", (eS ("rooms" : Str)))) else (((f_are_within (gaps_24, (1 : Int), (1000000000 : Int)))).bind fun x56 => (if ((!x56) || (!decide ((gaps_24.length : Int) = ((rooms_22.length : Int) - (1 : Int))))) = true then some (Rs.ex ("NoStore", (eS ("gaps" : Str)))) else (((f_is_within (most_26, (1 : Int), (20 : Int)))).bind fun x72 => (if (!x72) = true then some (Rs.ex ("NoStore", (eS ("most" : Str)))) else (((f_are_boxes (rooms_22, boxes_28))).bind fun x88 => (if (!x88) = true then some (Rs.ex ("NoStore", (eS ("boxes" : Str)))) else some (Rs.ok ())))))))))))
abbrev A_look_at_store : ((List Int) × (List Int) × Int × (List (Str × Int × Int))) → List PyData := fun x => [(eT4 (eL eI) (eL eI) eI (eL (eT3 eS eI eI))) x]
abbrev N_look_at_store : List Str := ["thing", "rooms", "gaps", "most", "boxes"]
abbrev sp_look_at_store (K : PySem.W.Frag) : Sp := spPX K A_look_at_store eN f_look_at_store
def t_look_at_store (K : PySem.W.Frag) (E : XK) : TS := (tSeq (tIfS (tOr (tNot (tB (tCB (rIsi K) (tCons (tVar 0) (tCons (tC (.ty "tuple")) tNil))))) (tTest (tOp rNe (tCB (rLenL K) (tCons (tVar 0) tNil)) (tC (.int 4))))) (tRaiseF K (WX0 E) "NoStore" "part" (tC (.str "store"))) tNext) (tSeq (tAsg (tVar 0) (gTup K 4 (gCons (gName 1) (gCons (gName 2) (gCons (gName 3) (gCons (gName 4) gNil)))))) (tSeq (tIfS (tOr (tNot (tB (tCall (sp_are_within K) [] E0 (tCons (tVar 1) (tCons (tC (.int 1)) (tCons (tC (.int 40)) tNil)))))) (tNot (tTest (tChain (rI0 fun i j => .bl (decide (i ≤ j))) (rI0 fun i j => .bl (decide (i ≤ j))) (tC (.int 2)) (tCB (rLenL K) (tCons (tVar 1) tNil)) (tC (.int 16)))))) (tRaiseF K (WX0 E) "NoStore" "part" (tC (.str "rooms"))) tNext) (tSeq (tIfS (tOr (tNot (tB (tCall (sp_are_within K) [] E0 (tCons (tVar 2) (tCons (tC (.int 1)) (tCons (tC (.int 1000000000)) tNil)))))) (tTest (tOp rNe (tCB (rLenL K) (tCons (tVar 2) tNil)) (tOp (rI0 fun i j => .int (i - j)) (tCB (rLenL K) (tCons (tVar 1) tNil)) (tC (.int 1)))))) (tRaiseF K (WX0 E) "NoStore" "part" (tC (.str "gaps"))) tNext) (tSeq (tIfS (tNot (tB (tCall (sp_is_within K) [] E0 (tCons (tVar 3) (tCons (tC (.int 1)) (tCons (tC (.int 20)) tNil)))))) (tRaiseF K (WX0 E) "NoStore" "part" (tC (.str "most"))) tNext) (tIfS (tNot (tB (tCall (sp_are_boxes K) [] E0 (tCons (tVar 1) (tCons (tVar 4) tNil))))) (tRaiseF K (WX0 E) "NoStore" "part" (tC (.str "boxes"))) tNext))))))
theorem w_look_at_store {K : PySem.W.Frag} (vs : List V) (H : Hp) (Q : VK) (E : XK) (h : sp_look_at_store K vs H Q E) : t_look_at_store K E { nx := fun _ H' => Q .non H', rt := Q } (start N_look_at_store vs) H := by
  obtain ⟨F0, cs, thing_1, y, h, hS0, m, q, qx⟩ := h
  obtain ⟨a0, _, rfl, ha0, h⟩ := Dts.hd h
  obtain rfl := Dts.no h
  unfold f_look_at_store at m
  try dsimp only at m
  unfold t_look_at_store
  refine go (σ' := [some a0, none, none, none, none]) rfl ?_
  refine s_if (b := ((!true) || (!decide ((4 : Int) = (4 : Int))))) hS0 (t_orP (t_not (t_B (K := K) (d_is (e := PyData.bool true) (d_isiD (c := "tuple") (by decide) (d_var rfl ha0)) (congrArg PyData.bool (by rfl))))) (fun hc => (t_test (K := K) (d_neI (d_is (e := PyData.int 4) (d_lenT (a_cons (d_var rfl ha0) a_nil)) (congrArg PyData.int (by rfl))) d_int)))) (fun hc F2 H3 g4 hS5 => ?_) (fun hc F12 H13 g14 hS15 => ?_)
  · rw [if_pos hc] at m
    refine s_raiseF (d := (eS ("store" : Str))) (x := "NoStore") (f := "part") hS5 d_str (by decide) (by decide) (fun dd10 F6 H7 g8 hS9 xd11 => ?_)
    obtain rfl := sm m
    exact qx _ rfl _ _ _ (Gr.tr g4 g8) hS9 xd11
  · rw [if_neg (bf hc)] at m
    refine nxt ?_
    refine s_asg (K := K) (d := (eT4 (eL eI) (eL eI) eI (eL (eT3 eS eI eI))) thing_1) hS15 (d_var rfl (Dt.gr g14 ha0)) (fun v20 F16 H17 g18 hS19 hv21 => ?_)
    obtain ⟨rooms_22, k23, m⟩ := lt m
    obtain ⟨gaps_24, k25, m⟩ := lt m
    obtain ⟨most_26, k27, m⟩ := lt m
    obtain ⟨boxes_28, k29, m⟩ := lt m
    obtain ⟨p30, w32, w33, w34, w35, rfl, hT31, hw36, hw37, hw38, hw39⟩ := u4 hv21
    rw [k23] at hw36
    rw [k25] at hw37
    rw [k27] at hw38
    obtain rfl := Dt.toInt hw38
    rw [k29] at hw39
    refine tg (σ' := [some a0, some w32, some w33, some (.int most_26), some w35]) (fun Q hq => ⟨p30, [_, _, _, _], rfl, gr_T hS19.fr hT31, rfl, _, _, rfl, _, _, rfl, _, _, rfl, _, _, rfl, rfl, hq⟩) ?_
    obtain ⟨x40, k41, m⟩ := bnd m
    refine s_if (b := ((!x40) || (!(decide ((2 : Int) ≤ (rooms_22.length : Int)) && decide ((rooms_22.length : Int) ≤ (16 : Int)))))) hS19 (t_orP (t_not (t_B (K := K) (d_call (A := A_are_within) (B := eB) (x := (rooms_22, (1 : Int), (40 : Int))) (a_cons (d_var rfl hw36) (a_cons d_int (a_cons d_int a_nil))) k41))) (fun hc => (t_not (t_test (K := K) (d_chain d_int (d_len (e := eI) (a_cons (d_var rfl hw36) a_nil)) d_int))))) (fun hc F42 H43 g44 hS45 => ?_) (fun hc F52 H53 g54 hS55 => ?_)
    · rw [if_pos hc] at m
      refine s_raiseF (d := (eS ("rooms" : Str))) (x := "NoStore") (f := "part") hS45 d_str (by decide) (by decide) (fun dd50 F46 H47 g48 hS49 xd51 => ?_)
      obtain rfl := sm m
      exact qx _ rfl _ _ _ (Gr.tr g14 (Gr.tr g18 (Gr.tr g44 g48))) hS49 xd51
    · rw [if_neg (bf hc)] at m
      refine nxt ?_
      obtain ⟨x56, k57, m⟩ := bnd m
      refine s_if (b := ((!x56) || (!decide ((gaps_24.length : Int) = ((rooms_22.length : Int) - (1 : Int)))))) hS55 (t_orP (t_not (t_B (K := K) (d_call (A := A_are_within) (B := eB) (x := (gaps_24, (1 : Int), (1000000000 : Int))) (a_cons (d_var rfl (Dt.gr g54 hw37)) (a_cons d_int (a_cons d_int a_nil))) k57))) (fun hc => (t_test (K := K) (d_neI (d_len (e := eI) (a_cons (d_var rfl (Dt.gr g54 hw37)) a_nil)) (d_sub (d_len (e := eI) (a_cons (d_var rfl (Dt.gr g54 hw36)) a_nil)) d_int))))) (fun hc F58 H59 g60 hS61 => ?_) (fun hc F68 H69 g70 hS71 => ?_)
      · rw [if_pos hc] at m
        refine s_raiseF (d := (eS ("gaps" : Str))) (x := "NoStore") (f := "part") hS61 d_str (by decide) (by decide) (fun dd66 F62 H63 g64 hS65 xd67 => ?_)
        obtain rfl := sm m
        exact qx _ rfl _ _ _ (Gr.tr g14 (Gr.tr g18 (Gr.tr g54 (Gr.tr g60 g64)))) hS65 xd67
      · rw [if_neg (bf hc)] at m
        refine nxt ?_
        obtain ⟨x72, k73, m⟩ := bnd m
        refine s_if (b := (!x72)) hS71 (t_not (t_B (K := K) (d_call (A := A_is_within) (B := eB) (x := (most_26, (1 : Int), (20 : Int))) (a_cons (d_var rfl (.int _)) (a_cons d_int (a_cons d_int a_nil))) k73))) (fun hc F74 H75 g76 hS77 => ?_) (fun hc F84 H85 g86 hS87 => ?_)
        · rw [if_pos hc] at m
          refine s_raiseF (d := (eS ("most" : Str))) (x := "NoStore") (f := "part") hS77 d_str (by decide) (by decide) (fun dd82 F78 H79 g80 hS81 xd83 => ?_)
          obtain rfl := sm m
          exact qx _ rfl _ _ _ (Gr.tr g14 (Gr.tr g18 (Gr.tr g54 (Gr.tr g70 (Gr.tr g76 g80))))) hS81 xd83
        · rw [if_neg (bf hc)] at m
          refine nxt ?_
          obtain ⟨x88, k89, m⟩ := bnd m
          refine s_if (b := (!x88)) hS87 (t_not (t_B (K := K) (d_call (A := A_are_boxes) (B := eB) (x := (rooms_22, boxes_28)) (a_cons (d_var rfl (Dt.gr (Gr.tr g54 (Gr.tr g70 g86)) hw36)) (a_cons (d_var rfl (Dt.gr (Gr.tr g54 (Gr.tr g70 g86)) hw39)) a_nil)) k89))) (fun hc F90 H91 g92 hS93 => ?_) (fun hc F100 H101 g102 hS103 => ?_)
          · rw [if_pos hc] at m
            refine s_raiseF (d := (eS ("boxes" : Str))) (x := "NoStore") (f := "part") hS93 d_str (by decide) (by decide) (fun dd98 F94 H95 g96 hS97 xd99 => ?_)
            obtain rfl := sm m
            exact qx _ rfl _ _ _ (Gr.tr g14 (Gr.tr g18 (Gr.tr g54 (Gr.tr g70 (Gr.tr g86 (Gr.tr g92 g96)))))) hS97 xd99
          · rw [if_neg (bf hc)] at m
            refine nxt ?_
            obtain rfl := sm m
            exact q _ rfl _ _ _ (Gr.tr g14 (Gr.tr g18 (Gr.tr g54 (Gr.tr g70 (Gr.tr g86 g102))))) hS103 Dt.non
theorem sc_look_at_store : FnScope N_look_at_store ["thing"] (defScope s_look_at_store) := ⟨rfl, rfl, rfl, by decide +kernel, rfl, by decide +kernel, by decide +kernel⟩
theorem ok_look_at_store {P : Program} {w : World} {K : PySem.W.Frag} {mg : Str → Option Value} {base : Heap} (hF : Df K mg "look_at_store" s_look_at_store) (m_isinstance : mg "isinstance" = none) (m_len : mg "len" = none) (m_tuple : mg "tuple" = none) (c_FARTHEST : ∃ t, mg "FARTHEST" = some (.int 1000000000 t)) (c_FEWEST_BAYS : ∃ t, mg "FEWEST_BAYS" = some (.int 2 t)) (c_MOST_BAYS : ∃ t, mg "MOST_BAYS" = some (.int 16 t)) (c_MOST_LOAD : ∃ t, mg "MOST_LOAD" = some (.int 20 t)) (c_MOST_ROOM : ∃ t, mg "MOST_ROOM" = some (.int 40 t)) (o_are_boxes : Ok P w K mg base 4 "are_boxes" ["rooms", "thing"] (sp_are_boxes K)) (o_is_within : Ok P w K mg base 2 "is_within" ["thing", "least", "greatest"] (sp_is_within K)) (o_are_within : Ok P w K mg base 3 "are_within" ["thing", "least", "greatest"] (sp_are_within K)) (i_NoStore : OkI P w K mg base "NoStore" "part") : OkX P w K mg base 5 "look_at_store" ["thing"] (sp_look_at_store K) := by
  obtain ⟨_, c_FARTHEST⟩ := c_FARTHEST
  obtain ⟨_, c_FEWEST_BAYS⟩ := c_FEWEST_BAYS
  obtain ⟨_, c_MOST_BAYS⟩ := c_MOST_BAYS
  obtain ⟨_, c_MOST_LOAD⟩ := c_MOST_LOAD
  obtain ⟨_, c_MOST_ROOM⟩ := c_MOST_ROOM
  obtain ⟨⟨_, G_are_boxes, bd_are_boxes, _⟩, kp_are_boxes, gm_are_boxes⟩ := o_are_boxes
  obtain ⟨⟨_, G_is_within, bd_is_within, _⟩, kp_is_within, gm_is_within⟩ := o_is_within
  obtain ⟨⟨_, G_are_within, bd_are_within, _⟩, kp_are_within, gm_are_within⟩ := o_are_within
  obtain ⟨⟨fd, F⟩, gm⟩ := hF
  refine ⟨⟨fd, F.ok sc_look_at_store (fun vs H Q E h => ?_) (fun cdv A outer s H vs Q E hr h => ⟨t_look_at_store K E, ?_, w_look_at_store vs H Q E h⟩), F.bindsN fun _ _ _ _ _ _ us hl => match us, hl with | [_], _ => rfl, lk_of F⟩, F.kp, gm⟩
  · obtain ⟨F0, cs, x, y, h, _⟩ := h; exact Dts.len h
  · refine pss_tk (W := WX0 E) (takes_of (E := E) rfl rfl rfl rfl) fun tkE => ?_
    exact (pss_cons (ps_if (PW.pt (pw_or (pt_not (pt_val (pe_callB call_isi (by rfl) m_isinstance (by decide +kernel) (pa_cons (pv 0) (pa_cons (pe_bltn (v := .ty "tuple") (by rfl) m_tuple (by decide +kernel) rfl) pa_nil))))) (pw_or1 (pt_cmpR op_ne (pe_callB cr_lenL (by rfl) m_len PySem.boot_len (pa_cons (pv 0) pa_nil)) pe_int (nomark _))))) (pss_one (ps_raiseF rfl tkE i_NoStore (hr.mono (by decide)) (by rfl) pe_str)) pss_nil) (pss_cons (ps_asg (pv 0) (pg_tup rfl (pgs_cons (pg_name (i := 1) sc_look_at_store.nd rfl (Or.inl rfl)) (pgs_cons (pg_name (i := 2) sc_look_at_store.nd rfl (Or.inl rfl)) (pgs_cons (pg_name (i := 3) sc_look_at_store.nd rfl (Or.inl rfl)) (pgs_cons (pg_name (i := 4) sc_look_at_store.nd rfl (Or.inl rfl)) pgs_nil)))))) (pss_cons (ps_if (PW.pt (pw_or (pt_not (pt_val (pe_call G_are_within (hr.mono (by decide)) (by rfl) gm_are_within kp_are_within bd_are_within .nil pass0 (pa_cons (pv 1) (pa_cons pe_int (pa_cons (pe_glob (v := .int 40) (by rfl) c_MOST_ROOM ⟨_, rfl⟩) pa_nil)))))) (pw_or1 (pt_not (pt_chain op_le op_le (pe_glob (v := .int 2) (by rfl) c_FEWEST_BAYS ⟨_, rfl⟩) (pe_callB cr_lenL (by rfl) m_len PySem.boot_len (pa_cons (pv 1) pa_nil)) (pe_glob (v := .int 16) (by rfl) c_MOST_BAYS ⟨_, rfl⟩)))))) (pss_one (ps_raiseF rfl tkE i_NoStore (hr.mono (by decide)) (by rfl) pe_str)) pss_nil) (pss_cons (ps_if (PW.pt (pw_or (pt_not (pt_val (pe_call G_are_within (hr.mono (by decide)) (by rfl) gm_are_within kp_are_within bd_are_within .nil pass0 (pa_cons (pv 2) (pa_cons pe_int (pa_cons (pe_glob (v := .int 1000000000) (by rfl) c_FARTHEST ⟨_, rfl⟩) pa_nil)))))) (pw_or1 (pt_cmpR op_ne (pe_callB cr_lenL (by rfl) m_len PySem.boot_len (pa_cons (pv 2) pa_nil)) (pe_op op_sub (pe_callB cr_lenL (by rfl) m_len PySem.boot_len (pa_cons (pv 1) pa_nil)) pe_int) (nomark _))))) (pss_one (ps_raiseF rfl tkE i_NoStore (hr.mono (by decide)) (by rfl) pe_str)) pss_nil) (pss_cons (ps_if (pt_not (pt_val (pe_call G_is_within (hr.mono (by decide)) (by rfl) gm_is_within kp_is_within bd_is_within .nil pass0 (pa_cons (pv 3) (pa_cons pe_int (pa_cons (pe_glob (v := .int 20) (by rfl) c_MOST_LOAD ⟨_, rfl⟩) pa_nil)))))) (pss_one (ps_raiseF rfl tkE i_NoStore (hr.mono (by decide)) (by rfl) pe_str)) pss_nil) (pss_one (ps_if (pt_not (pt_val (pe_call G_are_boxes (hr.mono (by decide)) (by rfl) gm_are_boxes kp_are_boxes bd_are_boxes .nil pass0 (pa_cons (pv 1) (pa_cons (pv 4) pa_nil))))) (pss_one (ps_raiseF rfl tkE i_NoStore (hr.mono (by decide)) (by rfl) pe_str)) pss_nil)))))))
abbrev s_Cart_D : Stmt := ((clsB (top 37)).getD 0 (.Pass ⟨0, 0, 0, 0⟩))
def f_Cart_D : PyData → Option (Rs Unit) := fun store_1 => (((f_look_at_store_D store_1)).bind fun x4 => (match x4 with | .ok y14 => none | .ex c15 => some (Rs.ex c15)))
abbrev A_Cart_D : PyData → List PyData := fun x => [eD x]
abbrev N_Cart_D : List Str := ["self", "store", "rooms", "gaps", "most", "boxes", "name", "at", "to"]
abbrev sp_Cart_D (K : PySem.W.Frag) : Sp := spMX K (He.ga K "Cart") A_Cart_D f_Cart_D
def t_Cart_D (K : PySem.W.Frag) (E : XK) : TS := (tSeq (tDrop (tCallS (sp_look_at_store_D K) (WE (WX0 E)) (tCons (tVar 1) tNil))) (tSeq tNever (tSeq tNever (tSeq tNever (tSeq tNever (tSeq tNever (tSeq tNever (tSeq tNever tNever))))))))
theorem w_Cart_D {K : PySem.W.Frag} (vs : List V) (H : Hp) (Q : VK) (E : XK) (h : sp_Cart_D K vs H Q E) : t_Cart_D K E { nx := fun _ H' => Q .non H', rt := Q } (start N_Cart_D vs) H := by
  obtain ⟨F0, cs, a0, dx0, ws, store_1, e0, rfl, h, hS0, m, qx⟩ := h
  obtain ⟨v2, _, rfl, h3, h⟩ := Dts.hd h
  obtain rfl := Dts.no h
  unfold f_Cart_D at m
  try dsimp only at m
  unfold t_Cart_D
  refine go (σ' := [some (.ref a0), some v2, none, none, none, none, none, none, none]) rfl ?_
  obtain ⟨x4, k5, m⟩ := bnd m
  refine s_dropX (B := eN) hS0 (x_call (A := A_look_at_store_D) (x := store_1) (a_cons (d_var rfl h3) a_nil) k5) (fun y14 hy16 F6 H7 g8 hS9 => ?_) (fun c15 hc17 dd18 F10 H11 g12 hS13 xd19 => ?_)
  · subst hy16
    try dsimp only at m
    cases m
  · subst hc17
    try dsimp only at m
    have hS20 := Sta.perm hS13 (List.Perm.trans (List.perm_middle (l₁ := [(a0, HO.ins (He.ga K "Cart") dx0 [])])) (List.perm_middle (l₁ := [(dx0, HO.own a0)])))
    have hS21 := sb_drop _ _ hS20
    have hS22 := sb_drop _ _ hS21
    obtain rfl := exinj m
    exact qx _ _ _ g12 hS22 xd19
theorem sc_Cart_D : FnScope N_Cart_D ["self", "store"] (defScope s_Cart_D) := ⟨rfl, rfl, rfl, by decide +kernel, rfl, by decide +kernel, by decide +kernel⟩
theorem ok_Cart_D {P : Program} {w : World} {K : PySem.W.Frag} {mg : Str → Option Value} {base : Heap} (hF : DfM K "Cart" "__init__" "Cart.__init__" s_Cart_D) (gm : mg "Cart" = some (.ref (He.ga K "Cart"))) (mk : Mk K (He.ga K "Cart") (He.ma K (He.ga K "Cart") "__init__")) (o_look_at_store_D : OkX P w K mg base 5 "look_at_store" ["thing"] (sp_look_at_store_D K)) : OkM P w K mg base 6 "Cart" ["self", "store"] (sp_Cart_D K) := by
  obtain ⟨⟨_, G_look_at_store_D, bd_look_at_store_D, _⟩, kp_look_at_store_D, gm_look_at_store_D⟩ := o_look_at_store_D
  obtain ⟨fd, F⟩ := hF
  refine ⟨⟨fd, F.ok sc_Cart_D (fun vs H Q E h => ?_) (fun cdv A outer s H vs Q E hr h => ⟨t_Cart_D K E, ?_, w_Cart_D vs H Q E h⟩), F.bindsN fun _ _ _ _ _ _ us hl => match us, hl with | [_, _], _ => rfl⟩, gm, mk⟩
  · obtain ⟨F0, cs, a, dx, ws, x, e, rfl, h, _⟩ := h; exact congrArg Nat.succ (Dts.len h)
  · refine pss_tk (W := WX0 E) (takes_of (E := E) rfl rfl rfl rfl) fun tkE => ?_
    exact (pss_cons (ps_expr (pe_callS (E := WE (WX0 E)) G_look_at_store_D (hr.mono (by decide)) (by rfl) gm_look_at_store_D kp_look_at_store_D bd_look_at_store_D (fun σ => passAt tkE σ) (pa_cons (pv 1) pa_nil))) (pss_cons ps_never (pss_cons ps_never (pss_cons ps_never (pss_cons ps_never (pss_cons ps_never (pss_cons ps_never (pss_cons ps_never (pss_one ps_never)))))))))
abbrev s_Cart_2 : Stmt := ((clsB (top 37)).getD 0 (.Pass ⟨0, 0, 0, 0⟩))
def f_Cart_2 : ((List Int) × (List Int) × Int × (List (Str × Int × Int))) → Option T_Cart := fun store_1 => (((f_look_at_store store_1)).bind fun x2 => ((okM x2)).bind fun x4 => (letM store_1.1 fun x26 => (letM store_1.2.1 fun x37 => (letM store_1.2.2.1 fun x48 => (((mapC (fun (name_58, at_59, to_60) => (name_58, at_59)) store_1.2.2.2)).bind fun x79 => letM (mkD x79) fun d81 => (((mapC (fun (name_90, at_91, to_92) => (name_90, to_92)) store_1.2.2.2)).bind fun x111 => letM (mkD x111) fun d113 => some (x26, x37, x48, d81, d113, (0 : Int), (0 : Int))))))))
abbrev N_Cart_2 : List Str := ["self", "store", "rooms", "gaps", "most", "boxes", "name", "at", "to"]
abbrev A_Cart_2 : ((List Int) × (List Int) × Int × (List (Str × Int × Int))) → List PyData := fun x => [(eT4 (eL eI) (eL eI) eI (eL (eT3 eS eI eI))) x]
abbrev sp_Cart_2 (K : PySem.W.Frag) : Sp := spMk K (He.ga K "Cart") A_Cart_2 (O_Cart K) f_Cart_2
def t_Cart_2 (K : PySem.W.Frag) : TS := (tSeq (tDrop (tCallS (sp_look_at_store K) (fun _ => XF0) (tCons (tVar 1) tNil))) (tSeq (tAsg (tVar 1) (gTup K 4 (gCons (gName 2) (gCons (gName 3) (gCons (gName 4) (gCons (gName 5) gNil)))))) (tSeq (sFld K (tVar 0) (tCB (rListS K) (tCons (tVar 2) tNil)) "rooms") (tSeq (sFld K (tVar 0) (tCB (rListS K) (tCons (tVar 3) tNil)) "gaps") (tSeq (sFld K (tVar 0) (tVar 4) "most") (tSeq (sFld K (tVar 0) (tCB (rDictP K) (tCons (tLc (iList K (tVar 5)) (gTup K 3 (gCons (gName 6) (gCons (gName 7) (gCons (gName 8) gNil)))) tYes (tTup (tCons (tVar 6) (tCons (tVar 7) tNil))) [6, 7, 8]) tNil)) "spots") (tSeq (sFld K (tVar 0) (tCB (rDictP K) (tCons (tLc (iList K (tVar 5)) (gTup K 3 (gCons (gName 6) (gCons (gName 7) (gCons (gName 8) gNil)))) tYes (tTup (tCons (tVar 6) (tCons (tVar 8) tNil))) [6, 7, 8]) tNil)) "homes") (tSeq (sFld K (tVar 0) (tC (.int 0)) "bay") (sFld K (tVar 0) (tC (.int 0)) "gone")))))))))
theorem w_Cart_2 {K : PySem.W.Frag} (cl_Cart : Cls K (He.ga K "Cart")) (na_Cart_bay : NoAttr K (He.ga K "Cart") "bay") (na_Cart_gaps : NoAttr K (He.ga K "Cart") "gaps") (na_Cart_gone : NoAttr K (He.ga K "Cart") "gone") (na_Cart_homes : NoAttr K (He.ga K "Cart") "homes") (na_Cart_most : NoAttr K (He.ga K "Cart") "most") (na_Cart_rooms : NoAttr K (He.ga K "Cart") "rooms") (na_Cart_spots : NoAttr K (He.ga K "Cart") "spots") (vs : List V) (H : Hp) (Q : VK) (E : XK) (h : sp_Cart_2 K vs H Q E) : t_Cart_2 K { nx := fun _ H' => Q .non H', rt := Q } (start N_Cart_2 vs) H := by
  obtain ⟨F0, cs, z0, dx0, ws, store_1, y, rfl, h, hS0, m, q⟩ := h
  obtain ⟨a0, _, rfl, ha0, h⟩ := Dts.hd h
  obtain rfl := Dts.no h
  have hS1 : Sta F0 ((z0, .ins (He.ga K "Cart") dx0 []) :: (dx0, .own z0) :: cs) H := hS0
  unfold f_Cart_2 at m
  try dsimp only at m
  unfold t_Cart_2
  refine go (σ' := [some (.ref z0), some a0, none, none, none, none, none, none, none]) rfl ?_
  obtain ⟨x2, k3, m⟩ := bnd m
  obtain ⟨x4, k5, m⟩ := bnd m
  refine s_drop (K := K) (d := eN x4) hS1 (dx_call (A := A_look_at_store) (B := eN) (x := store_1) (a_cons (d_var rfl ha0) a_nil) (k3.trans (congrArg some (okM_some k5)))) (fun F6 H7 g8 hS9 => ?_)
  refine s_asg (K := K) (d := (eT4 (eL eI) (eL eI) eI (eL (eT3 eS eI eI))) store_1) hS9 (d_var rfl (Dt.gr g8 ha0)) (fun v14 F10 H11 g12 hS13 hv15 => ?_)
  obtain ⟨p16, w18, w19, w20, w21, rfl, hT17, hw22, hw23, hw24, hw25⟩ := u4 hv15
  obtain rfl := Dt.toInt hw24
  refine tg (σ' := [some (.ref z0), some a0, some w18, some w19, some (.int store_1.2.2.1), some w21, none, none, none]) (fun Q hq => ⟨p16, [_, _, _, _], rfl, gr_T hS13.fr hT17, rfl, _, _, rfl, _, _, rfl, _, _, rfl, _, _, rfl, rfl, hq⟩) ?_
  refine s_fldO ?_
  obtain ⟨x26, k27, m⟩ := lt m
  refine o_c (K := K) (ds := x26.map eI) hS13 (c_is (c_list (a_cons (d_var rfl hw22) a_nil)) (congrArg (List.map eI) k27)) (fun p32 us33 F28 H29 g30 hS31 hu34 => ?_)
  obtain rfl := Dts.ints hu34
  refine o_fld (σ := [some (.ref z0), some a0, some w18, some w19, some (.int store_1.2.2.1), some w21, none, none, none]) (ta := (tVar 0)) (l1 := [(p32, .lst (x26.map V.int))]) (fs' := [("rooms", (.ref p32))]) hS31 (vp_var rfl) cl_Cart na_Cart_rooms (Nat.le_of_ble_eq_true rfl) rfl (fun H35 hS36 => ?_)
  refine s_fldO ?_
  obtain ⟨x37, k38, m⟩ := lt m
  refine o_c (K := K) (ds := x37.map eI) hS36 (c_is (c_list (a_cons (d_var rfl (Dt.gr g30 hw23)) a_nil)) (congrArg (List.map eI) k38)) (fun p43 us44 F39 H40 g41 hS42 hu45 => ?_)
  obtain rfl := Dts.ints hu45
  refine o_fld (σ := [some (.ref z0), some a0, some w18, some w19, some (.int store_1.2.2.1), some w21, none, none, none]) (ta := (tVar 0)) (l1 := [(p43, .lst (x37.map V.int)), (p32, .lst (x26.map V.int))]) (fs' := [("rooms", (.ref p32)), ("gaps", (.ref p43))]) hS42 (vp_var rfl) cl_Cart na_Cart_gaps (Nat.le_of_ble_eq_true rfl) rfl (fun H46 hS47 => ?_)
  refine s_fldO ?_
  obtain ⟨x48, k49, m⟩ := lt m
  refine o_d (K := K) (d := eI x48) hS47 (d_is (d_var rfl (.int _)) (congrArg eI k49)) (fun v54 F50 H51 g52 hS53 hv55 => ?_)
  obtain rfl := Dt.toInt hv55
  refine o_fld (σ := [some (.ref z0), some a0, some w18, some w19, some (.int store_1.2.2.1), some w21, none, none, none]) (ta := (tVar 0)) (l1 := [(p43, .lst (x37.map V.int)), (p32, .lst (x26.map V.int))]) (fs' := [("rooms", (.ref p32)), ("gaps", (.ref p43)), ("most", (.int x48))]) hS53 (vp_var rfl) cl_Cart na_Cart_most (Nat.le_of_ble_eq_true rfl) rfl (fun H56 hS57 => ?_)
  refine s_fldO ?_
  obtain ⟨x79, k80, m⟩ := bnd m
  obtain ⟨d81, k82, m⟩ := lt m
  refine o_dictP (K := K) (ev := eI) (vf := V.int) (xs := x79) (fun _ _ _ h => Dt.toInt h) hS57 (a_cons (EvC.dd (c_mapC (K := K) (f := (fun (name_58, at_59, to_60) => (name_58, at_59))) (em := (eT2 eS eI)) (i_list (en := (eT3 eS eI eI)) (d_var rfl (Dt.gr (Gr.tr g30 (Gr.tr g41 g52)) hw25))) k80 (fun ⟨name_58, at_59, to_60⟩ o67 v68 F61 p62 us63 g64 hv65 ho66 => by obtain ⟨p71, w73, w74, w75, rfl, hT72, hw76, hw77, hw78⟩ := u3 hv65; obtain rfl := Dt.toStr hw76; obtain rfl := Dt.toInt hw77; obtain rfl := Dt.toInt hw78; obtain rfl := sm ho66; exact ⟨[some (.ref z0), some a0, some w18, some w19, some (.int store_1.2.2.1), some w21, some (.str name_58), some (.int at_59), some (.int to_60)], fun H70 Q hS69 hq => (fun Q hq => ⟨p71, [_, _, _], rfl, gr_T hS69.fr hT72, rfl, _, _, rfl, _, _, rfl, _, _, rfl, rfl, hq⟩) Q hq, rfl, t_yes, fun y hy => by obtain rfl := sm hy; exact (d_tup (a_cons (d_var rfl (.str _)) (a_cons (d_var rfl (.int _)) a_nil)) (Nat.le_of_ble_eq_true rfl))⟩))) a_nil) k82 (fun p87 F83 H84 g85 hS86 => ?_)
  refine o_fld (σ := [some (.ref z0), some a0, some w18, some w19, some (.int store_1.2.2.1), some w21, none, none, none]) (ta := (tVar 0)) (l1 := [(p87, .dK (kvE kS V.int d81)), (p43, .lst (x37.map V.int)), (p32, .lst (x26.map V.int))]) (fs' := [("rooms", (.ref p32)), ("gaps", (.ref p43)), ("most", (.int x48)), ("spots", (.ref p87))]) hS86 (vp_var rfl) cl_Cart na_Cart_spots (Nat.le_of_ble_eq_true rfl) rfl (fun H88 hS89 => ?_)
  refine s_fldO ?_
  obtain ⟨x111, k112, m⟩ := bnd m
  obtain ⟨d113, k114, m⟩ := lt m
  refine o_dictP (K := K) (ev := eI) (vf := V.int) (xs := x111) (fun _ _ _ h => Dt.toInt h) hS89 (a_cons (EvC.dd (c_mapC (K := K) (f := (fun (name_90, at_91, to_92) => (name_90, to_92))) (em := (eT2 eS eI)) (i_list (en := (eT3 eS eI eI)) (d_var rfl (Dt.gr (Gr.tr g30 (Gr.tr g41 (Gr.tr g52 g85))) hw25))) k112 (fun ⟨name_90, at_91, to_92⟩ o99 v100 F93 p94 us95 g96 hv97 ho98 => by obtain ⟨p103, w105, w106, w107, rfl, hT104, hw108, hw109, hw110⟩ := u3 hv97; obtain rfl := Dt.toStr hw108; obtain rfl := Dt.toInt hw109; obtain rfl := Dt.toInt hw110; obtain rfl := sm ho98; exact ⟨[some (.ref z0), some a0, some w18, some w19, some (.int store_1.2.2.1), some w21, some (.str name_90), some (.int at_91), some (.int to_92)], fun H102 Q hS101 hq => (fun Q hq => ⟨p103, [_, _, _], rfl, gr_T hS101.fr hT104, rfl, _, _, rfl, _, _, rfl, _, _, rfl, rfl, hq⟩) Q hq, rfl, t_yes, fun y hy => by obtain rfl := sm hy; exact (d_tup (a_cons (d_var rfl (.str _)) (a_cons (d_var rfl (.int _)) a_nil)) (Nat.le_of_ble_eq_true rfl))⟩))) a_nil) k114 (fun p119 F115 H116 g117 hS118 => ?_)
  refine o_fld (σ := [some (.ref z0), some a0, some w18, some w19, some (.int store_1.2.2.1), some w21, none, none, none]) (ta := (tVar 0)) (l1 := [(p119, .dK (kvE kS V.int d113)), (p87, .dK (kvE kS V.int d81)), (p43, .lst (x37.map V.int)), (p32, .lst (x26.map V.int))]) (fs' := [("rooms", (.ref p32)), ("gaps", (.ref p43)), ("most", (.int x48)), ("spots", (.ref p87)), ("homes", (.ref p119))]) hS118 (vp_var rfl) cl_Cart na_Cart_homes (Nat.le_of_ble_eq_true rfl) rfl (fun H120 hS121 => ?_)
  refine s_fldO ?_
  refine o_d (K := K) (d := eI (0 : Int)) hS121 d_int (fun v126 F122 H123 g124 hS125 hv127 => ?_)
  obtain rfl := Dt.toInt hv127
  refine o_fld (σ := [some (.ref z0), some a0, some w18, some w19, some (.int store_1.2.2.1), some w21, none, none, none]) (ta := (tVar 0)) (l1 := [(p119, .dK (kvE kS V.int d113)), (p87, .dK (kvE kS V.int d81)), (p43, .lst (x37.map V.int)), (p32, .lst (x26.map V.int))]) (fs' := [("rooms", (.ref p32)), ("gaps", (.ref p43)), ("most", (.int x48)), ("spots", (.ref p87)), ("homes", (.ref p119)), ("bay", (.int (0 : Int)))]) hS125 (vp_var rfl) cl_Cart na_Cart_bay (Nat.le_of_ble_eq_true rfl) rfl (fun H128 hS129 => ?_)
  refine s_fldO ?_
  refine o_d (K := K) (d := eI (0 : Int)) hS129 d_int (fun v134 F130 H131 g132 hS133 hv135 => ?_)
  obtain rfl := Dt.toInt hv135
  refine o_fld (σ := [some (.ref z0), some a0, some w18, some w19, some (.int store_1.2.2.1), some w21, none, none, none]) (ta := (tVar 0)) (l1 := [(p119, .dK (kvE kS V.int d113)), (p87, .dK (kvE kS V.int d81)), (p43, .lst (x37.map V.int)), (p32, .lst (x26.map V.int))]) (fs' := [("rooms", (.ref p32)), ("gaps", (.ref p43)), ("most", (.int x48)), ("spots", (.ref p87)), ("homes", (.ref p119)), ("bay", (.int (0 : Int))), ("gone", (.int (0 : Int)))]) hS133 (vp_var rfl) cl_Cart na_Cart_gone (Nat.le_of_ble_eq_true rfl) rfl (fun H136 hS137 => ?_)
  have hS138 := Sta.perm hS137 (List.Perm.trans (List.perm_middle (l₁ := [(p119, HO.dK (kvE kS V.int d113))])) (List.Perm.trans (List.perm_middle (l₁ := [(p87, HO.dK (kvE kS V.int d81)), (p119, HO.dK (kvE kS V.int d113))])) (List.Perm.trans (List.perm_middle (l₁ := [(p43, HO.lst (x37.map V.int)), (p87, HO.dK (kvE kS V.int d81)), (p119, HO.dK (kvE kS V.int d113))])) (List.Perm.trans (List.perm_middle (l₁ := [(p32, HO.lst (x26.map V.int)), (p43, HO.lst (x37.map V.int)), (p87, HO.dK (kvE kS V.int d81)), (p119, HO.dK (kvE kS V.int d113)), (z0, HO.ins (He.ga K "Cart") dx0 [("rooms", (.ref p32)), ("gaps", (.ref p43)), ("most", (.int x48)), ("spots", (.ref p87)), ("homes", (.ref p119)), ("bay", (.int (0 : Int))), ("gone", (.int (0 : Int)))])])) (List.perm_middle (l₁ := [(dx0, HO.own z0), (p32, HO.lst (x26.map V.int)), (p43, HO.lst (x37.map V.int)), (p87, HO.dK (kvE kS V.int d81)), (p119, HO.dK (kvE kS V.int d113))]))))))
  obtain rfl := sm m
  exact q [(z0, HO.ins (He.ga K "Cart") dx0 [("rooms", (.ref p32)), ("gaps", (.ref p43)), ("most", (.int x48)), ("spots", (.ref p87)), ("homes", (.ref p119)), ("bay", (.int (0 : Int))), ("gone", (.int (0 : Int)))]), (dx0, HO.own z0), (p32, HO.lst (x26.map V.int)), (p43, HO.lst (x37.map V.int)), (p87, HO.dK (kvE kS V.int d81)), (p119, HO.dK (kvE kS V.int d113))] _ _ (Gr.tr g8 (Gr.tr g12 (Gr.tr g30 (Gr.tr g41 (Gr.tr g52 (Gr.tr g85 (Gr.tr g117 (Gr.tr g124 g132)))))))) hS138 ⟨_, _, _, _, _, rfl⟩
theorem sc_Cart_2 : FnScope N_Cart_2 ["self", "store"] (defScope s_Cart_2) := ⟨rfl, rfl, rfl, by decide +kernel, rfl, by decide +kernel, by decide +kernel⟩
theorem ok_Cart_2 {P : Program} {w : World} {K : PySem.W.Frag} {mg : Str → Option Value} {base : Heap} (hF : DfM K "Cart" "__init__" "Cart.__init__" s_Cart_2) (gmM : mg "Cart" = some (.ref (He.ga K "Cart"))) (mkM : Mk K (He.ga K "Cart") (He.ma K (He.ga K "Cart") "__init__")) (m_dict : mg "dict" = none) (m_list : mg "list" = none) (o_look_at_store : OkX P w K mg base 5 "look_at_store" ["thing"] (sp_look_at_store K)) (cl_Cart : Cls K (He.ga K "Cart")) (na_Cart_bay : NoAttr K (He.ga K "Cart") "bay") (na_Cart_gaps : NoAttr K (He.ga K "Cart") "gaps") (na_Cart_gone : NoAttr K (He.ga K "Cart") "gone") (na_Cart_homes : NoAttr K (He.ga K "Cart") "homes") (na_Cart_most : NoAttr K (He.ga K "Cart") "most") (na_Cart_rooms : NoAttr K (He.ga K "Cart") "rooms") (na_Cart_spots : NoAttr K (He.ga K "Cart") "spots") : OkMk P w K mg base CX0 6 "Cart" ["self", "store"] (sp_Cart_2 K) := by
  obtain ⟨⟨_, G_look_at_store, bd_look_at_store, _⟩, kp_look_at_store, gm_look_at_store⟩ := o_look_at_store
  obtain ⟨fd, F⟩ := hF
  refine ⟨⟨fd, F.ok sc_Cart_2 (fun vs H Q E h => ?_) (fun cdv A outer s H vs Q E hr h => ⟨t_Cart_2 K, PSs.nox ?_, w_Cart_2 cl_Cart na_Cart_bay na_Cart_gaps na_Cart_gone na_Cart_homes na_Cart_most na_Cart_rooms na_Cart_spots vs H Q E h⟩), F.bindsN fun _ _ _ _ _ _ us hl => match us, hl with | [_, _], _ => rfl⟩, gmM, mkM⟩
  · obtain ⟨F0, cs, a, dx, ws, x, y, rfl, h, _⟩ := h; exact congrArg Nat.succ (Dts.len h)
  · exact (pss_cons (ps_expr (pe_callS (E := fun _ => XF0) G_look_at_store (hr.mono (by decide)) (by rfl) gm_look_at_store kp_look_at_store bd_look_at_store (fun σ => passF σ) (pa_cons (pv 1) pa_nil))) (pss_cons (ps_asg (pv 1) (pg_tup rfl (pgs_cons (pg_name (i := 2) sc_Cart_2.nd rfl (Or.inl rfl)) (pgs_cons (pg_name (i := 3) sc_Cart_2.nd rfl (Or.inl rfl)) (pgs_cons (pg_name (i := 4) sc_Cart_2.nd rfl (Or.inl rfl)) (pgs_cons (pg_name (i := 5) sc_Cart_2.nd rfl (Or.inl rfl)) pgs_nil)))))) (pss_cons (ps_fld (pv 0) (pe_callTy cr_list (by rfl) m_list (by decide +kernel) (pa_cons (pv 2) pa_nil)) rfl) (pss_cons (ps_fld (pv 0) (pe_callTy cr_list (by rfl) m_list (by decide +kernel) (pa_cons (pv 3) pa_nil)) rfl) (pss_cons (ps_fld (pv 0) (pv 4) rfl) (pss_cons (ps_fld (pv 0) (pe_callTy (cr_dictP rfl) (by rfl) m_dict (by decide +kernel) (pa_cons (pe_lc (own := [("name", 6), ("at", 7), ("to", 8)]) (g := (gTup K 3 (gCons (gName 6) (gCons (gName 7) (gCons (gName 8) gNil))))) (tt := tYes) (te := (tTup (tCons (tVar 6) (tCons (tVar 7) tNil)))) (by rfl) sc_Cart_2.nd (pi_list (pv 5)) (blkOk_by (own := [("name", 6), ("at", 7), ("to", 8)]) (N := N_Cart_2) (sc := defScope s_Cart_2) (by decide +kernel)) (fun _ _ _ _ _ => (pg_tup rfl (pgs_cons (pg_name (i := 6) sc_Cart_2.nd rfl (Or.inl rfl)) (pgs_cons (pg_name (i := 7) sc_Cart_2.nd rfl (Or.inl rfl)) (pgs_cons (pg_name (i := 8) sc_Cart_2.nd rfl (Or.inl rfl)) pgs_nil))))) (fun _ _ _ _ _ => pts_nil) (fun _ _ _ _ _ => (pe_tup (pa_cons (pv 6) (pa_cons (pv 7) pa_nil))))) pa_nil)) rfl) (pss_cons (ps_fld (pv 0) (pe_callTy (cr_dictP rfl) (by rfl) m_dict (by decide +kernel) (pa_cons (pe_lc (own := [("name", 6), ("at", 7), ("to", 8)]) (g := (gTup K 3 (gCons (gName 6) (gCons (gName 7) (gCons (gName 8) gNil))))) (tt := tYes) (te := (tTup (tCons (tVar 6) (tCons (tVar 8) tNil)))) (by rfl) sc_Cart_2.nd (pi_list (pv 5)) (blkOk_by (own := [("name", 6), ("at", 7), ("to", 8)]) (N := N_Cart_2) (sc := defScope s_Cart_2) (by decide +kernel)) (fun _ _ _ _ _ => (pg_tup rfl (pgs_cons (pg_name (i := 6) sc_Cart_2.nd rfl (Or.inl rfl)) (pgs_cons (pg_name (i := 7) sc_Cart_2.nd rfl (Or.inl rfl)) (pgs_cons (pg_name (i := 8) sc_Cart_2.nd rfl (Or.inl rfl)) pgs_nil))))) (fun _ _ _ _ _ => pts_nil) (fun _ _ _ _ _ => (pe_tup (pa_cons (pv 6) (pa_cons (pv 8) pa_nil))))) pa_nil)) rfl) (pss_cons (ps_fld (pv 0) pe_int rfl) (pss_one (ps_fld (pv 0) pe_int rfl))))))))))
abbrev s_refused_D : Stmt := (top 50)
def f_refused_D : PyData → Option PyData := fun thing_1 => ((((f_Cart_D thing_1)).bind fun x26 => (match x26 with | .ok y32 => none | .ex c33 => (if (c33).1 ∈ xcl then some (some c33) else none)))).bind fun kept_6 => (((f_part_of kept_6)).bind fun x18 => some x18)
abbrev A_refused_D : PyData → List PyData := fun x => [eD x]
abbrev N_refused_D : List Str := ["_law_thing", "_law_kept", "e"]
abbrev sp_refused_D (K : PySem.W.Frag) : Sp := spP K A_refused_D eD f_refused_D
def t_refused_D (K : PySem.W.Frag) : TS := (tSeq (tAsg (tC .non) (gName 1)) (tSeq (tTryK K 2 1 WF0 (fun W => (tDrop (tMakeS (He.ga K "Cart") (sp_Cart_D K) (WE W) (tCons (tVar 0) tNil))))) (tRet (tCall (sp_part_of K) [] E0 (tCons (tVar 1) tNil)))))
theorem w_refused_D {K : PySem.W.Frag} (XC : XFc K xcl xts) (vs : List V) (H : Hp) (Q : VK) (E : XK) (h : sp_refused_D K vs H Q E) : t_refused_D K { nx := fun _ H' => Q .non H', rt := Q } (start N_refused_D vs) H := by
  obtain ⟨F0, cs, thing_1, y, h, hS0, m, q⟩ := h
  obtain ⟨a0, _, rfl, ha0, h⟩ := Dts.hd h
  obtain rfl := Dts.no h
  unfold f_refused_D at m
  try dsimp only at m
  unfold t_refused_D
  refine go (σ' := [some a0, none, none]) rfl ?_
  refine s_setV (K := K) (d := PyData.none) (i := 1) (σ' := [some a0, some .non, none]) (fun _ _ h => Dt.toNon h) hS0 d_non rfl (fun F2 H3 g4 hS5 => ?_)
  obtain ⟨kept_6, k8, m⟩ := bnd m
  refine s_tryJ (fun σ H => ∃ (F : Hp) (c : Cs), Gr F2 F ∧ Sta F c H ∧ ∃ (j1 : V) (j2 : Option V), σ = [some a0, some j1, j2] ∧ cs = c ∧ Xv K xcl F j1 kept_6) ?_ (fun jn7 => ?_)
  · rintro σ14 H10 ⟨F9, c13, g11, hS12, v15, u16, rfl, rfl, h17⟩
    obtain ⟨x18, k19, m⟩ := bnd m
    refine s_ret (K := K) (d := eD x18) hS12 (d_callX1 (i := 1) rfl h17 k19) (fun v24 F20 H21 g22 hS23 hv25 => ?_)
    obtain rfl := sm m
    exact q _ _ _ (Gr.tr g4 (Gr.tr g11 g22)) hS23 hv25
  · obtain ⟨x26, k27, k8⟩ := bnd k8
    cases x26 with
    | ok y32 => (try dsimp only at k8); cases k8
    | ex c33 =>
      refine s_dropX (r := .ex c33) (B := eN) hS5 (x_makeX (A := A_Cart_D) (x := thing_1) (a_cons (d_var rfl (Dt.gr g4 ha0)) a_nil) k27) (fun _ hy => nomatch hy) (fun c36 hc37 dd34 F28 H29 g30 hS31 xd35 => ?_)
      cases hc37
      try dsimp only at k8
      by_cases hcl44 : (c33).1 ∈ xcl
      case neg => rw [if_neg hcl44] at k8; cases k8
      rw [if_pos hcl44] at k8
      refine s_catch (σ' := fun a38 => [some a0, some (.ref a38), none]) XC hcl44 hS31 xd35 (fun _ => rfl) (fun _ => rfl) (fun a38 F39 H40 g41 hS42 ha43 => ?_)
      obtain rfl := sm k8
      exact jn7 _ _ ⟨_, _, (Gr.tr g30 g41), hS42, _, _, rfl, rfl, ha43⟩
theorem sc_refused_D : FnScope N_refused_D ["_law_thing"] (defScope s_refused_D) := ⟨rfl, rfl, rfl, by decide +kernel, rfl, by decide +kernel, by decide +kernel⟩
theorem ok_refused_D {P : Program} {w : World} {K : PySem.W.Frag} {mg : Str → Option Value} {base : Heap} (hF : Df K mg "_law_refused" s_refused_D) (o_part_of : Ok P w K mg base 1 "_law_part_of" ["_law_kept"] (sp_part_of K)) (o_Cart_D : OkM P w K mg base 6 "Cart" ["self", "store"] (sp_Cart_D K)) (XC : XFc K xcl xts) (g_CartError : mg "CartError" = some (.ref (He.ga K "CartError"))) : Ok P w K mg base 8 "_law_refused" ["_law_thing"] (sp_refused_D K) := by
  obtain ⟨⟨_, G_part_of, bd_part_of, _⟩, kp_part_of, gm_part_of⟩ := o_part_of
  obtain ⟨⟨_, G_Cart_D, bd_Cart_D⟩, gm_Cart_D, mk_Cart_D⟩ := o_Cart_D
  obtain ⟨⟨fd, F⟩, gm⟩ := hF
  refine ⟨⟨fd, F.ok sc_refused_D (fun vs H Q E h => ?_) (fun cdv A outer s H vs Q E hr h => ⟨t_refused_D K, PSs.nox ?_, w_refused_D XC vs H Q E h⟩), F.bindsN fun _ _ _ _ _ _ us hl => match us, hl with | [_], _ => rfl, lk_of F⟩, F.kp, gm⟩
  · obtain ⟨F0, cs, x, y, h, _⟩ := h; exact Dts.len h
  · exact (pss_cons (ps_set (i := 1) sc_refused_D.nd rfl (Or.inl rfl) pe_non) (pss_cons (ps_try_keep (i := 2) rfl rfl rfl sc_refused_D.nd rfl rfl ⟨by rfl, by decide, .inl g_CartError⟩ takesF (fun W pn xe tkE po => (pss_one (ps_expr (pe_makeS mk_Cart_D G_Cart_D (hr.mono (by decide)) (by rfl) gm_Cart_D bd_Cart_D (fun σ => passAt tkE σ) (pa_cons (pv 0) pa_nil))))) (fun a oe cls d pn _ _ => pss_one (ps_set (i := 1) sc_refused_D.nd rfl (Or.inl rfl) (pv 2)))) (pss_one (ps_ret (pe_call G_part_of (hr.mono (by decide)) (by rfl) gm_part_of kp_part_of bd_part_of .nil pass0 (pa_cons (pv 1) pa_nil))))))
abbrev s_crowd : Stmt := (top 45)
def f_crowd_b23 (rooms_1 : (List Int)) (bay_2 : Int) (place_3 : Int) (letters_8 : Str) : ((List (Str × Int × Int))) → Int → Option ((List (Str × Int × Int))) := fun found_26 j_27 => (((ixS letters_8 (j_27 % (26 : Int)))).bind fun x50 => ((scatM ("z" : Str) x50)).bind fun x52 => ((ixS letters_8 (j_27 / (26 : Int)))).bind fun x54 => ((scatM x52 x54)).bind fun x56 => (((modM (bay_2 + j_27) (rooms_1.length : Int))).bind fun x62 => (((atI ([(x56, bay_2, x62), (x56, x62, bay_2)] : (List (Str × Int × Int))) place_3)).bind fun x68 => ((appM found_26 x68)).bind fun found_70 => some found_70)))
def f_crowd : ((List Int) × Int × Int) → Option ((List (Str × Int × Int))) := fun (rooms_1, bay_2, place_3) => (letM ("abcdefghijklmnopqrstuvwxyz" : Str) fun letters_8 => (letM ([] : (List (Str × Int × Int))) fun found_14 => (((atI rooms_1 bay_2)).bind fun x19 => ((rngM (0 : Int) (x19 + (1 : Int)))).bind fun x21 => (x21.foldlM (f_crowd_b23 rooms_1 bay_2 place_3 letters_8) found_14).bind fun found_84 => some found_84)))
abbrev A_crowd : ((List Int) × Int × Int) → List Ar := fun x => [.d ((eL eI) x.1), .d (eI x.2.1), .d (eI x.2.2)]
abbrev B_crowd : ((List (Str × Int × Int))) → List PyData := fun y => y.map (eT3 eS eI eI)
abbrev C_crowd : ((List (Str × Int × Int))) → List (List V) := fun y => []
abbrev N_crowd : List Str := ["_law_rooms", "_law_bay", "_law_place", "_law_letters", "_law_found", "_law_j", "_law_name_here", "_law_other"]
abbrev sp_crowd (K : PySem.W.Frag) : Sp := spF K A_crowd B_crowd C_crowd f_crowd
def t_crowd (K : PySem.W.Frag) : TS := (tSeq (tAsg (tC (.str "abcdefghijklmnopqrstuvwxyz")) (gName 3)) (tSeq (tAsg (tLst tNil) (gName 4)) (tSeq (tFor (iRng1 (tCons (tOp (rI0 fun i j => .int (i + j)) (tOp (rIxL K) (tVar 0) (tVar 1)) (tC (.int 1))) tNil)) (gName 5) (tSeq (tAsg (tOp rScat (tOp rScat (tC (.str "z")) (tOp rIxS (tVar 3) (tOp (rI (fun _ j => 0 < j) fun i j => .int (i % j)) (tVar 5) (tC (.int 26))))) (tOp rIxS (tVar 3) (tOp (rI CDiv fun i j => .int (i / j)) (tVar 5) (tC (.int 26))))) (gName 6)) (tSeq (tAsg (tOp (rI (fun _ j => 0 < j) fun i j => .int (i % j)) (tOp (rI0 fun i j => .int (i + j)) (tVar 1) (tVar 5)) (tCB (rLenL K) (tCons (tVar 0) tNil))) (gName 7)) (tDrop (tBM K "list" rAppend (tVar 4) (tCons (tOp (rIxL K) (tLst (tCons (tTup (tCons (tVar 6) (tCons (tVar 1) (tCons (tVar 7) tNil)))) (tCons (tTup (tCons (tVar 6) (tCons (tVar 7) (tCons (tVar 1) tNil)))) tNil))) (tVar 2)) tNil)))))) (tRet (tVar 4)))))
theorem w_crowd {K : PySem.W.Frag} (vs : List V) (H : Hp) (Q : VK) (E : XK) (h : sp_crowd K vs H Q E) : t_crowd K { nx := fun _ H' => Q .non H', rt := Q } (start N_crowd vs) H := by
  obtain ⟨F0, cc, cs, ⟨rooms_1, bay_2, place_3⟩, y, h0, hS0, m, q⟩ := h
  obtain ⟨a0, _, rfl, ha0, h1⟩ := ArgR.hd h0
  obtain ⟨a1, _, rfl, ha1, h2⟩ := ArgR.hd h1
  obtain ⟨a2, _, rfl, ha2, h3⟩ := ArgR.hd h2
  obtain ⟨rfl, rfl⟩ := ArgR.no h3
  obtain rfl := Dt.toInt ha1
  obtain rfl := Dt.toInt ha2
  unfold f_crowd at m
  try dsimp only at m
  unfold t_crowd
  refine go (σ' := [some a0, some (.int bay_2), some (.int place_3), none, none, none, none, none]) rfl ?_
  obtain ⟨letters_8, k9, m⟩ := lt m
  refine s_setV (K := K) (d := eS letters_8) (i := 3) (σ' := [some a0, some (.int bay_2), some (.int place_3), some (.str letters_8), none, none, none, none]) (fun _ _ h => Dt.toStr h) hS0 (d_is d_str (congrArg eS k9)) rfl (fun F4 H5 g6 hS7 => ?_)
  obtain ⟨found_14, k15, m⟩ := lt m
  refine s_setC (K := K) (ds := found_14.map (eT3 eS eI eI)) (i := 4) (σ' := fun p16 => [some a0, some (.int bay_2), some (.int place_3), some (.str letters_8), some (.ref p16), none, none, none]) hS7 (c_is (c_lst a_nil (Nat.le_of_ble_eq_true rfl)) (congrArg (List.map (eT3 eS eI eI)) k15)) (fun _ => rfl) (fun p16 us17 F10 H11 g12 hS13 hu18 => ?_)
  obtain ⟨x19, k20, m⟩ := bnd m
  obtain ⟨x21, k22, m⟩ := bnd m
  obtain ⟨found_84, k25, m⟩ := bnd m
  refine s_for (K := K) (xs := x21) (en := eI) (body := (f_crowd_b23 rooms_1 bay_2 place_3 letters_8)) (s0 := found_14) (r := found_84) (fun (a : (List (Str × Int × Int))) F σ c => ∃ (j5 : Option V) (j6 : Option V) (j7 : Option V) (z4 : List V), σ = [some a0, some (.int bay_2), some (.int place_3), some (.str letters_8), some (.ref p16), j5, j6, j7] ∧ (p16, .lst z4) :: cs = c ∧ Dts K F z4 (a.map (eT3 eS eI eI))) hS13 (i_rng1 (a_cons (d_add (d_ix (e := eI) (d_var rfl (Dt.gr (Gr.tr g6 g12) ha0)) (d_var rfl (.int _)) k20) d_int) a_nil) k22) (fun _ _ => ⟨_, _, _, _, rfl, rfl, (Dts.gr ‹_› hu18)⟩) k25 ?_ ?_
  · rintro j_27 found_26 b36 F28 F29 σ42 c43 H30 v35 N37 g31 ⟨u45, u46, u47, us48, rfl, rfl, h49⟩ g32 hS33 hv34 m44 hN39
    obtain rfl := Dt.toInt hv34
    refine tg (σ' := [some a0, some (.int bay_2), some (.int place_3), some (.str letters_8), some (.ref p16), some (.int j_27), u46, u47]) (fun Q hq => hq) ?_
    unfold f_crowd_b23 at m44
    try dsimp only at m44
    obtain ⟨x50, k51, m44⟩ := bnd m44
    obtain ⟨x52, k53, m44⟩ := bnd m44
    obtain ⟨x54, k55, m44⟩ := bnd m44
    obtain ⟨x56, k57, m44⟩ := bnd m44
    refine s_setV (K := K) (d := eS x56) (i := 6) (σ' := [some a0, some (.int bay_2), some (.int place_3), some (.str letters_8), some (.ref p16), some (.int j_27), some (.str x56), u47]) (fun _ _ h => Dt.toStr h) hS33 (d_scat (d_scat d_str (d_ixS (d_var rfl (.str _)) (d_modC (d_var rfl (.int _)) d_int (by decide)) k51) k53) (d_ixS (d_var rfl (.str _)) (d_fdivC (d_var rfl (.int _)) d_int ⟨by decide, by decide⟩) k55) k57) rfl (fun F58 H59 g60 hS61 => ?_)
    obtain ⟨x62, k63, m44⟩ := bnd m44
    refine s_setV (K := K) (d := eI x62) (i := 7) (σ' := [some a0, some (.int bay_2), some (.int place_3), some (.str letters_8), some (.ref p16), some (.int j_27), some (.str x56), some (.int x62)]) (fun _ _ h => Dt.toInt h) hS61 (d_mod (d_add (d_var rfl (.int _)) (d_var rfl (.int _))) (d_len (e := eI) (a_cons (d_var rfl (Dt.gr (Gr.tr g6 (Gr.tr g12 (Gr.tr g31 (Gr.tr g32 g60)))) ha0)) a_nil)) k63) rfl (fun F64 H65 g66 hS67 => ?_)
    obtain ⟨x68, k69, m44⟩ := bnd m44
    obtain ⟨found_70, k71, m44⟩ := bnd m44
    refine s_appGV (K := K) (k1 := []) (x := x68) (l1 := []) (p := p16) (en := (eT3 eS eI eI)) hS67 (Dts.gr (Gr.tr g32 (Gr.tr g60 g66)) h49) (vp_var rfl) (d_ix (e := (eT3 eS eI eI)) (d_lst (a_cons (d_tup (a_cons (d_var rfl (.str _)) (a_cons (d_var rfl (.int _)) (a_cons (d_var rfl (.int _)) a_nil))) (Nat.le_of_ble_eq_true rfl)) (a_cons (d_tup (a_cons (d_var rfl (.str _)) (a_cons (d_var rfl (.int _)) (a_cons (d_var rfl (.int _)) a_nil))) (Nat.le_of_ble_eq_true rfl)) a_nil)) (Nat.le_of_ble_eq_true rfl)) (d_var rfl (.int _)) k69) k71 (fun us76 F72 H73 g74 hS75 hu77 => ?_)
    obtain rfl := sm m44
    exact hN39 _ _ _ _ (Gr.tr g60 (Gr.tr g66 g74)) hS75 ⟨_, _, _, _, rfl, rfl, hu77⟩
  · rintro F78 σ83 c82 H79 g80 hS81 ⟨u85, u86, u87, us88, rfl, rfl, h89⟩
    refine s_retV rfl ?_
    obtain rfl := sm m
    exact q _ _ _ _ (Gr.tr g6 (Gr.tr g12 g80)) hS81 h89
theorem sc_crowd : FnScope N_crowd ["_law_rooms", "_law_bay", "_law_place"] (defScope s_crowd) := ⟨rfl, rfl, rfl, by decide +kernel, rfl, by decide +kernel, by decide +kernel⟩
theorem ok_crowd {P : Program} {w : World} {K : PySem.W.Frag} {mg : Str → Option Value} {base : Heap} (hF : Df K mg "_law_crowd" s_crowd) (m_len : mg "len" = none) (m_range : mg "range" = none) : Ok P w K mg base 1 "_law_crowd" ["_law_rooms", "_law_bay", "_law_place"] (sp_crowd K) := by
  obtain ⟨⟨fd, F⟩, gm⟩ := hF
  refine ⟨⟨fd, F.ok sc_crowd (fun vs H Q E h => ?_) (fun cdv A outer s H vs Q E hr h => ⟨t_crowd K, PSs.nox ?_, w_crowd vs H Q E h⟩), F.bindsN fun _ _ _ _ _ _ us hl => match us, hl with | [_, _, _], _ => rfl, lk_of F⟩, F.kp, gm⟩
  · obtain ⟨F0, cc, cs, x, y, h, _⟩ := h; exact ArgR.len h
  · exact (pss_cons (ps_set (i := 3) sc_crowd.nd rfl (Or.inl rfl) pe_str) (pss_cons (ps_set (i := 4) sc_crowd.nd rfl (Or.inl rfl) (pe_lst pa_nil)) (pss_cons (ps_for PassesOwn.never rfl (pi_range1 (by rfl) m_range (pa_cons (pe_op op_add (pe_ix ix_list (pv 0) (pv 1) (fun _ _ => rfl)) pe_int) pa_nil)) (pg_name (i := 5) sc_crowd.nd rfl (Or.inl rfl)) (pss_cons (ps_set (i := 6) sc_crowd.nd rfl (Or.inl rfl) (pe_op op_scatR (pe_op op_scatR pe_str (pe_ix ix_str (pv 3) (pe_op op_mod (pv 5) pe_int) (fun _ _ => rfl))) (pe_ix ix_str (pv 3) (pe_op op_fdiv (pv 5) pe_int) (fun _ _ => rfl)))) (pss_cons (ps_set (i := 7) sc_crowd.nd rfl (Or.inl rfl) (pe_op op_mod (pe_op op_add (pv 1) (pv 5)) (pe_callB cr_lenL (by rfl) m_len PySem.boot_len (pa_cons (pv 0) pa_nil)))) (pss_one (ps_expr (pe_bm PySem.F.plainAttrs_list PySem.F.slot_list_append PySem.F.type_list_append mt_append (pv 4) (pa_cons (pe_ix ix_list (pe_lst (pa_cons (pe_tup (pa_cons (pv 6) (pa_cons (pv 1) (pa_cons (pv 7) pa_nil)))) (pa_cons (pe_tup (pa_cons (pv 6) (pa_cons (pv 7) (pa_cons (pv 1) pa_nil)))) pa_nil))) (pv 2) (fun _ _ => rfl)) pa_nil))))))) (pss_one (ps_ret (pv 4))))))
abbrev s_bad_boxes : Stmt := (top 47)
def f_bad_boxes : (((List Int) × (List Int) × Int × (List (Str × Int × Int))) × (List Int)) → Option (PyData × (List Int)) := fun (store_here_1, source_here_2) => (letM store_here_1.2.2.2 fun boxes_7 => (letM (store_here_1.1.length : Int) fun many_15 => (((f_draw (source_here_2, (28 : Int)))).bind fun (x17, source_here_19) => (if (decide (x17 < (3 : Int))) = true then (((atI ([(eN ()), (PyData.tuple (boxes_7.map (eT3 eS eI eI))), (PyData.dict [])] : (List PyData)) x17)).bind fun x28 => some (x28, source_here_19)) else (if (decide (x17 < (5 : Int))) = true then (((f_draw (source_here_19, many_15))).bind fun (x44, source_here_46) => ((f_crowd (store_here_1.1, x44, (x17 - (3 : Int))))).bind fun x47 => ((catM boxes_7 x47)).bind fun x49 => some (((eL (eT3 eS eI eI)) x49), source_here_46)) else (letM ([([(eN ())] : (List PyData)), ([((eL eD) ([(eS ("zz" : Str)), (eI (0 : Int)), (eI (0 : Int))] : (List PyData)))] : (List PyData)), ([((eT2 eS eI) (("zz" : Str), (0 : Int)))] : (List PyData)), ([((eT4 eS eI eI eI) (("zz" : Str), (0 : Int), (0 : Int), (0 : Int)))] : (List PyData)), ([((eT3 eS eI eI) (("Zz" : Str), (0 : Int), (0 : Int)))] : (List PyData)), ([((eT3 eS eI eI) (("" : Str), (0 : Int), (0 : Int)))] : (List PyData)), ([((eT3 eS eI eI) (("zzzzzzzzz" : Str), (0 : Int), (0 : Int)))] : (List PyData))] : (List (List PyData))) fun some_65 => (((catM some_65 ([([((eT3 eI eI eI) ((5 : Int), (0 : Int), (0 : Int)))] : (List PyData)), ([((eT3 eS eI eI) (("zz" : Str), many_15, (0 : Int)))] : (List PyData)), ([((eT3 eS eI eI) (("zz" : Str), (-(1 : Int)), (0 : Int)))] : (List PyData)), ([((eT3 eS eI eB) (("zz" : Str), (0 : Int), true))] : (List PyData)), ([((eT3 eS eS eI) (("zz" : Str), ("0" : Str), (0 : Int)))] : (List PyData))] : (List (List PyData))))).bind fun x69 => (((catM x69 ([([((eT3 eS eI eN) (("zz" : Str), (0 : Int), ()))] : (List PyData)), ([((eT3 eS eI eI) (("zz" : Str), (0 : Int), (0 : Int))), ((eT3 eS eI eI) (("zz" : Str), (0 : Int), (0 : Int)))] : (List PyData)), ([((eT3 eS eI eI) (("z z" : Str), (0 : Int), (0 : Int)))] : (List PyData)), ([((eT3 eS eI eI) (("zz" : Str), (0 : Int), many_15))] : (List PyData)), ([((eT3 eS eI eI) (("zz" : Str), (0 : Int), (-(1 : Int))))] : (List PyData))] : (List (List PyData))))).bind fun x77 => (((catM x77 ([([((eT3 eS eB eI) (("zz" : Str), true, (0 : Int)))] : (List PyData)), ([((eT3 (eL eI) eI eI) (([(1 : Int)] : (List Int)), (0 : Int), (0 : Int)))] : (List PyData)), ([((eT3 eD eI eI) ((PyData.dict []), (0 : Int), (0 : Int)))] : (List PyData)), ([(eS ("zz" : Str))] : (List PyData)), ([((eT3 eS eI eI) (("a1" : Str), (0 : Int), (0 : Int)))] : (List PyData)), ([((eT3 eS eI eI) (("a-b" : Str), (0 : Int), (0 : Int)))] : (List PyData))] : (List (List PyData))))).bind fun x85 => (((f_draw (source_here_19, ((boxes_7.length : Int) + (1 : Int))))).bind fun (x93, source_here_95) => (((atI x85 (x17 - (5 : Int)))).bind fun x100 => ((catM ((fun xs => List.map (eT3 eS eI eI) xs) (cutL boxes_7 none (some x93))) x100)).bind fun x102 => ((catM x102 ((fun xs => List.map (eT3 eS eI eI) xs) (cutL boxes_7 (some x93) none)))).bind fun x104 => some (((eL eD) x104), source_here_95))))))))))))
abbrev A_bad_boxes : (((List Int) × (List Int) × Int × (List (Str × Int × Int))) × (List Int)) → List Ar := fun x => [.d ((eT4 (eL eI) (eL eI) eI (eL (eT3 eS eI eI))) x.1), .c (x.2.map V.int)]
abbrev B_bad_boxes : (PyData × (List Int)) → PyData := fun y => eD y.1
abbrev C_bad_boxes : (PyData × (List Int)) → List (List V) := fun y => [y.2.map V.int]
abbrev N_bad_boxes : List Str := ["_law_store_here", "_law_source_here", "_law_boxes", "_law_many", "_law_way", "_law_some", "_law_at"]
abbrev sp_bad_boxes (K : PySem.W.Frag) : Sp := spC K A_bad_boxes B_bad_boxes C_bad_boxes f_bad_boxes
def t_bad_boxes (K : PySem.W.Frag) : TS := (tSeq (tAsg (tOp (rIxT K) (tVar 0) (tC (.int 3))) (gName 2)) (tSeq (tAsg (tCB (rLenL K) (tCons (tOp (rIxT K) (tVar 0) (tC (.int 0))) tNil)) (gName 3)) (tSeq (tAsg (tCall (sp_draw K) [] E0 (tCons (tVar 1) (tCons (tC (.int 28)) tNil))) (gName 4)) (tSeq (tIfS (tTest (tOp (rI0 fun i j => .bl (decide (i < j))) (tVar 4) (tC (.int 3)))) (tRet (tOp (rIxL K) (tLst (tCons (tC .non) (tCons (tCB (rTupleL K) (tCons (tVar 2) tNil)) (tCons tDNewK tNil)))) (tVar 4))) tNext) (tSeq (tIfS (tTest (tOp (rI0 fun i j => .bl (decide (i < j))) (tVar 4) (tC (.int 5)))) (tRet (tOp (rCatS K) (tVar 2) (tCall (sp_crowd K) [] E0 (tCons (tOp (rIxT K) (tVar 0) (tC (.int 0))) (tCons (tCall (sp_draw K) [] E0 (tCons (tVar 1) (tCons (tVar 3) tNil))) (tCons (tOp (rI0 fun i j => .int (i - j)) (tVar 4) (tC (.int 3))) tNil)))))) tNext) (tSeq (tAsg (tLst (tCons (tLst (tCons (tC .non) tNil)) (tCons (tLst (tCons (tLst (tCons (tC (.str "zz")) (tCons (tC (.int 0)) (tCons (tC (.int 0)) tNil)))) tNil)) (tCons (tLst (tCons (tTup (tCons (tC (.str "zz")) (tCons (tC (.int 0)) tNil))) tNil)) (tCons (tLst (tCons (tTup (tCons (tC (.str "zz")) (tCons (tC (.int 0)) (tCons (tC (.int 0)) (tCons (tC (.int 0)) tNil))))) tNil)) (tCons (tLst (tCons (tTup (tCons (tC (.str "Zz")) (tCons (tC (.int 0)) (tCons (tC (.int 0)) tNil)))) tNil)) (tCons (tLst (tCons (tTup (tCons (tC (.str "")) (tCons (tC (.int 0)) (tCons (tC (.int 0)) tNil)))) tNil)) (tCons (tLst (tCons (tTup (tCons (tC (.str "zzzzzzzzz")) (tCons (tC (.int 0)) (tCons (tC (.int 0)) tNil)))) tNil)) tNil)))))))) (gName 5)) (tSeq (tAsg (tOp (rCatS K) (tVar 5) (tLst (tCons (tLst (tCons (tTup (tCons (tC (.int 5)) (tCons (tC (.int 0)) (tCons (tC (.int 0)) tNil)))) tNil)) (tCons (tLst (tCons (tTup (tCons (tC (.str "zz")) (tCons (tVar 3) (tCons (tC (.int 0)) tNil)))) tNil)) (tCons (tLst (tCons (tTup (tCons (tC (.str "zz")) (tCons (tUn (rU fun i => .int (-i)) (tC (.int 1))) (tCons (tC (.int 0)) tNil)))) tNil)) (tCons (tLst (tCons (tTup (tCons (tC (.str "zz")) (tCons (tC (.int 0)) (tCons (tC (.bl true)) tNil)))) tNil)) (tCons (tLst (tCons (tTup (tCons (tC (.str "zz")) (tCons (tC (.str "0")) (tCons (tC (.int 0)) tNil)))) tNil)) tNil))))))) (gName 5)) (tSeq (tAsg (tOp (rCatS K) (tVar 5) (tLst (tCons (tLst (tCons (tTup (tCons (tC (.str "zz")) (tCons (tC (.int 0)) (tCons (tC .non) tNil)))) tNil)) (tCons (tLst (tCons (tTup (tCons (tC (.str "zz")) (tCons (tC (.int 0)) (tCons (tC (.int 0)) tNil)))) (tCons (tTup (tCons (tC (.str "zz")) (tCons (tC (.int 0)) (tCons (tC (.int 0)) tNil)))) tNil))) (tCons (tLst (tCons (tTup (tCons (tC (.str "z z")) (tCons (tC (.int 0)) (tCons (tC (.int 0)) tNil)))) tNil)) (tCons (tLst (tCons (tTup (tCons (tC (.str "zz")) (tCons (tC (.int 0)) (tCons (tVar 3) tNil)))) tNil)) (tCons (tLst (tCons (tTup (tCons (tC (.str "zz")) (tCons (tC (.int 0)) (tCons (tUn (rU fun i => .int (-i)) (tC (.int 1))) tNil)))) tNil)) tNil))))))) (gName 5)) (tSeq (tAsg (tOp (rCatS K) (tVar 5) (tLst (tCons (tLst (tCons (tTup (tCons (tC (.str "zz")) (tCons (tC (.bl true)) (tCons (tC (.int 0)) tNil)))) tNil)) (tCons (tLst (tCons (tTup (tCons (tLst (tCons (tC (.int 1)) tNil)) (tCons (tC (.int 0)) (tCons (tC (.int 0)) tNil)))) tNil)) (tCons (tLst (tCons (tTup (tCons tDNewK (tCons (tC (.int 0)) (tCons (tC (.int 0)) tNil)))) tNil)) (tCons (tLst (tCons (tC (.str "zz")) tNil)) (tCons (tLst (tCons (tTup (tCons (tC (.str "a1")) (tCons (tC (.int 0)) (tCons (tC (.int 0)) tNil)))) tNil)) (tCons (tLst (tCons (tTup (tCons (tC (.str "a-b")) (tCons (tC (.int 0)) (tCons (tC (.int 0)) tNil)))) tNil)) tNil)))))))) (gName 5)) (tSeq (tAsg (tCall (sp_draw K) [] E0 (tCons (tVar 1) (tCons (tOp (rI0 fun i j => .int (i + j)) (tCB (rLenL K) (tCons (tVar 2) tNil)) (tC (.int 1))) tNil))) (gName 6)) (tRet (tOp (rCatS K) (tOp (rCatS K) (tSl (rSlL K) (tVar 2) tNoPart (tPart (tVar 6))) (tOp (rIxL K) (tVar 5) (tOp (rI0 fun i j => .int (i - j)) (tVar 4) (tC (.int 5))))) (tSl (rSlL K) (tVar 2) (tPart (tVar 6)) tNoPart)))))))))))))
theorem w_bad_boxes {K : PySem.W.Frag} (vs : List V) (H : Hp) (Q : VK) (E : XK) (h : sp_bad_boxes K vs H Q E) : t_bad_boxes K { nx := fun _ H' => Q .non H', rt := Q } (start N_bad_boxes vs) H := by
  obtain ⟨F0, cc, cs, ⟨store_here_1, source_here_2⟩, y, h0, hS0, m, q⟩ := h
  obtain ⟨a0, _, rfl, ha0, h1⟩ := ArgR.hd h0
  obtain ⟨a1, _, _, rfl, rfl, h2⟩ := ArgR.hc h1
  obtain ⟨rfl, rfl⟩ := ArgR.no h2
  unfold f_bad_boxes at m
  try dsimp only at m
  unfold t_bad_boxes
  refine go (σ' := [some a0, some (.ref a1), none, none, none, none, none]) rfl ?_
  obtain ⟨boxes_7, k8, m⟩ := lt m
  refine s_set (K := K) (d := (eL (eT3 eS eI eI)) boxes_7) (i := 2) (σ' := fun v9 => [some a0, some (.ref a1), some v9, none, none, none, none]) hS0 (d_is (d_ixT (d_var rfl ha0) d_int rfl) (congrArg (eL (eT3 eS eI eI)) k8)) (fun _ => rfl) (fun v9 F3 H4 g5 hS6 hv10 => ?_)
  obtain ⟨many_15, k16, m⟩ := lt m
  refine s_setV (K := K) (d := eI many_15) (i := 3) (σ' := [some a0, some (.ref a1), some v9, some (.int many_15), none, none, none]) (fun _ _ h => Dt.toInt h) hS6 (d_is (d_len (e := eI) (a_cons (d_ixT (d_var rfl (Dt.gr g5 ha0)) d_int rfl) a_nil)) (congrArg eI k16)) rfl (fun F11 H12 g13 hS14 => ?_)
  obtain ⟨⟨x17, source_here_19⟩, k18, m⟩ := bnd m; (try dsimp only at m)
  refine s_setV (K := K) (d := eI x17) (i := 4) (σ' := [some a0, some (.ref a1), some v9, some (.int many_15), some (.int x17), none, none]) (fun _ _ h => Dt.toInt h) hS14 (d_callX (A := A_draw) (B := B_draw) (C := C_draw) (x := (source_here_2, (28 : Int))) (y := (x17, source_here_19)) (cs2 := ((a1, HO.lst (source_here_19.map V.int)) :: cs)) (cc := [(a1, HO.lst (source_here_2.map V.int))]) (cs' := (cs)) (r_c rfl (r_d d_int r_nil)) sb_rfl k18 sb_rfl) rfl (fun F20 H21 g22 hS23 => ?_)
  refine s_if (b := (decide (x17 < (3 : Int)))) hS23 (t_test (K := K) (d_lt (d_var rfl (.int _)) d_int)) (fun hc F24 H25 g26 hS27 => ?_) (fun hc F36 H37 g38 hS39 => ?_)
  · rw [if_pos hc] at m
    obtain ⟨x28, k29, m⟩ := bnd m
    refine s_ret (K := K) (d := eD x28) hS27 (d_ix (e := eD) (d_lst (a_cons d_non (a_cons (d_tupleL (a_cons (d_var rfl (Dt.gr (Gr.tr g13 (Gr.tr g22 g26)) hv10)) a_nil)) (a_cons d_dnew a_nil))) (Nat.le_of_ble_eq_true rfl)) (d_var rfl (.int _)) k29) (fun v34 F30 H31 g32 hS33 hv35 => ?_)
    obtain rfl := sm m
    exact q _ _ _ (Gr.tr g5 (Gr.tr g13 (Gr.tr g22 (Gr.tr g26 g32)))) hS33 hv35
  · rw [if_neg (bf hc)] at m
    refine nxt ?_
    refine s_if (b := (decide (x17 < (5 : Int)))) hS39 (t_test (K := K) (d_lt (d_var rfl (.int _)) d_int)) (fun hc F40 H41 g42 hS43 => ?_) (fun hc F57 H58 g59 hS60 => ?_)
    · rw [if_pos hc] at m
      obtain ⟨⟨x44, source_here_46⟩, k45, m⟩ := bnd m; (try dsimp only at m)
      obtain ⟨x47, k48, m⟩ := bnd m
      obtain ⟨x49, k50, m⟩ := bnd m
      refine s_ret (K := K) (d := eD ((eL (eT3 eS eI eI)) x49)) hS43 (EvC.dd (c_cat (en := (eT3 eS eI eI)) (d_var rfl (Dt.gr (Gr.tr g13 (Gr.tr g22 (Gr.tr g38 g42))) hv10)) (EvC.dd (c_callX (A := A_crowd) (B := B_crowd) (C := C_crowd) (x := (store_here_1.1, x44, (x17 - (3 : Int)))) (y := x47) (cs2 := ((a1, HO.lst (source_here_46.map V.int)) :: cs)) (cc := []) (cs' := ((a1, HO.lst (source_here_46.map V.int)) :: cs)) (r_d (d_ixT (d_var rfl (Dt.gr (Gr.tr g5 (Gr.tr g13 (Gr.tr g22 (Gr.tr g38 g42)))) ha0)) d_int rfl) (r_d (d_callX (A := A_draw) (B := B_draw) (C := C_draw) (x := (source_here_19, many_15)) (y := (x44, source_here_46)) (cs2 := ((a1, HO.lst (source_here_46.map V.int)) :: cs)) (cc := [(a1, HO.lst (source_here_19.map V.int))]) (cs' := (cs)) (r_c rfl (r_d (d_var rfl (.int _)) r_nil)) sb_rfl k45 sb_rfl) (r_d (d_sub (d_var rfl (.int _)) d_int) r_nil))) sb_rfl k48 (fun _ => sb_rfl))) k50)) (fun v55 F51 H52 g53 hS54 hv56 => ?_)
      obtain rfl := sm m
      exact q _ _ _ (Gr.tr g5 (Gr.tr g13 (Gr.tr g22 (Gr.tr g38 (Gr.tr g42 g53))))) hS54 hv56
    · rw [if_neg (bf hc)] at m
      refine nxt ?_
      obtain ⟨some_65, k66, m⟩ := lt m
      refine s_set (K := K) (d := (eL (eL eD)) some_65) (i := 5) (σ' := fun v67 => [some a0, some (.ref a1), some v9, some (.int many_15), some (.int x17), some v67, none]) hS60 (d_is (d_lst (a_cons (d_lst (a_cons d_non a_nil) (Nat.le_of_ble_eq_true rfl)) (a_cons (d_lst (a_cons (d_lst (a_cons d_str (a_cons d_int (a_cons d_int a_nil))) (Nat.le_of_ble_eq_true rfl)) a_nil) (Nat.le_of_ble_eq_true rfl)) (a_cons (d_lst (a_cons (d_tup (a_cons d_str (a_cons d_int a_nil)) (Nat.le_of_ble_eq_true rfl)) a_nil) (Nat.le_of_ble_eq_true rfl)) (a_cons (d_lst (a_cons (d_tup (a_cons d_str (a_cons d_int (a_cons d_int (a_cons d_int a_nil)))) (Nat.le_of_ble_eq_true rfl)) a_nil) (Nat.le_of_ble_eq_true rfl)) (a_cons (d_lst (a_cons (d_tup (a_cons d_str (a_cons d_int (a_cons d_int a_nil))) (Nat.le_of_ble_eq_true rfl)) a_nil) (Nat.le_of_ble_eq_true rfl)) (a_cons (d_lst (a_cons (d_tup (a_cons d_str (a_cons d_int (a_cons d_int a_nil))) (Nat.le_of_ble_eq_true rfl)) a_nil) (Nat.le_of_ble_eq_true rfl)) (a_cons (d_lst (a_cons (d_tup (a_cons d_str (a_cons d_int (a_cons d_int a_nil))) (Nat.le_of_ble_eq_true rfl)) a_nil) (Nat.le_of_ble_eq_true rfl)) a_nil))))))) (Nat.le_of_ble_eq_true rfl)) (congrArg (eL (eL eD)) k66)) (fun _ => rfl) (fun v67 F61 H62 g63 hS64 hv68 => ?_)
      obtain ⟨x69, k70, m⟩ := bnd m
      refine s_set (K := K) (d := (eL (eL eD)) x69) (i := 5) (σ' := fun v75 => [some a0, some (.ref a1), some v9, some (.int many_15), some (.int x17), some v75, none]) hS64 (EvC.dd (c_cat (en := (eL eD)) (d_var rfl hv68) (d_lst (a_cons (d_lst (a_cons (d_tup (a_cons d_int (a_cons d_int (a_cons d_int a_nil))) (Nat.le_of_ble_eq_true rfl)) a_nil) (Nat.le_of_ble_eq_true rfl)) (a_cons (d_lst (a_cons (d_tup (a_cons d_str (a_cons (d_var rfl (.int _)) (a_cons d_int a_nil))) (Nat.le_of_ble_eq_true rfl)) a_nil) (Nat.le_of_ble_eq_true rfl)) (a_cons (d_lst (a_cons (d_tup (a_cons d_str (a_cons (d_neg d_int) (a_cons d_int a_nil))) (Nat.le_of_ble_eq_true rfl)) a_nil) (Nat.le_of_ble_eq_true rfl)) (a_cons (d_lst (a_cons (d_tup (a_cons d_str (a_cons d_int (a_cons d_bl a_nil))) (Nat.le_of_ble_eq_true rfl)) a_nil) (Nat.le_of_ble_eq_true rfl)) (a_cons (d_lst (a_cons (d_tup (a_cons d_str (a_cons d_str (a_cons d_int a_nil))) (Nat.le_of_ble_eq_true rfl)) a_nil) (Nat.le_of_ble_eq_true rfl)) a_nil))))) (Nat.le_of_ble_eq_true rfl)) k70)) (fun _ => rfl) (fun v75 F71 H72 g73 hS74 hv76 => ?_)
      obtain ⟨x77, k78, m⟩ := bnd m
      refine s_set (K := K) (d := (eL (eL eD)) x77) (i := 5) (σ' := fun v83 => [some a0, some (.ref a1), some v9, some (.int many_15), some (.int x17), some v83, none]) hS74 (EvC.dd (c_cat (en := (eL eD)) (d_var rfl hv76) (d_lst (a_cons (d_lst (a_cons (d_tup (a_cons d_str (a_cons d_int (a_cons d_non a_nil))) (Nat.le_of_ble_eq_true rfl)) a_nil) (Nat.le_of_ble_eq_true rfl)) (a_cons (d_lst (a_cons (d_tup (a_cons d_str (a_cons d_int (a_cons d_int a_nil))) (Nat.le_of_ble_eq_true rfl)) (a_cons (d_tup (a_cons d_str (a_cons d_int (a_cons d_int a_nil))) (Nat.le_of_ble_eq_true rfl)) a_nil)) (Nat.le_of_ble_eq_true rfl)) (a_cons (d_lst (a_cons (d_tup (a_cons d_str (a_cons d_int (a_cons d_int a_nil))) (Nat.le_of_ble_eq_true rfl)) a_nil) (Nat.le_of_ble_eq_true rfl)) (a_cons (d_lst (a_cons (d_tup (a_cons d_str (a_cons d_int (a_cons (d_var rfl (.int _)) a_nil))) (Nat.le_of_ble_eq_true rfl)) a_nil) (Nat.le_of_ble_eq_true rfl)) (a_cons (d_lst (a_cons (d_tup (a_cons d_str (a_cons d_int (a_cons (d_neg d_int) a_nil))) (Nat.le_of_ble_eq_true rfl)) a_nil) (Nat.le_of_ble_eq_true rfl)) a_nil))))) (Nat.le_of_ble_eq_true rfl)) k78)) (fun _ => rfl) (fun v83 F79 H80 g81 hS82 hv84 => ?_)
      obtain ⟨x85, k86, m⟩ := bnd m
      refine s_set (K := K) (d := (eL (eL eD)) x85) (i := 5) (σ' := fun v91 => [some a0, some (.ref a1), some v9, some (.int many_15), some (.int x17), some v91, none]) hS82 (EvC.dd (c_cat (en := (eL eD)) (d_var rfl hv84) (d_lst (a_cons (d_lst (a_cons (d_tup (a_cons d_str (a_cons d_bl (a_cons d_int a_nil))) (Nat.le_of_ble_eq_true rfl)) a_nil) (Nat.le_of_ble_eq_true rfl)) (a_cons (d_lst (a_cons (d_tup (a_cons (d_lst (a_cons d_int a_nil) (Nat.le_of_ble_eq_true rfl)) (a_cons d_int (a_cons d_int a_nil))) (Nat.le_of_ble_eq_true rfl)) a_nil) (Nat.le_of_ble_eq_true rfl)) (a_cons (d_lst (a_cons (d_tup (a_cons d_dnew (a_cons d_int (a_cons d_int a_nil))) (Nat.le_of_ble_eq_true rfl)) a_nil) (Nat.le_of_ble_eq_true rfl)) (a_cons (d_lst (a_cons d_str a_nil) (Nat.le_of_ble_eq_true rfl)) (a_cons (d_lst (a_cons (d_tup (a_cons d_str (a_cons d_int (a_cons d_int a_nil))) (Nat.le_of_ble_eq_true rfl)) a_nil) (Nat.le_of_ble_eq_true rfl)) (a_cons (d_lst (a_cons (d_tup (a_cons d_str (a_cons d_int (a_cons d_int a_nil))) (Nat.le_of_ble_eq_true rfl)) a_nil) (Nat.le_of_ble_eq_true rfl)) a_nil)))))) (Nat.le_of_ble_eq_true rfl)) k86)) (fun _ => rfl) (fun v91 F87 H88 g89 hS90 hv92 => ?_)
      obtain ⟨⟨x93, source_here_95⟩, k94, m⟩ := bnd m; (try dsimp only at m)
      refine s_setV (K := K) (d := eI x93) (i := 6) (σ' := [some a0, some (.ref a1), some v9, some (.int many_15), some (.int x17), some v91, some (.int x93)]) (fun _ _ h => Dt.toInt h) hS90 (d_callX (A := A_draw) (B := B_draw) (C := C_draw) (x := (source_here_19, ((boxes_7.length : Int) + (1 : Int)))) (y := (x93, source_here_95)) (cs2 := ((a1, HO.lst (source_here_95.map V.int)) :: cs)) (cc := [(a1, HO.lst (source_here_19.map V.int))]) (cs' := (cs)) (r_c rfl (r_d (d_add (d_len (e := (eT3 eS eI eI)) (a_cons (d_var rfl (Dt.gr (Gr.tr g13 (Gr.tr g22 (Gr.tr g38 (Gr.tr g59 (Gr.tr g63 (Gr.tr g73 (Gr.tr g81 g89))))))) hv10)) a_nil)) d_int) r_nil)) sb_rfl k94 sb_rfl) rfl (fun F96 H97 g98 hS99 => ?_)
      obtain ⟨x100, k101, m⟩ := bnd m
      obtain ⟨x102, k103, m⟩ := bnd m
      obtain ⟨x104, k105, m⟩ := bnd m
      refine s_ret (K := K) (d := eD ((eL eD) x104)) hS99 (EvC.dd (c_cat (en := eD) (EvC.dd (c_cat (en := eD) (d_is (d_sl (d_var rfl (Dt.gr (Gr.tr g13 (Gr.tr g22 (Gr.tr g38 (Gr.tr g59 (Gr.tr g63 (Gr.tr g73 (Gr.tr g81 (Gr.tr g89 g98)))))))) hv10)) o_none (o_some (K := K) (d_var rfl (.int _)))) ((cv_L cv_D) _)) (d_ix (e := (eL eD)) (d_var rfl (Dt.gr g98 hv92)) (d_sub (d_var rfl (.int _)) d_int) k101) k103)) (d_is (d_sl (d_var rfl (Dt.gr (Gr.tr g13 (Gr.tr g22 (Gr.tr g38 (Gr.tr g59 (Gr.tr g63 (Gr.tr g73 (Gr.tr g81 (Gr.tr g89 g98)))))))) hv10)) (o_some (K := K) (d_var rfl (.int _))) o_none) ((cv_L cv_D) _)) k105)) (fun v110 F106 H107 g108 hS109 hv111 => ?_)
      obtain rfl := sm m
      exact q _ _ _ (Gr.tr g5 (Gr.tr g13 (Gr.tr g22 (Gr.tr g38 (Gr.tr g59 (Gr.tr g63 (Gr.tr g73 (Gr.tr g81 (Gr.tr g89 (Gr.tr g98 g108)))))))))) hS109 hv111
theorem sc_bad_boxes : FnScope N_bad_boxes ["_law_store_here", "_law_source_here"] (defScope s_bad_boxes) := ⟨rfl, rfl, rfl, by decide +kernel, rfl, by decide +kernel, by decide +kernel⟩
theorem ok_bad_boxes {P : Program} {w : World} {K : PySem.W.Frag} {mg : Str → Option Value} {base : Heap} (hF : Df K mg "_law_bad_boxes" s_bad_boxes) (m_len : mg "len" = none) (m_tuple : mg "tuple" = none) (o_draw : Ok P w K mg base 1 "_law_draw" ["_law_source_here", "_law_many"] (sp_draw K)) (o_crowd : Ok P w K mg base 1 "_law_crowd" ["_law_rooms", "_law_bay", "_law_place"] (sp_crowd K)) : Ok P w K mg base 2 "_law_bad_boxes" ["_law_store_here", "_law_source_here"] (sp_bad_boxes K) := by
  obtain ⟨⟨_, G_draw, bd_draw, _⟩, kp_draw, gm_draw⟩ := o_draw
  obtain ⟨⟨_, G_crowd, bd_crowd, _⟩, kp_crowd, gm_crowd⟩ := o_crowd
  obtain ⟨⟨fd, F⟩, gm⟩ := hF
  refine ⟨⟨fd, F.ok sc_bad_boxes (fun vs H Q E h => ?_) (fun cdv A outer s H vs Q E hr h => ⟨t_bad_boxes K, PSs.nox ?_, w_bad_boxes vs H Q E h⟩), F.bindsN fun _ _ _ _ _ _ us hl => match us, hl with | [_, _], _ => rfl, lk_of F⟩, F.kp, gm⟩
  · obtain ⟨F0, cc, cs, x, y, h, _⟩ := h; exact ArgR.len h
  · exact (pss_cons (ps_set (i := 2) sc_bad_boxes.nd rfl (Or.inl rfl) (pe_ix ix_tup (pv 0) pe_int (fun _ _ => rfl))) (pss_cons (ps_set (i := 3) sc_bad_boxes.nd rfl (Or.inl rfl) (pe_callB cr_lenL (by rfl) m_len PySem.boot_len (pa_cons (pe_ix ix_tup (pv 0) pe_int (fun _ _ => rfl)) pa_nil))) (pss_cons (ps_set (i := 4) sc_bad_boxes.nd rfl (Or.inl rfl) (pe_call G_draw (hr.mono (by decide)) (by rfl) gm_draw kp_draw bd_draw .nil pass0 (pa_cons (pv 1) (pa_cons pe_int pa_nil)))) (pss_cons (ps_if (pt_cmpR op_lt (pv 4) pe_int (nomark _)) (pss_one (ps_ret (pe_ix ix_list (pe_lst (pa_cons pe_non (pa_cons (pe_callTy cr_tuple (by rfl) m_tuple (by decide +kernel) (pa_cons (pv 2) pa_nil)) (pa_cons pe_dnewK pa_nil)))) (pv 4) (fun _ _ => rfl)))) pss_nil) (pss_cons (ps_if (pt_cmpR op_lt (pv 4) pe_int (nomark _)) (pss_one (ps_ret (pe_op op_catS (pv 2) (pe_call G_crowd (hr.mono (by decide)) (by rfl) gm_crowd kp_crowd bd_crowd .nil pass0 (pa_cons (pe_ix ix_tup (pv 0) pe_int (fun _ _ => rfl)) (pa_cons (pe_call G_draw (hr.mono (by decide)) (by rfl) gm_draw kp_draw bd_draw .nil pass0 (pa_cons (pv 1) (pa_cons (pv 3) pa_nil))) (pa_cons (pe_op op_sub (pv 4) pe_int) pa_nil))))))) pss_nil) (pss_cons (ps_set (i := 5) sc_bad_boxes.nd rfl (Or.inl rfl) (pe_lst (pa_cons (pe_lst (pa_cons pe_non pa_nil)) (pa_cons (pe_lst (pa_cons (pe_lst (pa_cons pe_str (pa_cons pe_int (pa_cons pe_int pa_nil)))) pa_nil)) (pa_cons (pe_lst (pa_cons (pe_tup (pa_cons pe_str (pa_cons pe_int pa_nil))) pa_nil)) (pa_cons (pe_lst (pa_cons (pe_tup (pa_cons pe_str (pa_cons pe_int (pa_cons pe_int (pa_cons pe_int pa_nil))))) pa_nil)) (pa_cons (pe_lst (pa_cons (pe_tup (pa_cons pe_str (pa_cons pe_int (pa_cons pe_int pa_nil)))) pa_nil)) (pa_cons (pe_lst (pa_cons (pe_tup (pa_cons pe_str (pa_cons pe_int (pa_cons pe_int pa_nil)))) pa_nil)) (pa_cons (pe_lst (pa_cons (pe_tup (pa_cons pe_str (pa_cons pe_int (pa_cons pe_int pa_nil)))) pa_nil)) pa_nil))))))))) (pss_cons (ps_set (i := 5) sc_bad_boxes.nd rfl (Or.inl rfl) (pe_op op_catS (pv 5) (pe_lst (pa_cons (pe_lst (pa_cons (pe_tup (pa_cons pe_int (pa_cons pe_int (pa_cons pe_int pa_nil)))) pa_nil)) (pa_cons (pe_lst (pa_cons (pe_tup (pa_cons pe_str (pa_cons (pv 3) (pa_cons pe_int pa_nil)))) pa_nil)) (pa_cons (pe_lst (pa_cons (pe_tup (pa_cons pe_str (pa_cons (pe_un un_neg pe_int) (pa_cons pe_int pa_nil)))) pa_nil)) (pa_cons (pe_lst (pa_cons (pe_tup (pa_cons pe_str (pa_cons pe_int (pa_cons pe_bl pa_nil)))) pa_nil)) (pa_cons (pe_lst (pa_cons (pe_tup (pa_cons pe_str (pa_cons pe_str (pa_cons pe_int pa_nil)))) pa_nil)) pa_nil)))))))) (pss_cons (ps_set (i := 5) sc_bad_boxes.nd rfl (Or.inl rfl) (pe_op op_catS (pv 5) (pe_lst (pa_cons (pe_lst (pa_cons (pe_tup (pa_cons pe_str (pa_cons pe_int (pa_cons pe_non pa_nil)))) pa_nil)) (pa_cons (pe_lst (pa_cons (pe_tup (pa_cons pe_str (pa_cons pe_int (pa_cons pe_int pa_nil)))) (pa_cons (pe_tup (pa_cons pe_str (pa_cons pe_int (pa_cons pe_int pa_nil)))) pa_nil))) (pa_cons (pe_lst (pa_cons (pe_tup (pa_cons pe_str (pa_cons pe_int (pa_cons pe_int pa_nil)))) pa_nil)) (pa_cons (pe_lst (pa_cons (pe_tup (pa_cons pe_str (pa_cons pe_int (pa_cons (pv 3) pa_nil)))) pa_nil)) (pa_cons (pe_lst (pa_cons (pe_tup (pa_cons pe_str (pa_cons pe_int (pa_cons (pe_un un_neg pe_int) pa_nil)))) pa_nil)) pa_nil)))))))) (pss_cons (ps_set (i := 5) sc_bad_boxes.nd rfl (Or.inl rfl) (pe_op op_catS (pv 5) (pe_lst (pa_cons (pe_lst (pa_cons (pe_tup (pa_cons pe_str (pa_cons pe_bl (pa_cons pe_int pa_nil)))) pa_nil)) (pa_cons (pe_lst (pa_cons (pe_tup (pa_cons (pe_lst (pa_cons pe_int pa_nil)) (pa_cons pe_int (pa_cons pe_int pa_nil)))) pa_nil)) (pa_cons (pe_lst (pa_cons (pe_tup (pa_cons pe_dnewK (pa_cons pe_int (pa_cons pe_int pa_nil)))) pa_nil)) (pa_cons (pe_lst (pa_cons pe_str pa_nil)) (pa_cons (pe_lst (pa_cons (pe_tup (pa_cons pe_str (pa_cons pe_int (pa_cons pe_int pa_nil)))) pa_nil)) (pa_cons (pe_lst (pa_cons (pe_tup (pa_cons pe_str (pa_cons pe_int (pa_cons pe_int pa_nil)))) pa_nil)) pa_nil))))))))) (pss_cons (ps_set (i := 6) sc_bad_boxes.nd rfl (Or.inl rfl) (pe_call G_draw (hr.mono (by decide)) (by rfl) gm_draw kp_draw bd_draw .nil pass0 (pa_cons (pv 1) (pa_cons (pe_op op_add (pe_callB cr_lenL (by rfl) m_len PySem.boot_len (pa_cons (pv 2) pa_nil)) pe_int) pa_nil)))) (pss_one (ps_ret (pe_op op_catS (pe_op op_catS (pe_slice sl_list (pv 2) po_none (po_some (pv 6))) (pe_ix ix_list (pv 5) (pe_op op_sub (pv 4) pe_int) (fun _ _ => rfl))) (pe_slice sl_list (pv 2) (po_some (pv 6)) po_none))))))))))))))
abbrev s_spoilt : Stmt := (top 48)
def f_spoilt_b165 (x146 : Int) : ((List Int) × (List PyData)) → (Int × PyData) → Option ((List Int) × (List PyData)) := fun (source_here_168, made_169) (part_170, thing_171) => (((if (decide (part_170 = x146)) = true then some (true, source_here_168) else (((if (decide (x146 < part_170)) = true then (((f_draw (source_here_168, (3 : Int)))).bind fun (x199, source_here_201) => some ((decide (x199 = (0 : Int))), source_here_201)) else some (false, source_here_168))).bind fun (x202, source_here_204) => some (x202, source_here_204)))).bind fun (x205, source_here_207) => (if x205 = true then (((setM made_169 part_170 thing_171)).bind fun made_212 => some (source_here_207, made_212)) else some (source_here_207, made_169)))
def f_spoilt : (((List Int) × (List Int) × Int × (List (Str × Int × Int))) × (List Int)) → Option ((PyData × Str) × (List Int)) := fun (store_here_1, source_here_2) => (((f_draw (source_here_2, (5 : Int)))).bind fun (x19, source_here_21) => (if (decide (x19 = (0 : Int))) = true then (letM ([(eN ()), (eI (5 : Int)), (eS ("store" : Str)), ((eL eD) ([(eL eI) store_here_1.1, (eL eI) store_here_1.2.1, eI store_here_1.2.2.1, (eL (eT3 eS eI eI)) store_here_1.2.2.2] : (List PyData))), ((eT3 (eL eI) (eL eI) eI) (store_here_1.1, store_here_1.2.1, store_here_1.2.2.1)), ((eT5 (eL eI) (eL eI) eI (eL (eT3 eS eI eI)) eI) (store_here_1.1, store_here_1.2.1, store_here_1.2.2.1, store_here_1.2.2.2, (0 : Int))), (eT0 ()), (PyData.dict []), ((eT1 (eT4 (eL eI) (eL eI) eI (eL (eT3 eS eI eI)))) (store_here_1))] : (List PyData)) fun some_30 => (((f_draw (source_here_21, (9 : Int)))).bind fun (x34, source_here_36) => ((atI some_30 x34)).bind fun x37 => some ((x37, ("store" : Str)), source_here_36))) else (((f_draw (source_here_21, (store_here_1.1.length : Int)))).bind fun (x49, source_here_51) => (((f_draw (source_here_51, (store_here_1.2.1.length : Int)))).bind fun (x56, source_here_58) => (((f_draw (source_here_58, (8 : Int)))).bind fun (x63, source_here_65) => ((atI ([(eI (0 : Int)), (eI (41 : Int)), (eI (-(1 : Int))), (eB true), (eN ()), (eS ("1" : Str)), ((eL eI) ([(1 : Int)] : (List Int))), ((eT1 eI) ((1 : Int)))] : (List PyData)) x63)).bind fun x66 => (((repM store_here_1.1 (9 : Int))).bind fun x74 => ((catM ((fun xs => List.map eI xs) (cutL store_here_1.1 none (some x49))) ([x66] : (List PyData)))).bind fun x76 => ((catM x76 ((fun xs => List.map eI xs) (cutL store_here_1.1 (some (x49 + (1 : Int))) none)))).bind fun x78 => letM ([(eN ()), (PyData.tuple (store_here_1.1.map eI)), (PyData.list []), ((eL eI) (cutL store_here_1.1 none (some (1 : Int)))), ((eL eI) (cutL x74 none (some (17 : Int)))), ((eL eD) x78)] : (List PyData)) fun some_84 => (((f_draw (source_here_65, (9 : Int)))).bind fun (x88, source_here_90) => ((atI some_84 (minI x88 (5 : Int)))).bind fun x91 => (((f_draw (source_here_90, (8 : Int)))).bind fun (x99, source_here_101) => ((atI ([(eI (0 : Int)), (eI (-(1 : Int))), (eI ((1000000000 : Int) + (1 : Int))), (eI (1000000000000000000000000000000 : Int)), (eB true), (eN ()), (eS ("1" : Str)), ((eL eI) ([(1 : Int)] : (List Int)))] : (List PyData)) x99)).bind fun x102 => (((catM store_here_1.2.1 ([(1 : Int)] : (List Int)))).bind fun x110 => ((catM ((fun xs => List.map eI xs) (cutL store_here_1.2.1 none (some x56))) ([x102] : (List PyData)))).bind fun x112 => ((catM x112 ((fun xs => List.map eI xs) (cutL store_here_1.2.1 (some (x56 + (1 : Int))) none)))).bind fun x114 => letM ([(eN ()), (PyData.tuple (store_here_1.2.1.map eI)), (PyData.list []), ((eL eI) x110), ((eL eI) (cutL store_here_1.2.1 (some (1 : Int)) none)), ((eL eD) x114)] : (List PyData)) fun some_120 => (((f_draw (source_here_101, (9 : Int)))).bind fun (x124, source_here_126) => ((atI some_120 (minI x124 (5 : Int)))).bind fun x127 => (((f_draw (source_here_126, (8 : Int)))).bind fun (x135, source_here_137) => ((atI ([(eI (0 : Int)), (eI (21 : Int)), (eI (-(1 : Int))), (eB true), (eN ()), (eS ("1" : Str)), ((eL eI) ([(1 : Int)] : (List Int))), (eI (100000000000000000000 : Int))] : (List PyData)) x135)).bind fun x138 => (((f_draw (source_here_137, (4 : Int)))).bind fun (x146, source_here_148) => (letM ([((eL eI) store_here_1.1), ((eL eI) store_here_1.2.1), (eI store_here_1.2.2.1), ((eL (eT3 eS eI eI)) store_here_1.2.2.2)] : (List PyData)) fun made_157 => (((f_bad_boxes (store_here_1, source_here_148))).bind fun (x162, source_here_164) => ((enumM ([x91, x127, x138, x162] : (List PyData))).foldlM (f_spoilt_b165 x146) (source_here_164, made_157)).bind fun (source_here_230, made_231) => (((atI ([("rooms" : Str), ("gaps" : Str), ("most" : Str), ("boxes" : Str)] : (List Str)) x146)).bind fun x237 => some (((PyData.tuple (made_231.map eD)), x237), source_here_230))))))))))))))))
abbrev A_spoilt : (((List Int) × (List Int) × Int × (List (Str × Int × Int))) × (List Int)) → List Ar := fun x => [.d ((eT4 (eL eI) (eL eI) eI (eL (eT3 eS eI eI))) x.1), .c (x.2.map V.int)]
abbrev B_spoilt : ((PyData × Str) × (List Int)) → PyData := fun y => (eT2 eD eS) y.1
abbrev C_spoilt : ((PyData × Str) × (List Int)) → List (List V) := fun y => [y.2.map V.int]
abbrev N_spoilt : List Str := ["_law_store_here", "_law_source_here", "_law_bay", "_law_gap", "_law_bad", "_law_some", "_law_bad_rooms", "_law_bad_gaps", "_law_bad_most", "_law_first", "_law_made", "_law_rooms", "_law_gaps", "_law_most", "_law_boxes", "_law_part", "_law_thing"]
abbrev sp_spoilt (K : PySem.W.Frag) : Sp := spC K A_spoilt B_spoilt C_spoilt f_spoilt
def t_spoilt (K : PySem.W.Frag) : TS := (tSeq (tAsg (tVar 0) (gTup K 4 (gCons (gName 11) (gCons (gName 12) (gCons (gName 13) (gCons (gName 14) gNil)))))) (tSeq (tIfS (tTest (tOp rEq (tCall (sp_draw K) [] E0 (tCons (tVar 1) (tCons (tC (.int 5)) tNil))) (tC (.int 0)))) (tSeq (tAsg (tLst (tCons (tC .non) (tCons (tC (.int 5)) (tCons (tC (.str "store")) (tCons (tCB (rListS K) (tCons (tVar 0) tNil)) (tCons (tSl (rSlA K) (tVar 0) tNoPart (tPart (tC (.int 3)))) (tCons (tOp (rCatT K) (tVar 0) (tTup (tCons (tC (.int 0)) tNil))) (tCons (tTup tNil) (tCons tDNewK (tCons (tTup (tCons (tVar 0) tNil)) tNil)))))))))) (gName 5)) (tRet (tTup (tCons (tOp (rIxL K) (tVar 5) (tCall (sp_draw K) [] E0 (tCons (tVar 1) (tCons (tC (.int 9)) tNil)))) (tCons (tC (.str "store")) tNil))))) tNext) (tSeq (tAsg (tCall (sp_draw K) [] E0 (tCons (tVar 1) (tCons (tCB (rLenL K) (tCons (tVar 11) tNil)) tNil))) (gName 2)) (tSeq (tAsg (tCall (sp_draw K) [] E0 (tCons (tVar 1) (tCons (tCB (rLenL K) (tCons (tVar 12) tNil)) tNil))) (gName 3)) (tSeq (tAsg (tOp (rIxL K) (tLst (tCons (tC (.int 0)) (tCons (tC (.int 41)) (tCons (tUn (rU fun i => .int (-i)) (tC (.int 1))) (tCons (tC (.bl true)) (tCons (tC .non) (tCons (tC (.str "1")) (tCons (tLst (tCons (tC (.int 1)) tNil)) (tCons (tTup (tCons (tC (.int 1)) tNil)) tNil))))))))) (tCall (sp_draw K) [] E0 (tCons (tVar 1) (tCons (tC (.int 8)) tNil)))) (gName 4)) (tSeq (tAsg (tLst (tCons (tC .non) (tCons (tCB (rTupleL K) (tCons (tVar 11) tNil)) (tCons (tLst tNil) (tCons (tSl (rSlL K) (tVar 11) tNoPart (tPart (tC (.int 1)))) (tCons (tSl (rSlL K) (tOp (rRepS K) (tVar 11) (tC (.int 9))) tNoPart (tPart (tC (.int 17)))) (tCons (tOp (rCatS K) (tOp (rCatS K) (tSl (rSlL K) (tVar 11) tNoPart (tPart (tVar 2))) (tLst (tCons (tVar 4) tNil))) (tSl (rSlL K) (tVar 11) (tPart (tOp (rI0 fun i j => .int (i + j)) (tVar 2) (tC (.int 1)))) tNoPart)) tNil))))))) (gName 5)) (tSeq (tAsg (tOp (rIxL K) (tVar 5) (tCB rMin2 (tCons (tCall (sp_draw K) [] E0 (tCons (tVar 1) (tCons (tC (.int 9)) tNil))) (tCons (tC (.int 5)) tNil)))) (gName 6)) (tSeq (tAsg (tOp (rIxL K) (tLst (tCons (tC (.int 0)) (tCons (tUn (rU fun i => .int (-i)) (tC (.int 1))) (tCons (tOp (rI0 fun i j => .int (i + j)) (tOp (rI CPow fun i j => .int (i ^ j.toNat)) (tC (.int 10)) (tC (.int 9))) (tC (.int 1))) (tCons (tOp (rI CPow fun i j => .int (i ^ j.toNat)) (tC (.int 10)) (tC (.int 30))) (tCons (tC (.bl true)) (tCons (tC .non) (tCons (tC (.str "1")) (tCons (tLst (tCons (tC (.int 1)) tNil)) tNil))))))))) (tCall (sp_draw K) [] E0 (tCons (tVar 1) (tCons (tC (.int 8)) tNil)))) (gName 4)) (tSeq (tAsg (tLst (tCons (tC .non) (tCons (tCB (rTupleL K) (tCons (tVar 12) tNil)) (tCons (tLst tNil) (tCons (tOp (rCatS K) (tVar 12) (tLst (tCons (tC (.int 1)) tNil))) (tCons (tSl (rSlL K) (tVar 12) (tPart (tC (.int 1))) tNoPart) (tCons (tOp (rCatS K) (tOp (rCatS K) (tSl (rSlL K) (tVar 12) tNoPart (tPart (tVar 3))) (tLst (tCons (tVar 4) tNil))) (tSl (rSlL K) (tVar 12) (tPart (tOp (rI0 fun i j => .int (i + j)) (tVar 3) (tC (.int 1)))) tNoPart)) tNil))))))) (gName 5)) (tSeq (tAsg (tOp (rIxL K) (tVar 5) (tCB rMin2 (tCons (tCall (sp_draw K) [] E0 (tCons (tVar 1) (tCons (tC (.int 9)) tNil))) (tCons (tC (.int 5)) tNil)))) (gName 7)) (tSeq (tAsg (tOp (rIxL K) (tLst (tCons (tC (.int 0)) (tCons (tC (.int 21)) (tCons (tUn (rU fun i => .int (-i)) (tC (.int 1))) (tCons (tC (.bl true)) (tCons (tC .non) (tCons (tC (.str "1")) (tCons (tLst (tCons (tC (.int 1)) tNil)) (tCons (tOp (rI CPow fun i j => .int (i ^ j.toNat)) (tC (.int 10)) (tC (.int 20))) tNil))))))))) (tCall (sp_draw K) [] E0 (tCons (tVar 1) (tCons (tC (.int 8)) tNil)))) (gName 8)) (tSeq (tAsg (tCall (sp_draw K) [] E0 (tCons (tVar 1) (tCons (tC (.int 4)) tNil))) (gName 9)) (tSeq (tAsg (tLst (tCons (tVar 11) (tCons (tVar 12) (tCons (tVar 13) (tCons (tVar 14) tNil))))) (gName 10)) (tSeq (tFor (iEnum K (tCons (tLst (tCons (tVar 6) (tCons (tVar 7) (tCons (tVar 8) (tCons (tCall (sp_bad_boxes K) [] E0 (tCons (tVar 0) (tCons (tVar 1) tNil))) tNil))))) tNil)) (gTup K 2 (gCons (gName 15) (gCons (gName 16) gNil))) (tIfS (tOr (tTest (tOp rEq (tVar 15) (tVar 9))) (tAnd (tTest (tOp (rI0 fun i j => .bl (decide (j < i))) (tVar 15) (tVar 9))) (tTest (tOp rEq (tCall (sp_draw K) [] E0 (tCons (tVar 1) (tCons (tC (.int 3)) tNil))) (tC (.int 0)))))) (tAsg (tVar 16) (gSub (tVar 10) (tVar 15) rSetL)) tNext)) (tRet (tTup (tCons (tCB (rTupleL K) (tCons (tVar 10) tNil)) (tCons (tOp (rIxL K) (tLst (tCons (tC (.str "rooms")) (tCons (tC (.str "gaps")) (tCons (tC (.str "most")) (tCons (tC (.str "boxes")) tNil))))) (tVar 9)) tNil))))))))))))))))))
theorem w_spoilt {K : PySem.W.Frag} (vs : List V) (H : Hp) (Q : VK) (E : XK) (h : sp_spoilt K vs H Q E) : t_spoilt K { nx := fun _ H' => Q .non H', rt := Q } (start N_spoilt vs) H := by
  obtain ⟨F0, cc, cs, ⟨store_here_1, source_here_2⟩, y, h0, hS0, m, q⟩ := h
  obtain ⟨a0, _, rfl, ha0, h1⟩ := ArgR.hd h0
  obtain ⟨a1, _, _, rfl, rfl, h2⟩ := ArgR.hc h1
  obtain ⟨rfl, rfl⟩ := ArgR.no h2
  unfold f_spoilt at m
  try dsimp only at m
  unfold t_spoilt
  refine go (σ' := [some a0, some (.ref a1), none, none, none, none, none, none, none, none, none, none, none, none, none, none, none]) rfl ?_
  refine s_asg (K := K) (d := (eT4 (eL eI) (eL eI) eI (eL (eT3 eS eI eI))) store_here_1) hS0 (d_var rfl ha0) (fun v7 F3 H4 g5 hS6 hv8 => ?_)
  obtain ⟨p9, w11, w12, w13, w14, rfl, hT10, hw15, hw16, hw17, hw18⟩ := u4 hv8
  obtain rfl := Dt.toInt hw17
  refine tg (σ' := [some a0, some (.ref a1), none, none, none, none, none, none, none, none, none, some w11, some w12, some (.int store_here_1.2.2.1), some w14, none, none]) (fun Q hq => ⟨p9, [_, _, _, _], rfl, gr_T hS6.fr hT10, rfl, _, _, rfl, _, _, rfl, _, _, rfl, _, _, rfl, rfl, hq⟩) ?_
  obtain ⟨⟨x19, source_here_21⟩, k20, m⟩ := bnd m; (try dsimp only at m)
  refine s_if (b := (decide (x19 = (0 : Int)))) hS6 (t_test (K := K) (d_eqI (d_callX (A := A_draw) (B := B_draw) (C := C_draw) (x := (source_here_2, (5 : Int))) (y := (x19, source_here_21)) (cs2 := ((a1, HO.lst (source_here_21.map V.int)) :: cs)) (cc := [(a1, HO.lst (source_here_2.map V.int))]) (cs' := (cs)) (r_c rfl (r_d d_int r_nil)) sb_rfl k20 sb_rfl) d_int)) (fun hc F22 H23 g24 hS25 => ?_) (fun hc F45 H46 g47 hS48 => ?_)
  · rw [if_pos hc] at m
    obtain ⟨some_30, k31, m⟩ := lt m
    refine s_set (K := K) (d := (eL eD) some_30) (i := 5) (σ' := fun v32 => [some a0, some (.ref a1), none, none, none, some v32, none, none, none, none, none, some w11, some w12, some (.int store_here_1.2.2.1), some w14, none, none]) hS25 (d_is (d_lst (a_cons d_non (a_cons d_int (a_cons d_str (a_cons (EvC.dd (c_is (c_listT (a_cons (d_var rfl (Dt.gr (Gr.tr g5 g24) ha0)) a_nil)) (show _ = (([(eL eI) store_here_1.1, (eL eI) store_here_1.2.1, eI store_here_1.2.2.1, (eL (eT3 eS eI eI)) store_here_1.2.2.2] : (List PyData)).map eD) from rfl))) (a_cons (d_is (d_slT (d_var rfl (Dt.gr (Gr.tr g5 g24) ha0)) o_none (o_some (K := K) d_int)) rfl) (a_cons (d_is (d_catT (d_var rfl (Dt.gr (Gr.tr g5 g24) ha0)) (d_tup (a_cons d_int a_nil) (Nat.le_of_ble_eq_true rfl)) (by simp) (by simp) (Nat.le_of_ble_eq_true rfl)) rfl) (a_cons (d_tup a_nil (Nat.le_of_ble_eq_true rfl)) (a_cons d_dnew (a_cons (d_tup (a_cons (d_var rfl (Dt.gr (Gr.tr g5 g24) ha0)) a_nil) (Nat.le_of_ble_eq_true rfl)) a_nil))))))))) (Nat.le_of_ble_eq_true rfl)) (congrArg (eL eD) k31)) (fun _ => rfl) (fun v32 F26 H27 g28 hS29 hv33 => ?_)
    obtain ⟨⟨x34, source_here_36⟩, k35, m⟩ := bnd m; (try dsimp only at m)
    obtain ⟨x37, k38, m⟩ := bnd m
    refine s_ret (K := K) (d := (eT2 eD eS) (x37, ("store" : Str))) hS29 (d_tup (a_cons (d_ix (e := eD) (d_var rfl hv33) (d_callX (A := A_draw) (B := B_draw) (C := C_draw) (x := (source_here_21, (9 : Int))) (y := (x34, source_here_36)) (cs2 := ((a1, HO.lst (source_here_36.map V.int)) :: cs)) (cc := [(a1, HO.lst (source_here_21.map V.int))]) (cs' := (cs)) (r_c rfl (r_d d_int r_nil)) sb_rfl k35 sb_rfl) k38) (a_cons d_str a_nil)) (Nat.le_of_ble_eq_true rfl)) (fun v43 F39 H40 g41 hS42 hv44 => ?_)
    obtain rfl := sm m
    exact q _ _ _ (Gr.tr g5 (Gr.tr g24 (Gr.tr g28 g41))) hS42 hv44
  · rw [if_neg (bf hc)] at m
    refine nxt ?_
    obtain ⟨⟨x49, source_here_51⟩, k50, m⟩ := bnd m; (try dsimp only at m)
    refine s_setV (K := K) (d := eI x49) (i := 2) (σ' := [some a0, some (.ref a1), some (.int x49), none, none, none, none, none, none, none, none, some w11, some w12, some (.int store_here_1.2.2.1), some w14, none, none]) (fun _ _ h => Dt.toInt h) hS48 (d_callX (A := A_draw) (B := B_draw) (C := C_draw) (x := (source_here_21, (store_here_1.1.length : Int))) (y := (x49, source_here_51)) (cs2 := ((a1, HO.lst (source_here_51.map V.int)) :: cs)) (cc := [(a1, HO.lst (source_here_21.map V.int))]) (cs' := (cs)) (r_c rfl (r_d (d_len (e := eI) (a_cons (d_var rfl (Dt.gr g47 hw15)) a_nil)) r_nil)) sb_rfl k50 sb_rfl) rfl (fun F52 H53 g54 hS55 => ?_)
    obtain ⟨⟨x56, source_here_58⟩, k57, m⟩ := bnd m; (try dsimp only at m)
    refine s_setV (K := K) (d := eI x56) (i := 3) (σ' := [some a0, some (.ref a1), some (.int x49), some (.int x56), none, none, none, none, none, none, none, some w11, some w12, some (.int store_here_1.2.2.1), some w14, none, none]) (fun _ _ h => Dt.toInt h) hS55 (d_callX (A := A_draw) (B := B_draw) (C := C_draw) (x := (source_here_51, (store_here_1.2.1.length : Int))) (y := (x56, source_here_58)) (cs2 := ((a1, HO.lst (source_here_58.map V.int)) :: cs)) (cc := [(a1, HO.lst (source_here_51.map V.int))]) (cs' := (cs)) (r_c rfl (r_d (d_len (e := eI) (a_cons (d_var rfl (Dt.gr (Gr.tr g47 g54) hw16)) a_nil)) r_nil)) sb_rfl k57 sb_rfl) rfl (fun F59 H60 g61 hS62 => ?_)
    obtain ⟨⟨x63, source_here_65⟩, k64, m⟩ := bnd m; (try dsimp only at m)
    obtain ⟨x66, k67, m⟩ := bnd m
    refine s_set (K := K) (d := eD x66) (i := 4) (σ' := fun v72 => [some a0, some (.ref a1), some (.int x49), some (.int x56), some v72, none, none, none, none, none, none, some w11, some w12, some (.int store_here_1.2.2.1), some w14, none, none]) hS62 (d_ix (e := eD) (d_lst (a_cons d_int (a_cons d_int (a_cons (d_neg d_int) (a_cons d_bl (a_cons d_non (a_cons d_str (a_cons (d_lst (a_cons d_int a_nil) (Nat.le_of_ble_eq_true rfl)) (a_cons (d_tup (a_cons d_int a_nil) (Nat.le_of_ble_eq_true rfl)) a_nil)))))))) (Nat.le_of_ble_eq_true rfl)) (d_callX (A := A_draw) (B := B_draw) (C := C_draw) (x := (source_here_58, (8 : Int))) (y := (x63, source_here_65)) (cs2 := ((a1, HO.lst (source_here_65.map V.int)) :: cs)) (cc := [(a1, HO.lst (source_here_58.map V.int))]) (cs' := (cs)) (r_c rfl (r_d d_int r_nil)) sb_rfl k64 sb_rfl) k67) (fun _ => rfl) (fun v72 F68 H69 g70 hS71 hv73 => ?_)
    obtain ⟨x74, k75, m⟩ := bnd m
    obtain ⟨x76, k77, m⟩ := bnd m
    obtain ⟨x78, k79, m⟩ := bnd m
    obtain ⟨some_84, k85, m⟩ := lt m
    refine s_set (K := K) (d := (eL eD) some_84) (i := 5) (σ' := fun v86 => [some a0, some (.ref a1), some (.int x49), some (.int x56), some v72, some v86, none, none, none, none, none, some w11, some w12, some (.int store_here_1.2.2.1), some w14, none, none]) hS71 (d_is (d_lst (a_cons d_non (a_cons (d_tupleL (a_cons (d_var rfl (Dt.gr (Gr.tr g47 (Gr.tr g54 (Gr.tr g61 g70))) hw15)) a_nil)) (a_cons (d_lst a_nil (Nat.le_of_ble_eq_true rfl)) (a_cons (d_sl (d_var rfl (Dt.gr (Gr.tr g47 (Gr.tr g54 (Gr.tr g61 g70))) hw15)) o_none (o_some (K := K) d_int)) (a_cons (d_sl (EvC.dd (c_repS (en := eI) (d_var rfl (Dt.gr (Gr.tr g47 (Gr.tr g54 (Gr.tr g61 g70))) hw15)) d_int k75)) o_none (o_some (K := K) d_int)) (a_cons (EvC.dd (c_cat (en := eD) (EvC.dd (c_cat (en := eD) (d_is (d_sl (d_var rfl (Dt.gr (Gr.tr g47 (Gr.tr g54 (Gr.tr g61 g70))) hw15)) o_none (o_some (K := K) (d_var rfl (.int _)))) ((cv_L cv_D) _)) (d_lst (a_cons (d_var rfl hv73) a_nil) (Nat.le_of_ble_eq_true rfl)) k77)) (d_is (d_sl (d_var rfl (Dt.gr (Gr.tr g47 (Gr.tr g54 (Gr.tr g61 g70))) hw15)) (o_some (K := K) (d_add (d_var rfl (.int _)) d_int)) o_none) ((cv_L cv_D) _)) k79)) a_nil)))))) (Nat.le_of_ble_eq_true rfl)) (congrArg (eL eD) k85)) (fun _ => rfl) (fun v86 F80 H81 g82 hS83 hv87 => ?_)
    obtain ⟨⟨x88, source_here_90⟩, k89, m⟩ := bnd m; (try dsimp only at m)
    obtain ⟨x91, k92, m⟩ := bnd m
    refine s_set (K := K) (d := eD x91) (i := 6) (σ' := fun v97 => [some a0, some (.ref a1), some (.int x49), some (.int x56), some v72, some v86, some v97, none, none, none, none, some w11, some w12, some (.int store_here_1.2.2.1), some w14, none, none]) hS83 (d_ix (e := eD) (d_var rfl hv87) (d_min2 (a_cons (d_callX (A := A_draw) (B := B_draw) (C := C_draw) (x := (source_here_65, (9 : Int))) (y := (x88, source_here_90)) (cs2 := ((a1, HO.lst (source_here_90.map V.int)) :: cs)) (cc := [(a1, HO.lst (source_here_65.map V.int))]) (cs' := (cs)) (r_c rfl (r_d d_int r_nil)) sb_rfl k89 sb_rfl) (a_cons d_int a_nil))) k92) (fun _ => rfl) (fun v97 F93 H94 g95 hS96 hv98 => ?_)
    obtain ⟨⟨x99, source_here_101⟩, k100, m⟩ := bnd m; (try dsimp only at m)
    obtain ⟨x102, k103, m⟩ := bnd m
    refine s_set (K := K) (d := eD x102) (i := 4) (σ' := fun v108 => [some a0, some (.ref a1), some (.int x49), some (.int x56), some v108, some v86, some v97, none, none, none, none, some w11, some w12, some (.int store_here_1.2.2.1), some w14, none, none]) hS96 (d_ix (e := eD) (d_lst (a_cons d_int (a_cons (d_neg d_int) (a_cons (d_add (d_is (e := PyData.int 1000000000) (d_powC d_int d_int ⟨by decide, by decide, by decide⟩) (congrArg PyData.int (by decide))) d_int) (a_cons (d_is (e := PyData.int 1000000000000000000000000000000) (d_powC d_int d_int ⟨by decide, by decide, by decide⟩) (congrArg PyData.int (by decide))) (a_cons d_bl (a_cons d_non (a_cons d_str (a_cons (d_lst (a_cons d_int a_nil) (Nat.le_of_ble_eq_true rfl)) a_nil)))))))) (Nat.le_of_ble_eq_true rfl)) (d_callX (A := A_draw) (B := B_draw) (C := C_draw) (x := (source_here_90, (8 : Int))) (y := (x99, source_here_101)) (cs2 := ((a1, HO.lst (source_here_101.map V.int)) :: cs)) (cc := [(a1, HO.lst (source_here_90.map V.int))]) (cs' := (cs)) (r_c rfl (r_d d_int r_nil)) sb_rfl k100 sb_rfl) k103) (fun _ => rfl) (fun v108 F104 H105 g106 hS107 hv109 => ?_)
    obtain ⟨x110, k111, m⟩ := bnd m
    obtain ⟨x112, k113, m⟩ := bnd m
    obtain ⟨x114, k115, m⟩ := bnd m
    obtain ⟨some_120, k121, m⟩ := lt m
    refine s_set (K := K) (d := (eL eD) some_120) (i := 5) (σ' := fun v122 => [some a0, some (.ref a1), some (.int x49), some (.int x56), some v108, some v122, some v97, none, none, none, none, some w11, some w12, some (.int store_here_1.2.2.1), some w14, none, none]) hS107 (d_is (d_lst (a_cons d_non (a_cons (d_tupleL (a_cons (d_var rfl (Dt.gr (Gr.tr g47 (Gr.tr g54 (Gr.tr g61 (Gr.tr g70 (Gr.tr g82 (Gr.tr g95 g106)))))) hw16)) a_nil)) (a_cons (d_lst a_nil (Nat.le_of_ble_eq_true rfl)) (a_cons (EvC.dd (c_cat (en := eI) (d_var rfl (Dt.gr (Gr.tr g47 (Gr.tr g54 (Gr.tr g61 (Gr.tr g70 (Gr.tr g82 (Gr.tr g95 g106)))))) hw16)) (d_lst (a_cons d_int a_nil) (Nat.le_of_ble_eq_true rfl)) k111)) (a_cons (d_sl (d_var rfl (Dt.gr (Gr.tr g47 (Gr.tr g54 (Gr.tr g61 (Gr.tr g70 (Gr.tr g82 (Gr.tr g95 g106)))))) hw16)) (o_some (K := K) d_int) o_none) (a_cons (EvC.dd (c_cat (en := eD) (EvC.dd (c_cat (en := eD) (d_is (d_sl (d_var rfl (Dt.gr (Gr.tr g47 (Gr.tr g54 (Gr.tr g61 (Gr.tr g70 (Gr.tr g82 (Gr.tr g95 g106)))))) hw16)) o_none (o_some (K := K) (d_var rfl (.int _)))) ((cv_L cv_D) _)) (d_lst (a_cons (d_var rfl hv109) a_nil) (Nat.le_of_ble_eq_true rfl)) k113)) (d_is (d_sl (d_var rfl (Dt.gr (Gr.tr g47 (Gr.tr g54 (Gr.tr g61 (Gr.tr g70 (Gr.tr g82 (Gr.tr g95 g106)))))) hw16)) (o_some (K := K) (d_add (d_var rfl (.int _)) d_int)) o_none) ((cv_L cv_D) _)) k115)) a_nil)))))) (Nat.le_of_ble_eq_true rfl)) (congrArg (eL eD) k121)) (fun _ => rfl) (fun v122 F116 H117 g118 hS119 hv123 => ?_)
    obtain ⟨⟨x124, source_here_126⟩, k125, m⟩ := bnd m; (try dsimp only at m)
    obtain ⟨x127, k128, m⟩ := bnd m
    refine s_set (K := K) (d := eD x127) (i := 7) (σ' := fun v133 => [some a0, some (.ref a1), some (.int x49), some (.int x56), some v108, some v122, some v97, some v133, none, none, none, some w11, some w12, some (.int store_here_1.2.2.1), some w14, none, none]) hS119 (d_ix (e := eD) (d_var rfl hv123) (d_min2 (a_cons (d_callX (A := A_draw) (B := B_draw) (C := C_draw) (x := (source_here_101, (9 : Int))) (y := (x124, source_here_126)) (cs2 := ((a1, HO.lst (source_here_126.map V.int)) :: cs)) (cc := [(a1, HO.lst (source_here_101.map V.int))]) (cs' := (cs)) (r_c rfl (r_d d_int r_nil)) sb_rfl k125 sb_rfl) (a_cons d_int a_nil))) k128) (fun _ => rfl) (fun v133 F129 H130 g131 hS132 hv134 => ?_)
    obtain ⟨⟨x135, source_here_137⟩, k136, m⟩ := bnd m; (try dsimp only at m)
    obtain ⟨x138, k139, m⟩ := bnd m
    refine s_set (K := K) (d := eD x138) (i := 8) (σ' := fun v144 => [some a0, some (.ref a1), some (.int x49), some (.int x56), some v108, some v122, some v97, some v133, some v144, none, none, some w11, some w12, some (.int store_here_1.2.2.1), some w14, none, none]) hS132 (d_ix (e := eD) (d_lst (a_cons d_int (a_cons d_int (a_cons (d_neg d_int) (a_cons d_bl (a_cons d_non (a_cons d_str (a_cons (d_lst (a_cons d_int a_nil) (Nat.le_of_ble_eq_true rfl)) (a_cons (d_is (e := PyData.int 100000000000000000000) (d_powC d_int d_int ⟨by decide, by decide, by decide⟩) (congrArg PyData.int (by decide))) a_nil)))))))) (Nat.le_of_ble_eq_true rfl)) (d_callX (A := A_draw) (B := B_draw) (C := C_draw) (x := (source_here_126, (8 : Int))) (y := (x135, source_here_137)) (cs2 := ((a1, HO.lst (source_here_137.map V.int)) :: cs)) (cc := [(a1, HO.lst (source_here_126.map V.int))]) (cs' := (cs)) (r_c rfl (r_d d_int r_nil)) sb_rfl k136 sb_rfl) k139) (fun _ => rfl) (fun v144 F140 H141 g142 hS143 hv145 => ?_)
    obtain ⟨⟨x146, source_here_148⟩, k147, m⟩ := bnd m; (try dsimp only at m)
    refine s_setV (K := K) (d := eI x146) (i := 9) (σ' := [some a0, some (.ref a1), some (.int x49), some (.int x56), some v108, some v122, some v97, some v133, some v144, some (.int x146), none, some w11, some w12, some (.int store_here_1.2.2.1), some w14, none, none]) (fun _ _ h => Dt.toInt h) hS143 (d_callX (A := A_draw) (B := B_draw) (C := C_draw) (x := (source_here_137, (4 : Int))) (y := (x146, source_here_148)) (cs2 := ((a1, HO.lst (source_here_148.map V.int)) :: cs)) (cc := [(a1, HO.lst (source_here_137.map V.int))]) (cs' := (cs)) (r_c rfl (r_d d_int r_nil)) sb_rfl k147 sb_rfl) rfl (fun F149 H150 g151 hS152 => ?_)
    obtain ⟨made_157, k158, m⟩ := lt m
    refine s_setC (K := K) (ds := made_157.map eD) (i := 10) (σ' := fun p159 => [some a0, some (.ref a1), some (.int x49), some (.int x56), some v108, some v122, some v97, some v133, some v144, some (.int x146), some (.ref p159), some w11, some w12, some (.int store_here_1.2.2.1), some w14, none, none]) hS152 (c_is (c_lst (a_cons (d_var rfl (Dt.gr (Gr.tr g47 (Gr.tr g54 (Gr.tr g61 (Gr.tr g70 (Gr.tr g82 (Gr.tr g95 (Gr.tr g106 (Gr.tr g118 (Gr.tr g131 (Gr.tr g142 g151)))))))))) hw15)) (a_cons (d_var rfl (Dt.gr (Gr.tr g47 (Gr.tr g54 (Gr.tr g61 (Gr.tr g70 (Gr.tr g82 (Gr.tr g95 (Gr.tr g106 (Gr.tr g118 (Gr.tr g131 (Gr.tr g142 g151)))))))))) hw16)) (a_cons (d_var rfl (.int _)) (a_cons (d_var rfl (Dt.gr (Gr.tr g47 (Gr.tr g54 (Gr.tr g61 (Gr.tr g70 (Gr.tr g82 (Gr.tr g95 (Gr.tr g106 (Gr.tr g118 (Gr.tr g131 (Gr.tr g142 g151)))))))))) hw18)) a_nil)))) (Nat.le_of_ble_eq_true rfl)) (congrArg (List.map eD) k158)) (fun _ => rfl) (fun p159 us160 F153 H154 g155 hS156 hu161 => ?_)
    obtain ⟨⟨x162, source_here_164⟩, k163, m⟩ := bnd m; (try dsimp only at m)
    obtain ⟨⟨source_here_230, made_231⟩, k167, m⟩ := bnd m
    try dsimp only at m
    refine s_for (K := K) (xs := (enumM ([x91, x127, x138, x162] : (List PyData)))) (en := (eT2 eI eD)) (body := (f_spoilt_b165 x146)) (s0 := (source_here_164, made_157)) (r := (source_here_230, made_231)) (fun (a : (List Int) × (List PyData)) F σ c => ∃ (j15 : Option V) (j16 : Option V) (z10 : List V), σ = [some a0, some (.ref a1), some (.int x49), some (.int x56), some v108, some v122, some v97, some v133, some v144, some (.int x146), some (.ref p159), some w11, some w12, some (.int store_here_1.2.2.1), some w14, j15, j16] ∧ (p159, .lst z10) :: (a1, .lst (a.1.map V.int)) :: cs = c ∧ Dts K F z10 (a.2.map eD)) hS156 (i_enum (en := eD) (a_cons (d_lst (a_cons (d_var rfl (Dt.gr (Gr.tr g106 (Gr.tr g118 (Gr.tr g131 (Gr.tr g142 (Gr.tr g151 g155))))) hv98)) (a_cons (d_var rfl (Dt.gr (Gr.tr g142 (Gr.tr g151 g155)) hv134)) (a_cons (d_var rfl (Dt.gr (Gr.tr g151 g155) hv145)) (a_cons (d_callX (A := A_bad_boxes) (B := B_bad_boxes) (C := C_bad_boxes) (x := (store_here_1, source_here_148)) (y := (x162, source_here_164)) (cs2 := ((p159, HO.lst us160) :: (a1, HO.lst (source_here_164.map V.int)) :: cs)) (cc := [(a1, HO.lst (source_here_148.map V.int))]) (cs' := ((p159, HO.lst us160) :: cs)) (r_d (d_var rfl (Dt.gr (Gr.tr g5 (Gr.tr g47 (Gr.tr g54 (Gr.tr g61 (Gr.tr g70 (Gr.tr g82 (Gr.tr g95 (Gr.tr g106 (Gr.tr g118 (Gr.tr g131 (Gr.tr g142 (Gr.tr g151 g155)))))))))))) ha0)) (r_c rfl r_nil)) (sb_perm (List.perm_middle (l₁ := [(p159, HO.lst us160)]))) k163 (sb_perm (List.Perm.symm (List.perm_middle (l₁ := [(p159, HO.lst us160)]))))) a_nil)))) (Nat.le_of_ble_eq_true rfl)) a_nil)) (fun _ _ => ⟨_, _, _, rfl, rfl, (Dts.gr ‹_› hu161)⟩) k167 ?_ ?_
    · rintro ⟨part_170, thing_171⟩ ⟨source_here_168, made_169⟩ b180 F172 F173 σ186 c187 H174 v179 N181 g175 ⟨u189, u190, us191, rfl, rfl, h192⟩ g176 hS177 hv178 m188 hN183
      obtain ⟨p193, w195, w196, rfl, hT194, hw197, hw198⟩ := u2 hv178
      obtain rfl := Dt.toInt hw197
      refine tg (σ' := [some a0, some (.ref a1), some (.int x49), some (.int x56), some v108, some v122, some v97, some v133, some v144, some (.int x146), some (.ref p159), some w11, some w12, some (.int store_here_1.2.2.1), some w14, some (.int part_170), some w196]) (fun Q hq => ⟨p193, [_, _], rfl, gr_T hS177.fr hT194, rfl, _, _, rfl, _, _, rfl, rfl, hq⟩) ?_
      unfold f_spoilt_b165 at m188
      try dsimp only at m188
      obtain ⟨⟨x205, source_here_207⟩, k206, m188⟩ := bnd m188; (try dsimp only at m188)
      refine s_if (b := x205) hS177 (t_orC (r := x205) (t_test (K := K) (d_eqI (d_var rfl (.int _)) (d_var rfl (.int _)))) (fun hc => by rw [if_neg (bf hc)] at k206; obtain ⟨⟨x202, source_here_204⟩, k203, k206⟩ := bnd k206; (try dsimp only at k206); obtain ⟨rfl, rfl⟩ := pr2 (sm k206); exact (t_andC (r := x202) (t_test (K := K) (d_gt (d_var rfl (.int _)) (d_var rfl (.int _)))) (fun hc => by rw [if_pos hc] at k203; obtain ⟨⟨x199, source_here_201⟩, k200, k203⟩ := bnd k203; (try dsimp only at k203); obtain ⟨rfl, rfl⟩ := pr2 (sm k203); exact (t_test (K := K) (d_eqI (d_callX (A := A_draw) (B := B_draw) (C := C_draw) (x := (source_here_168, (3 : Int))) (y := (x199, source_here_201)) (cs2 := ((p159, HO.lst us191) :: (a1, HO.lst (source_here_201.map V.int)) :: cs)) (cc := [(a1, HO.lst (source_here_168.map V.int))]) (cs' := ((p159, HO.lst us191) :: cs)) (r_c rfl (r_d d_int r_nil)) (sb_perm (List.perm_middle (l₁ := [(p159, HO.lst us191)]))) k200 (sb_perm (List.Perm.symm (List.perm_middle (l₁ := [(p159, HO.lst us191)]))))) d_int))) (fun hc => by rw [if_neg (bf hc)] at k203; obtain ⟨rfl, rfl⟩ := pr2 (sm k203); exact ⟨rfl, rfl⟩))) (fun hc => by rw [if_pos hc] at k206; obtain ⟨rfl, rfl⟩ := pr2 (sm k206); exact ⟨rfl, rfl⟩)) (fun hc F208 H209 g210 hS211 => ?_) (fun hc F220 H221 g222 hS223 => ?_)
      · rw [if_pos hc] at m188
        obtain ⟨made_212, k213, m188⟩ := bnd m188
        refine s_itemGV (K := K) (k1 := []) (m1 := []) (x := thing_171) (l1 := []) (p := p159) (en := eD) hS211 (Dts.gr (Gr.tr g176 g210) h192) (vp_var rfl) (d_var rfl (Dt.gr g210 hw198)) (d_var rfl (.int _)) k213 (fun us218 F214 H215 g216 hS217 hu219 => ?_)
        obtain rfl := sm m188
        exact hN183 _ _ _ _ (Gr.tr g210 g216) hS217 ⟨_, _, _, rfl, rfl, hu219⟩
      · rw [if_neg (bf hc)] at m188
        refine nxt ?_
        obtain rfl := sm m188
        exact hN183 _ _ _ _ g222 hS223 ⟨_, _, _, rfl, rfl, (Dts.gr (Gr.tr g176 g222) h192)⟩
    · rintro F224 σ229 c228 H225 g226 hS227 ⟨u232, u233, us234, rfl, rfl, h235⟩
      have hS236 := Sta.frozeAt (l1 := []) hS227
      obtain ⟨x237, k238, m⟩ := bnd m
      refine s_ret (K := K) (d := (eT2 eD eS) ((PyData.tuple (made_231.map eD)), x237)) hS236 (d_tup (a_cons (d_tupleL (a_cons (d_var rfl (Dt.lst (.inl (.inl upd_same)) (Dts.gr (Gr.new (Sta.freeAt (l1 := []) hS227)) h235))) a_nil)) (a_cons (d_ix (e := eS) (d_lst (a_cons d_str (a_cons d_str (a_cons d_str (a_cons d_str a_nil)))) (Nat.le_of_ble_eq_true rfl)) (d_var rfl (.int _)) k238) a_nil)) (Nat.le_of_ble_eq_true rfl)) (fun v243 F239 H240 g241 hS242 hv244 => ?_)
      obtain rfl := sm m
      exact q _ _ _ (Gr.tr g5 (Gr.tr g47 (Gr.tr g54 (Gr.tr g61 (Gr.tr g70 (Gr.tr g82 (Gr.tr g95 (Gr.tr g106 (Gr.tr g118 (Gr.tr g131 (Gr.tr g142 (Gr.tr g151 (Gr.tr g155 (Gr.tr g226 (Gr.tr (Gr.new (Sta.freeAt (l1 := []) hS227)) g241))))))))))))))) hS242 hv244
theorem sc_spoilt : FnScope N_spoilt ["_law_store_here", "_law_source_here"] (defScope s_spoilt) := ⟨rfl, rfl, rfl, by decide +kernel, rfl, by decide +kernel, by decide +kernel⟩
theorem ok_spoilt {P : Program} {w : World} {K : PySem.W.Frag} {mg : Str → Option Value} {base : Heap} (hF : Df K mg "_law_spoilt" s_spoilt) (m_enumerate : mg "enumerate" = none) (m_len : mg "len" = none) (m_list : mg "list" = none) (m_min : mg "min" = none) (m_tuple : mg "tuple" = none) (o_bad_boxes : Ok P w K mg base 2 "_law_bad_boxes" ["_law_store_here", "_law_source_here"] (sp_bad_boxes K)) (o_draw : Ok P w K mg base 1 "_law_draw" ["_law_source_here", "_law_many"] (sp_draw K)) : Ok P w K mg base 3 "_law_spoilt" ["_law_store_here", "_law_source_here"] (sp_spoilt K) := by
  obtain ⟨⟨_, G_bad_boxes, bd_bad_boxes, _⟩, kp_bad_boxes, gm_bad_boxes⟩ := o_bad_boxes
  obtain ⟨⟨_, G_draw, bd_draw, _⟩, kp_draw, gm_draw⟩ := o_draw
  obtain ⟨⟨fd, F⟩, gm⟩ := hF
  refine ⟨⟨fd, F.ok sc_spoilt (fun vs H Q E h => ?_) (fun cdv A outer s H vs Q E hr h => ⟨t_spoilt K, PSs.nox ?_, w_spoilt vs H Q E h⟩), F.bindsN fun _ _ _ _ _ _ us hl => match us, hl with | [_, _], _ => rfl, lk_of F⟩, F.kp, gm⟩
  · obtain ⟨F0, cc, cs, x, y, h, _⟩ := h; exact ArgR.len h
  · exact (pss_cons (ps_asg (pv 0) (pg_tup rfl (pgs_cons (pg_name (i := 11) sc_spoilt.nd rfl (Or.inl rfl)) (pgs_cons (pg_name (i := 12) sc_spoilt.nd rfl (Or.inl rfl)) (pgs_cons (pg_name (i := 13) sc_spoilt.nd rfl (Or.inl rfl)) (pgs_cons (pg_name (i := 14) sc_spoilt.nd rfl (Or.inl rfl)) pgs_nil)))))) (pss_cons (ps_if (pt_cmpR op_eq (pe_call G_draw (hr.mono (by decide)) (by rfl) gm_draw kp_draw bd_draw .nil pass0 (pa_cons (pv 1) (pa_cons pe_int pa_nil))) pe_int (nomark _)) (pss_cons (ps_set (i := 5) sc_spoilt.nd rfl (Or.inl rfl) (pe_lst (pa_cons pe_non (pa_cons pe_int (pa_cons pe_str (pa_cons (pe_callTy cr_list (by rfl) m_list (by decide +kernel) (pa_cons (pv 0) pa_nil)) (pa_cons (pe_slice sl_tupA (pv 0) po_none (po_some pe_int)) (pa_cons (pe_op op_catT (pv 0) (pe_tup (pa_cons pe_int pa_nil))) (pa_cons (pe_tup pa_nil) (pa_cons pe_dnewK (pa_cons (pe_tup (pa_cons (pv 0) pa_nil)) pa_nil))))))))))) (pss_one (ps_ret (pe_tup (pa_cons (pe_ix ix_list (pv 5) (pe_call G_draw (hr.mono (by decide)) (by rfl) gm_draw kp_draw bd_draw .nil pass0 (pa_cons (pv 1) (pa_cons pe_int pa_nil))) (fun _ _ => rfl)) (pa_cons pe_str pa_nil)))))) pss_nil) (pss_cons (ps_set (i := 2) sc_spoilt.nd rfl (Or.inl rfl) (pe_call G_draw (hr.mono (by decide)) (by rfl) gm_draw kp_draw bd_draw .nil pass0 (pa_cons (pv 1) (pa_cons (pe_callB cr_lenL (by rfl) m_len PySem.boot_len (pa_cons (pv 11) pa_nil)) pa_nil)))) (pss_cons (ps_set (i := 3) sc_spoilt.nd rfl (Or.inl rfl) (pe_call G_draw (hr.mono (by decide)) (by rfl) gm_draw kp_draw bd_draw .nil pass0 (pa_cons (pv 1) (pa_cons (pe_callB cr_lenL (by rfl) m_len PySem.boot_len (pa_cons (pv 12) pa_nil)) pa_nil)))) (pss_cons (ps_set (i := 4) sc_spoilt.nd rfl (Or.inl rfl) (pe_ix ix_list (pe_lst (pa_cons pe_int (pa_cons pe_int (pa_cons (pe_un un_neg pe_int) (pa_cons pe_bl (pa_cons pe_non (pa_cons pe_str (pa_cons (pe_lst (pa_cons pe_int pa_nil)) (pa_cons (pe_tup (pa_cons pe_int pa_nil)) pa_nil))))))))) (pe_call G_draw (hr.mono (by decide)) (by rfl) gm_draw kp_draw bd_draw .nil pass0 (pa_cons (pv 1) (pa_cons pe_int pa_nil))) (fun _ _ => rfl))) (pss_cons (ps_set (i := 5) sc_spoilt.nd rfl (Or.inl rfl) (pe_lst (pa_cons pe_non (pa_cons (pe_callTy cr_tuple (by rfl) m_tuple (by decide +kernel) (pa_cons (pv 11) pa_nil)) (pa_cons (pe_lst pa_nil) (pa_cons (pe_slice sl_list (pv 11) po_none (po_some pe_int)) (pa_cons (pe_slice sl_list (pe_op op_repS (pv 11) pe_int) po_none (po_some pe_int)) (pa_cons (pe_op op_catS (pe_op op_catS (pe_slice sl_list (pv 11) po_none (po_some (pv 2))) (pe_lst (pa_cons (pv 4) pa_nil))) (pe_slice sl_list (pv 11) (po_some (pe_op op_add (pv 2) pe_int)) po_none)) pa_nil)))))))) (pss_cons (ps_set (i := 6) sc_spoilt.nd rfl (Or.inl rfl) (pe_ix ix_list (pv 5) (pe_callB (cr_min2 rfl) (by rfl) m_min (by decide +kernel) (pa_cons (pe_call G_draw (hr.mono (by decide)) (by rfl) gm_draw kp_draw bd_draw .nil pass0 (pa_cons (pv 1) (pa_cons pe_int pa_nil))) (pa_cons pe_int pa_nil))) (fun _ _ => rfl))) (pss_cons (ps_set (i := 4) sc_spoilt.nd rfl (Or.inl rfl) (pe_ix ix_list (pe_lst (pa_cons pe_int (pa_cons (pe_un un_neg pe_int) (pa_cons (pe_op op_add (pe_op op_pow pe_int pe_int) pe_int) (pa_cons (pe_op op_pow pe_int pe_int) (pa_cons pe_bl (pa_cons pe_non (pa_cons pe_str (pa_cons (pe_lst (pa_cons pe_int pa_nil)) pa_nil))))))))) (pe_call G_draw (hr.mono (by decide)) (by rfl) gm_draw kp_draw bd_draw .nil pass0 (pa_cons (pv 1) (pa_cons pe_int pa_nil))) (fun _ _ => rfl))) (pss_cons (ps_set (i := 5) sc_spoilt.nd rfl (Or.inl rfl) (pe_lst (pa_cons pe_non (pa_cons (pe_callTy cr_tuple (by rfl) m_tuple (by decide +kernel) (pa_cons (pv 12) pa_nil)) (pa_cons (pe_lst pa_nil) (pa_cons (pe_op op_catS (pv 12) (pe_lst (pa_cons pe_int pa_nil))) (pa_cons (pe_slice sl_list (pv 12) (po_some pe_int) po_none) (pa_cons (pe_op op_catS (pe_op op_catS (pe_slice sl_list (pv 12) po_none (po_some (pv 3))) (pe_lst (pa_cons (pv 4) pa_nil))) (pe_slice sl_list (pv 12) (po_some (pe_op op_add (pv 3) pe_int)) po_none)) pa_nil)))))))) (pss_cons (ps_set (i := 7) sc_spoilt.nd rfl (Or.inl rfl) (pe_ix ix_list (pv 5) (pe_callB (cr_min2 rfl) (by rfl) m_min (by decide +kernel) (pa_cons (pe_call G_draw (hr.mono (by decide)) (by rfl) gm_draw kp_draw bd_draw .nil pass0 (pa_cons (pv 1) (pa_cons pe_int pa_nil))) (pa_cons pe_int pa_nil))) (fun _ _ => rfl))) (pss_cons (ps_set (i := 8) sc_spoilt.nd rfl (Or.inl rfl) (pe_ix ix_list (pe_lst (pa_cons pe_int (pa_cons pe_int (pa_cons (pe_un un_neg pe_int) (pa_cons pe_bl (pa_cons pe_non (pa_cons pe_str (pa_cons (pe_lst (pa_cons pe_int pa_nil)) (pa_cons (pe_op op_pow pe_int pe_int) pa_nil))))))))) (pe_call G_draw (hr.mono (by decide)) (by rfl) gm_draw kp_draw bd_draw .nil pass0 (pa_cons (pv 1) (pa_cons pe_int pa_nil))) (fun _ _ => rfl))) (pss_cons (ps_set (i := 9) sc_spoilt.nd rfl (Or.inl rfl) (pe_call G_draw (hr.mono (by decide)) (by rfl) gm_draw kp_draw bd_draw .nil pass0 (pa_cons (pv 1) (pa_cons pe_int pa_nil)))) (pss_cons (ps_set (i := 10) sc_spoilt.nd rfl (Or.inl rfl) (pe_lst (pa_cons (pv 11) (pa_cons (pv 12) (pa_cons (pv 13) (pa_cons (pv 14) pa_nil)))))) (pss_cons (ps_for PassesOwn.never rfl (pi_enum (by rfl) m_enumerate (pa_cons (pe_lst (pa_cons (pv 6) (pa_cons (pv 7) (pa_cons (pv 8) (pa_cons (pe_call G_bad_boxes (hr.mono (by decide)) (by rfl) gm_bad_boxes kp_bad_boxes bd_bad_boxes .nil pass0 (pa_cons (pv 0) (pa_cons (pv 1) pa_nil))) pa_nil))))) pa_nil)) (pg_tup rfl (pgs_cons (pg_name (i := 15) sc_spoilt.nd rfl (Or.inl rfl)) (pgs_cons (pg_name (i := 16) sc_spoilt.nd rfl (Or.inl rfl)) pgs_nil))) (pss_one (ps_if (PW.pt (pw_or (pt_cmpR op_eq (pv 15) (pv 9) (nomark _)) (pw_or1 (PW.pt (pw_and (pt_cmpR op_gt (pv 15) (pv 9) (nomark _)) (pw_and1 (pt_cmpR op_eq (pe_call G_draw (hr.mono (by decide)) (by rfl) gm_draw kp_draw bd_draw .nil pass0 (pa_cons (pv 1) (pa_cons pe_int pa_nil))) pe_int (nomark _)))))))) (pss_one (ps_asg (pv 16) (pg_sub (pv 10) (pv 15) set_list))) pss_nil))) (pss_one (ps_ret (pe_tup (pa_cons (pe_callTy cr_tuple (by rfl) m_tuple (by decide +kernel) (pa_cons (pv 10) pa_nil)) (pa_cons (pe_ix ix_list (pe_lst (pa_cons pe_str (pa_cons pe_str (pa_cons pe_str (pa_cons pe_str pa_nil))))) (pv 9) (fun _ _ => rfl)) pa_nil)))))))))))))))))))
abbrev s_sixty_one : Stmt := (top 46)
def f_sixty_one : Unit → Option (((List Int) × (List Int) × Int × (List (Str × Int × Int)))) := fun _ => (letM ("abcdefghijklmnopqrstuvwxyz" : Str) fun letters_5 => (((rngM (0 : Int) (61 : Int))).bind fun x7 => ((lcC (fun j_9 => (((ixS letters_5 (j_9 % (26 : Int)))).bind fun x20 => ((scatM ("z" : Str) x20)).bind fun x22 => ((ixS letters_5 (j_9 / (26 : Int)))).bind fun x24 => ((scatM x22 x24)).bind fun x26 => some (some (x26, (j_9 % (2 : Int)), (j_9 % (2 : Int)))))) x7)).bind fun x28 => some (([(40 : Int), (40 : Int)] : (List Int)), ([(1 : Int)] : (List Int)), (1 : Int), x28)))
abbrev A_sixty_one : Unit → List PyData := fun x => []
abbrev N_sixty_one : List Str := ["_law_letters", "_law_boxes", "_law_j"]
abbrev sp_sixty_one (K : PySem.W.Frag) : Sp := spP K A_sixty_one (eT4 (eL eI) (eL eI) eI (eL (eT3 eS eI eI))) f_sixty_one
def t_sixty_one (K : PySem.W.Frag) : TS := (tSeq (tAsg (tC (.str "abcdefghijklmnopqrstuvwxyz")) (gName 0)) (tSeq (tAsg (tLc (iRng1 (tCons (tC (.int 61)) tNil)) (gName 2) tYes (tTup (tCons (tOp rScat (tOp rScat (tC (.str "z")) (tOp rIxS (tVar 0) (tOp (rI (fun _ j => 0 < j) fun i j => .int (i % j)) (tVar 2) (tC (.int 26))))) (tOp rIxS (tVar 0) (tOp (rI CDiv fun i j => .int (i / j)) (tVar 2) (tC (.int 26))))) (tCons (tOp (rI (fun _ j => 0 < j) fun i j => .int (i % j)) (tVar 2) (tC (.int 2))) (tCons (tOp (rI (fun _ j => 0 < j) fun i j => .int (i % j)) (tVar 2) (tC (.int 2))) tNil)))) [2]) (gName 1)) (tRet (tTup (tCons (tLst (tCons (tC (.int 40)) (tCons (tC (.int 40)) tNil))) (tCons (tLst (tCons (tC (.int 1)) tNil)) (tCons (tC (.int 1)) (tCons (tVar 1) tNil))))))))
theorem w_sixty_one {K : PySem.W.Frag} (vs : List V) (H : Hp) (Q : VK) (E : XK) (h : sp_sixty_one K vs H Q E) : t_sixty_one K { nx := fun _ H' => Q .non H', rt := Q } (start N_sixty_one vs) H := by
  obtain ⟨F0, cs, _, y, h, hS0, m, q⟩ := h
  obtain rfl := Dts.no h
  unfold f_sixty_one at m
  try dsimp only at m
  unfold t_sixty_one
  refine go (σ' := [none, none, none]) rfl ?_
  obtain ⟨letters_5, k6, m⟩ := lt m
  refine s_setV (K := K) (d := eS letters_5) (i := 0) (σ' := [some (.str letters_5), none, none]) (fun _ _ h => Dt.toStr h) hS0 (d_is d_str (congrArg eS k6)) rfl (fun F1 H2 g3 hS4 => ?_)
  obtain ⟨x7, k8, m⟩ := bnd m
  obtain ⟨x28, k29, m⟩ := bnd m
  refine s_set (K := K) (d := (eL (eT3 eS eI eI)) x28) (i := 1) (σ' := fun v34 => [some (.str letters_5), some v34, none]) hS4 (EvC.dd (c_lcC (K := K) (f := (fun j_9 => (((ixS letters_5 (j_9 % (26 : Int)))).bind fun x20 => ((scatM ("z" : Str) x20)).bind fun x22 => ((ixS letters_5 (j_9 / (26 : Int)))).bind fun x24 => ((scatM x22 x24)).bind fun x26 => some (some (x26, (j_9 % (2 : Int)), (j_9 % (2 : Int))))))) (em := (eT3 eS eI eI)) (i_rng1 (a_cons d_int a_nil) k8) k29 (fun j_9 o16 v17 F10 p11 us12 g13 hv14 ho15 => by obtain rfl := Dt.toInt hv14; obtain ⟨x20, k21, ho15⟩ := bnd ho15; obtain ⟨x22, k23, ho15⟩ := bnd ho15; obtain ⟨x24, k25, ho15⟩ := bnd ho15; obtain ⟨x26, k27, ho15⟩ := bnd ho15; obtain rfl := sm ho15; exact ⟨[some (.str letters_5), none, some (.int j_9)], fun H19 Q hS18 hq => (fun Q hq => hq) Q hq, rfl, t_yes, fun y hy => by obtain rfl := sm hy; exact (d_tup (a_cons (d_scat (d_scat d_str (d_ixS (d_var rfl (.str _)) (d_modC (d_var rfl (.int _)) d_int (by decide)) k21) k23) (d_ixS (d_var rfl (.str _)) (d_fdivC (d_var rfl (.int _)) d_int ⟨by decide, by decide⟩) k25) k27) (a_cons (d_modC (d_var rfl (.int _)) d_int (by decide)) (a_cons (d_modC (d_var rfl (.int _)) d_int (by decide)) a_nil))) (Nat.le_of_ble_eq_true rfl))⟩))) (fun _ => rfl) (fun v34 F30 H31 g32 hS33 hv35 => ?_)
  refine s_ret (K := K) (d := (eT4 (eL eI) (eL eI) eI (eL (eT3 eS eI eI))) (([(40 : Int), (40 : Int)] : (List Int)), ([(1 : Int)] : (List Int)), (1 : Int), x28)) hS33 (d_tup (a_cons (d_lst (a_cons d_int (a_cons d_int a_nil)) (Nat.le_of_ble_eq_true rfl)) (a_cons (d_lst (a_cons d_int a_nil) (Nat.le_of_ble_eq_true rfl)) (a_cons d_int (a_cons (d_var rfl hv35) a_nil)))) (Nat.le_of_ble_eq_true rfl)) (fun v40 F36 H37 g38 hS39 hv41 => ?_)
  obtain rfl := sm m
  exact q _ _ _ (Gr.tr g3 (Gr.tr g32 g38)) hS39 hv41
theorem sc_sixty_one : FnScope N_sixty_one [] (defScope s_sixty_one) := ⟨rfl, rfl, rfl, by decide +kernel, rfl, by decide +kernel, by decide +kernel⟩
theorem ok_sixty_one {P : Program} {w : World} {K : PySem.W.Frag} {mg : Str → Option Value} {base : Heap} (hF : Df K mg "_law_sixty_one" s_sixty_one) (m_range : mg "range" = none) : Ok P w K mg base 1 "_law_sixty_one" [] (sp_sixty_one K) := by
  obtain ⟨⟨fd, F⟩, gm⟩ := hF
  refine ⟨⟨fd, F.ok sc_sixty_one (fun vs H Q E h => ?_) (fun cdv A outer s H vs Q E hr h => ⟨t_sixty_one K, PSs.nox ?_, w_sixty_one vs H Q E h⟩), F.bindsN fun _ _ _ _ _ _ us hl => match us, hl with | [], _ => rfl, lk_of F⟩, F.kp, gm⟩
  · obtain ⟨F0, cs, x, y, h, _⟩ := h; exact Dts.len h
  · exact (pss_cons (ps_set (i := 0) sc_sixty_one.nd rfl (Or.inr rfl) pe_str) (pss_cons (ps_setLc (i := 1) (own := [("_law_j", 2)]) (g := (gName 2)) (tt := tYes) (te := (tTup (tCons (tOp rScat (tOp rScat (tC (.str "z")) (tOp rIxS (tVar 0) (tOp (rI (fun _ j => 0 < j) fun i j => .int (i % j)) (tVar 2) (tC (.int 26))))) (tOp rIxS (tVar 0) (tOp (rI CDiv fun i j => .int (i / j)) (tVar 2) (tC (.int 26))))) (tCons (tOp (rI (fun _ j => 0 < j) fun i j => .int (i % j)) (tVar 2) (tC (.int 2))) (tCons (tOp (rI (fun _ j => 0 < j) fun i j => .int (i % j)) (tVar 2) (tC (.int 2))) tNil))))) (by rfl) sc_sixty_one.nd rfl rfl (sw_true rfl rfl rfl (by decide +kernel)) (pi_range1 (by rfl) m_range (pa_cons pe_int pa_nil)) (blkOk_by (own := [("_law_j", 2)]) (N := N_sixty_one) (sc := defScope s_sixty_one) (by decide +kernel)) (fun _ _ _ _ _ => (pg_name (i := 2) sc_sixty_one.nd rfl (Or.inl rfl))) (fun _ _ _ _ _ => pts_nil) (fun _ _ _ _ _ => (pe_tup (pa_cons (pe_op op_scatR (pe_op op_scatR pe_str (pe_ix ix_str (pv 0) (pe_op op_mod (pv 2) pe_int) (fun _ _ => rfl))) (pe_ix ix_str (pv 0) (pe_op op_fdiv (pv 2) pe_int) (fun _ _ => rfl))) (pa_cons (pe_op op_mod (pv 2) pe_int) (pa_cons (pe_op op_mod (pv 2) pe_int) pa_nil)))))) (pss_one (ps_ret (pe_tup (pa_cons (pe_lst (pa_cons pe_int (pa_cons pe_int pa_nil))) (pa_cons (pe_lst (pa_cons pe_int pa_nil)) (pa_cons pe_int (pa_cons (pv 1) pa_nil)))))))))
abbrev s_Cart_where : Stmt := ((clsB (top 37)).getD 5 (.Pass ⟨0, 0, 0, 0⟩))
def f_Cart_where : T_Cart → Option Int := fun self_1 => some self_1.2.2.2.2.2.1
abbrev N_Cart_where : List Str := ["self"]
abbrev Oa_Cart_where (K : PySem.W.Frag) : T_Cart → Hp → Addr → Cs → Prop := fun x F a c => O_Cart K x F a c
abbrev A_Cart_where : T_Cart → List PyData := fun x => []
abbrev sp_Cart_where (K : PySem.W.Frag) : Sp := spB K (Oa_Cart_where K) A_Cart_where eI f_Cart_where
def t_Cart_where (K : PySem.W.Frag) : TS := (tRet (tFld K (tVar 0) "bay"))
theorem w_Cart_where {K : PySem.W.Frag} (cl_Cart : Cls K (He.ga K "Cart")) (na_Cart_bay : NoAttr K (He.ga K "Cart") "bay") (vs : List V) (H : Hp) (Q : VK) (E : XK) (h : sp_Cart_where K vs H Q E) : t_Cart_where K { nx := fun _ H' => Q .non H', rt := Q } (start N_Cart_where vs) H := by
  obtain ⟨F0, cc, cs, a0, ws, self_1, y, rfl, ho, h, hS0, m, q⟩ := h
  obtain rfl := Dts.no h
  obtain ⟨dx2, p3, p4, p5, p6, rfl⟩ := ho
  have hS1 : Sta F0 ((a0, .ins (He.ga K "Cart") dx2 [("rooms", (.ref p3)), ("gaps", (.ref p4)), ("most", (.int self_1.2.2.1)), ("spots", (.ref p5)), ("homes", (.ref p6)), ("bay", (.int self_1.2.2.2.2.2.1)), ("gone", (.int self_1.2.2.2.2.2.2))]) :: (dx2, .own a0) :: (p3, .lst (self_1.1.map V.int)) :: (p4, .lst (self_1.2.1.map V.int)) :: (p5, .dK (kvE kS V.int self_1.2.2.2.1)) :: (p6, .dK (kvE kS V.int self_1.2.2.2.2.1)) :: cs) H := hS0
  unfold f_Cart_where at m
  try dsimp only at m
  unfold t_Cart_where
  refine go (σ' := [some (.ref a0)]) rfl ?_
  refine s_ret (K := K) (d := eI self_1.2.2.2.2.2.1) hS1 (d_vp (vp_fld (vp_var rfl) (List.Mem.head _) cl_Cart na_Cart_bay rfl) (.int _)) (fun v11 F7 H8 g9 hS10 hv12 => ?_)
  have hS13 := Sta.perm hS10 (List.Perm.trans (List.perm_middle (l₁ := [(a0, HO.ins (He.ga K "Cart") dx2 [("rooms", (.ref p3)), ("gaps", (.ref p4)), ("most", (.int self_1.2.2.1)), ("spots", (.ref p5)), ("homes", (.ref p6)), ("bay", (.int self_1.2.2.2.2.2.1)), ("gone", (.int self_1.2.2.2.2.2.2))]), (dx2, HO.own a0), (p3, HO.lst (self_1.1.map V.int)), (p4, HO.lst (self_1.2.1.map V.int)), (p5, HO.dK (kvE kS V.int self_1.2.2.2.1))])) (List.Perm.trans (List.perm_middle (l₁ := [(p6, HO.dK (kvE kS V.int self_1.2.2.2.2.1)), (a0, HO.ins (He.ga K "Cart") dx2 [("rooms", (.ref p3)), ("gaps", (.ref p4)), ("most", (.int self_1.2.2.1)), ("spots", (.ref p5)), ("homes", (.ref p6)), ("bay", (.int self_1.2.2.2.2.2.1)), ("gone", (.int self_1.2.2.2.2.2.2))]), (dx2, HO.own a0), (p3, HO.lst (self_1.1.map V.int)), (p4, HO.lst (self_1.2.1.map V.int))])) (List.Perm.trans (List.perm_middle (l₁ := [(p5, HO.dK (kvE kS V.int self_1.2.2.2.1)), (p6, HO.dK (kvE kS V.int self_1.2.2.2.2.1)), (a0, HO.ins (He.ga K "Cart") dx2 [("rooms", (.ref p3)), ("gaps", (.ref p4)), ("most", (.int self_1.2.2.1)), ("spots", (.ref p5)), ("homes", (.ref p6)), ("bay", (.int self_1.2.2.2.2.2.1)), ("gone", (.int self_1.2.2.2.2.2.2))]), (dx2, HO.own a0), (p3, HO.lst (self_1.1.map V.int))])) (List.Perm.trans (List.perm_middle (l₁ := [(p4, HO.lst (self_1.2.1.map V.int)), (p5, HO.dK (kvE kS V.int self_1.2.2.2.1)), (p6, HO.dK (kvE kS V.int self_1.2.2.2.2.1)), (a0, HO.ins (He.ga K "Cart") dx2 [("rooms", (.ref p3)), ("gaps", (.ref p4)), ("most", (.int self_1.2.2.1)), ("spots", (.ref p5)), ("homes", (.ref p6)), ("bay", (.int self_1.2.2.2.2.2.1)), ("gone", (.int self_1.2.2.2.2.2.2))]), (dx2, HO.own a0)])) (List.Perm.trans (List.perm_middle (l₁ := [(p3, HO.lst (self_1.1.map V.int)), (p4, HO.lst (self_1.2.1.map V.int)), (p5, HO.dK (kvE kS V.int self_1.2.2.2.1)), (p6, HO.dK (kvE kS V.int self_1.2.2.2.2.1)), (a0, HO.ins (He.ga K "Cart") dx2 [("rooms", (.ref p3)), ("gaps", (.ref p4)), ("most", (.int self_1.2.2.1)), ("spots", (.ref p5)), ("homes", (.ref p6)), ("bay", (.int self_1.2.2.2.2.2.1)), ("gone", (.int self_1.2.2.2.2.2.2))])])) (List.perm_middle (l₁ := [(dx2, HO.own a0), (p3, HO.lst (self_1.1.map V.int)), (p4, HO.lst (self_1.2.1.map V.int)), (p5, HO.dK (kvE kS V.int self_1.2.2.2.1)), (p6, HO.dK (kvE kS V.int self_1.2.2.2.2.1))])))))))
  obtain rfl := sm m
  exact q _ _ _ g9 hS13 hv12
theorem sc_Cart_where : FnScope N_Cart_where ["self"] (defScope s_Cart_where) := ⟨rfl, rfl, rfl, by decide +kernel, rfl, by decide +kernel, by decide +kernel⟩
theorem ok_Cart_where {P : Program} {w : World} {K : PySem.W.Frag} {mg : Str → Option Value} {base : Heap} (hF : DfM K "Cart" "where" "Cart.where" s_Cart_where) (clM : Cls K (He.ga K "Cart")) (meM : Meth K (He.ga K "Cart") "where" (He.ma K (He.ga K "Cart") "where")) (cl_Cart : Cls K (He.ga K "Cart")) (na_Cart_bay : NoAttr K (He.ga K "Cart") "bay") : OkMe P w K mg base CX0 1 "Cart" "where" ["self"] (sp_Cart_where K) := by
  obtain ⟨fd, F⟩ := hF
  refine ⟨⟨fd, F.ok sc_Cart_where (fun vs H Q E h => ?_) (fun cdv A outer s H vs Q E hr h => ⟨t_Cart_where K, PSs.nox ?_, w_Cart_where cl_Cart na_Cart_bay vs H Q E h⟩), F.bindsN fun _ _ _ _ _ _ us hl => match us, hl with | [_], _ => rfl⟩, clM, meM⟩
  · obtain ⟨F0, cc, cs, a, ws, x, y, rfl, _, h, _⟩ := h; exact congrArg Nat.succ (Dts.len h)
  · exact (pss_one (ps_ret (pe_fld (pv 0) rfl)))
abbrev s_Cart_names_at : Stmt := ((clsB (top 37)).getD 2 (.Pass ⟨0, 0, 0, 0⟩))
def f_Cart_names_at : (T_Cart × Int) → Option (List Str) := fun (self_1, spot_2) => (((filC (fun (name_12, at_13) => (decide (at_13 = spot_2))) (fun (name_12, at_13) => name_12) self_1.2.2.2.1)).bind fun x30 => ((srtM x30)).bind fun x32 => some x32)
abbrev N_Cart_names_at : List Str := ["self", "spot", "name", "at"]
abbrev Oa_Cart_names_at (K : PySem.W.Frag) : (T_Cart × Int) → Hp → Addr → Cs → Prop := fun x F a c => O_Cart K x.1 F a c
abbrev A_Cart_names_at : (T_Cart × Int) → List PyData := fun x => [eI x.2]
abbrev B_Cart_names_at : (List Str) → List PyData := fun y => y.map eS
abbrev sp_Cart_names_at (K : PySem.W.Frag) : Sp := spBF K (Oa_Cart_names_at K) A_Cart_names_at B_Cart_names_at f_Cart_names_at
def t_Cart_names_at (K : PySem.W.Frag) : TS := (tRet (tCB (rSortedS K) (tCons (tLockE (tLc (iItems (tFld K (tVar 0) "spots")) (gTup K 2 (gCons (gName 2) (gCons (gName 3) gNil))) (tTest (tOp rEq (tVar 3) (tVar 1))) (tVar 2) [2, 3])) tNil)))
theorem w_Cart_names_at {K : PySem.W.Frag} (cl_Cart : Cls K (He.ga K "Cart")) (na_Cart_spots : NoAttr K (He.ga K "Cart") "spots") (vs : List V) (H : Hp) (Q : VK) (E : XK) (h : sp_Cart_names_at K vs H Q E) : t_Cart_names_at K { nx := fun _ H' => Q .non H', rt := Q } (start N_Cart_names_at vs) H := by
  obtain ⟨F0, cc, cs, a0, ws, ⟨self_1, spot_2⟩, y, rfl, ho, h, hS0, m, q⟩ := h
  obtain ⟨a1, _, rfl, ha1, h⟩ := Dts.hd h
  obtain rfl := Dts.no h
  obtain ⟨dx3, p4, p5, p6, p7, rfl⟩ := ho
  obtain rfl := Dt.toInt ha1
  have hS1 : Sta F0 ((a0, .ins (He.ga K "Cart") dx3 [("rooms", (.ref p4)), ("gaps", (.ref p5)), ("most", (.int self_1.2.2.1)), ("spots", (.ref p6)), ("homes", (.ref p7)), ("bay", (.int self_1.2.2.2.2.2.1)), ("gone", (.int self_1.2.2.2.2.2.2))]) :: (dx3, .own a0) :: (p4, .lst (self_1.1.map V.int)) :: (p5, .lst (self_1.2.1.map V.int)) :: (p6, .dK (kvE kS V.int self_1.2.2.2.1)) :: (p7, .dK (kvE kS V.int self_1.2.2.2.2.1)) :: cs) H := hS0
  unfold f_Cart_names_at at m
  try dsimp only at m
  unfold t_Cart_names_at
  refine go (σ' := [some (.ref a0), some (.int spot_2), none, none]) rfl ?_
  refine o_ret ?_
  obtain ⟨x30, k31, m⟩ := bnd m
  obtain ⟨x32, k33, m⟩ := bnd m
  refine o_c (K := K) (ds := x32.map eS) hS1 (c_sortedS (a_cons (EvC.dd (c_lock (l1 := [(a0, HO.ins (He.ga K "Cart") dx3 [("rooms", (.ref p4)), ("gaps", (.ref p5)), ("most", (.int self_1.2.2.1)), ("spots", (.ref p6)), ("homes", (.ref p7)), ("bay", (.int self_1.2.2.2.2.2.1)), ("gone", (.int self_1.2.2.2.2.2.2))]), (dx3, HO.own a0), (p4, HO.lst (self_1.1.map V.int)), (p5, HO.lst (self_1.2.1.map V.int))]) (m1 := [(a0, HO.ins (He.ga K "Cart") dx3 [("rooms", (.ref p4)), ("gaps", (.ref p5)), ("most", (.int self_1.2.2.1)), ("spots", (.ref p6)), ("homes", (.ref p7)), ("bay", (.int self_1.2.2.2.2.2.1)), ("gone", (.int self_1.2.2.2.2.2.2))]), (dx3, HO.own a0), (p4, HO.lst (self_1.1.map V.int)), (p5, HO.lst (self_1.2.1.map V.int))]) (p := p6) (nls nl_S _) (fun od11 F8 g9 hn10 => (c_filC (K := K) (p := (fun (name_12, at_13) => (decide (at_13 = spot_2)))) (f := (fun (name_12, at_13) => name_12)) (em := eS) (i_items (kf := kS) (vf := V.int) (ek := eS) (ev := eI) (fun _ _ => .str _) (fun _ _ => (.int _)) (vp_fld (vp_var rfl) (List.Mem.head _) cl_Cart na_Cart_spots rfl) upd_same) k31 (fun ⟨name_12, at_13⟩ o20 v21 F14 p15 us16 g17 hv18 ho19 => by obtain ⟨p24, w26, w27, rfl, hT25, hw28, hw29⟩ := u2 hv18; obtain rfl := Dt.toStr hw28; obtain rfl := Dt.toInt hw29; obtain rfl := sm ho19; refine ⟨[some (.ref a0), some (.int spot_2), some (.str name_12), some (.int at_13)], fun H23 Q hS22 hq => (fun Q hq => ⟨p24, [_, _], rfl, gr_T hS22.fr hT25, rfl, _, _, rfl, _, _, rfl, rfl, hq⟩) Q hq, rfl, ?_, ?_⟩; (rw [isS]; exact (t_test (K := K) (d_eqI (d_var rfl (.int _)) (d_var rfl (.int _))))); (intro y hy; obtain rfl := isSm hy; exact (d_var rfl (.str _)))))))) a_nil) k33) (fun p38 us39 F34 H35 g36 hS37 hu40 => ?_)
  obtain rfl := Dts.strs hu40
  have hS41 := Sta.perm hS37 (List.Perm.trans (List.perm_middle (l₁ := [(p38, HO.lst (x32.map V.str)), (a0, HO.ins (He.ga K "Cart") dx3 [("rooms", (.ref p4)), ("gaps", (.ref p5)), ("most", (.int self_1.2.2.1)), ("spots", (.ref p6)), ("homes", (.ref p7)), ("bay", (.int self_1.2.2.2.2.2.1)), ("gone", (.int self_1.2.2.2.2.2.2))]), (dx3, HO.own a0), (p4, HO.lst (self_1.1.map V.int)), (p5, HO.lst (self_1.2.1.map V.int)), (p6, HO.dK (kvE kS V.int self_1.2.2.2.1))])) (List.Perm.trans (List.perm_middle (l₁ := [(p7, HO.dK (kvE kS V.int self_1.2.2.2.2.1)), (p38, HO.lst (x32.map V.str)), (a0, HO.ins (He.ga K "Cart") dx3 [("rooms", (.ref p4)), ("gaps", (.ref p5)), ("most", (.int self_1.2.2.1)), ("spots", (.ref p6)), ("homes", (.ref p7)), ("bay", (.int self_1.2.2.2.2.2.1)), ("gone", (.int self_1.2.2.2.2.2.2))]), (dx3, HO.own a0), (p4, HO.lst (self_1.1.map V.int)), (p5, HO.lst (self_1.2.1.map V.int))])) (List.Perm.trans (List.perm_middle (l₁ := [(p6, HO.dK (kvE kS V.int self_1.2.2.2.1)), (p7, HO.dK (kvE kS V.int self_1.2.2.2.2.1)), (p38, HO.lst (x32.map V.str)), (a0, HO.ins (He.ga K "Cart") dx3 [("rooms", (.ref p4)), ("gaps", (.ref p5)), ("most", (.int self_1.2.2.1)), ("spots", (.ref p6)), ("homes", (.ref p7)), ("bay", (.int self_1.2.2.2.2.2.1)), ("gone", (.int self_1.2.2.2.2.2.2))]), (dx3, HO.own a0), (p4, HO.lst (self_1.1.map V.int))])) (List.Perm.trans (List.perm_middle (l₁ := [(p5, HO.lst (self_1.2.1.map V.int)), (p6, HO.dK (kvE kS V.int self_1.2.2.2.1)), (p7, HO.dK (kvE kS V.int self_1.2.2.2.2.1)), (p38, HO.lst (x32.map V.str)), (a0, HO.ins (He.ga K "Cart") dx3 [("rooms", (.ref p4)), ("gaps", (.ref p5)), ("most", (.int self_1.2.2.1)), ("spots", (.ref p6)), ("homes", (.ref p7)), ("bay", (.int self_1.2.2.2.2.2.1)), ("gone", (.int self_1.2.2.2.2.2.2))]), (dx3, HO.own a0)])) (List.Perm.trans (List.perm_middle (l₁ := [(p4, HO.lst (self_1.1.map V.int)), (p5, HO.lst (self_1.2.1.map V.int)), (p6, HO.dK (kvE kS V.int self_1.2.2.2.1)), (p7, HO.dK (kvE kS V.int self_1.2.2.2.2.1)), (p38, HO.lst (x32.map V.str)), (a0, HO.ins (He.ga K "Cart") dx3 [("rooms", (.ref p4)), ("gaps", (.ref p5)), ("most", (.int self_1.2.2.1)), ("spots", (.ref p6)), ("homes", (.ref p7)), ("bay", (.int self_1.2.2.2.2.2.1)), ("gone", (.int self_1.2.2.2.2.2.2))])])) (List.Perm.trans (List.perm_middle (l₁ := [(dx3, HO.own a0), (p4, HO.lst (self_1.1.map V.int)), (p5, HO.lst (self_1.2.1.map V.int)), (p6, HO.dK (kvE kS V.int self_1.2.2.2.1)), (p7, HO.dK (kvE kS V.int self_1.2.2.2.2.1)), (p38, HO.lst (x32.map V.str))])) (List.perm_middle (l₁ := [(a0, HO.ins (He.ga K "Cart") dx3 [("rooms", (.ref p4)), ("gaps", (.ref p5)), ("most", (.int self_1.2.2.1)), ("spots", (.ref p6)), ("homes", (.ref p7)), ("bay", (.int self_1.2.2.2.2.2.1)), ("gone", (.int self_1.2.2.2.2.2.2))]), (dx3, HO.own a0), (p4, HO.lst (self_1.1.map V.int)), (p5, HO.lst (self_1.2.1.map V.int)), (p6, HO.dK (kvE kS V.int self_1.2.2.2.1)), (p7, HO.dK (kvE kS V.int self_1.2.2.2.2.1))]))))))))
  obtain rfl := sm m
  exact q _ _ _ _ g36 hS41 (Dts.of_strs _)
theorem sc_Cart_names_at : FnScope N_Cart_names_at ["self", "spot"] (defScope s_Cart_names_at) := ⟨rfl, rfl, rfl, by decide +kernel, rfl, by decide +kernel, by decide +kernel⟩
theorem ok_Cart_names_at {P : Program} {w : World} {K : PySem.W.Frag} {mg : Str → Option Value} {base : Heap} (hF : DfM K "Cart" "names_at" "Cart.names_at" s_Cart_names_at) (clM : Cls K (He.ga K "Cart")) (meM : Meth K (He.ga K "Cart") "names_at" (He.ma K (He.ga K "Cart") "names_at")) (m_sorted : mg "sorted" = none) (cl_Cart : Cls K (He.ga K "Cart")) (na_Cart_spots : NoAttr K (He.ga K "Cart") "spots") : OkMe P w K mg base CX0 1 "Cart" "names_at" ["self", "spot"] (sp_Cart_names_at K) := by
  obtain ⟨fd, F⟩ := hF
  refine ⟨⟨fd, F.ok sc_Cart_names_at (fun vs H Q E h => ?_) (fun cdv A outer s H vs Q E hr h => ⟨t_Cart_names_at K, PSs.nox ?_, w_Cart_names_at cl_Cart na_Cart_spots vs H Q E h⟩), F.bindsN fun _ _ _ _ _ _ us hl => match us, hl with | [_, _], _ => rfl⟩, clM, meM⟩
  · obtain ⟨F0, cc, cs, a, ws, x, y, rfl, _, h, _⟩ := h; exact congrArg Nat.succ (Dts.len h)
  · exact (pss_one (ps_ret (pe_callB cr_sortedS (by rfl) m_sorted (by decide +kernel) (pa_cons (pe_lock (pe_lc (own := [("name", 2), ("at", 3)]) (g := (gTup K 2 (gCons (gName 2) (gCons (gName 3) gNil)))) (tt := (tTest (tOp rEq (tVar 3) (tVar 1)))) (te := (tVar 2)) (by rfl) sc_Cart_names_at.nd (pi_items (pe_fld (pv 0) rfl)) (blkOk_by (own := [("name", 2), ("at", 3)]) (N := N_Cart_names_at) (sc := defScope s_Cart_names_at) (by decide +kernel)) (fun _ _ _ _ _ => (pg_tup rfl (pgs_cons (pg_name (i := 2) sc_Cart_names_at.nd rfl (Or.inl rfl)) (pgs_cons (pg_name (i := 3) sc_Cart_names_at.nd rfl (Or.inl rfl)) pgs_nil)))) (fun _ _ _ _ _ => (pts_one (pt_cmpR op_eq (pv 3) (pv 1) (nomark _)))) (fun _ _ _ _ _ => (pv 2)))) pa_nil))))
abbrev s_Cart_names_at_2 : Stmt := ((clsB (top 37)).getD 2 (.Pass ⟨0, 0, 0, 0⟩))
def f_Cart_names_at_2 : (T_Cart × Unit) → Option (List Str) := fun (self_1, spot_2) => (((filC (fun (name_12, at_13) => (decide ((some at_13) = (none : Option Int)))) (fun (name_12, at_13) => name_12) self_1.2.2.2.1)).bind fun x30 => ((srtM x30)).bind fun x32 => some x32)
abbrev N_Cart_names_at_2 : List Str := ["self", "spot", "name", "at"]
abbrev Oa_Cart_names_at_2 (K : PySem.W.Frag) : (T_Cart × Unit) → Hp → Addr → Cs → Prop := fun x F a c => O_Cart K x.1 F a c
abbrev A_Cart_names_at_2 : (T_Cart × Unit) → List PyData := fun x => [eN x.2]
abbrev B_Cart_names_at_2 : (List Str) → List PyData := fun y => y.map eS
abbrev sp_Cart_names_at_2 (K : PySem.W.Frag) : Sp := spBF K (Oa_Cart_names_at_2 K) A_Cart_names_at_2 B_Cart_names_at_2 f_Cart_names_at_2
def t_Cart_names_at_2 (K : PySem.W.Frag) : TS := (tRet (tCB (rSortedS K) (tCons (tLockE (tLc (iItems (tFld K (tVar 0) "spots")) (gTup K 2 (gCons (gName 2) (gCons (gName 3) gNil))) (tTest (tOp (rEqD K) (tVar 3) (tVar 1))) (tVar 2) [2, 3])) tNil)))
theorem w_Cart_names_at_2 {K : PySem.W.Frag} (cl_Cart : Cls K (He.ga K "Cart")) (na_Cart_spots : NoAttr K (He.ga K "Cart") "spots") (vs : List V) (H : Hp) (Q : VK) (E : XK) (h : sp_Cart_names_at_2 K vs H Q E) : t_Cart_names_at_2 K { nx := fun _ H' => Q .non H', rt := Q } (start N_Cart_names_at_2 vs) H := by
  obtain ⟨F0, cc, cs, a0, ws, ⟨self_1, spot_2⟩, y, rfl, ho, h, hS0, m, q⟩ := h
  obtain ⟨a1, _, rfl, ha1, h⟩ := Dts.hd h
  obtain rfl := Dts.no h
  obtain ⟨dx3, p4, p5, p6, p7, rfl⟩ := ho
  obtain rfl := Dt.toNon ha1
  have hS1 : Sta F0 ((a0, .ins (He.ga K "Cart") dx3 [("rooms", (.ref p4)), ("gaps", (.ref p5)), ("most", (.int self_1.2.2.1)), ("spots", (.ref p6)), ("homes", (.ref p7)), ("bay", (.int self_1.2.2.2.2.2.1)), ("gone", (.int self_1.2.2.2.2.2.2))]) :: (dx3, .own a0) :: (p4, .lst (self_1.1.map V.int)) :: (p5, .lst (self_1.2.1.map V.int)) :: (p6, .dK (kvE kS V.int self_1.2.2.2.1)) :: (p7, .dK (kvE kS V.int self_1.2.2.2.2.1)) :: cs) H := hS0
  unfold f_Cart_names_at_2 at m
  try dsimp only at m
  unfold t_Cart_names_at_2
  refine go (σ' := [some (.ref a0), some .non, none, none]) rfl ?_
  refine o_ret ?_
  obtain ⟨x30, k31, m⟩ := bnd m
  obtain ⟨x32, k33, m⟩ := bnd m
  refine o_c (K := K) (ds := x32.map eS) hS1 (c_sortedS (a_cons (EvC.dd (c_lock (l1 := [(a0, HO.ins (He.ga K "Cart") dx3 [("rooms", (.ref p4)), ("gaps", (.ref p5)), ("most", (.int self_1.2.2.1)), ("spots", (.ref p6)), ("homes", (.ref p7)), ("bay", (.int self_1.2.2.2.2.2.1)), ("gone", (.int self_1.2.2.2.2.2.2))]), (dx3, HO.own a0), (p4, HO.lst (self_1.1.map V.int)), (p5, HO.lst (self_1.2.1.map V.int))]) (m1 := [(a0, HO.ins (He.ga K "Cart") dx3 [("rooms", (.ref p4)), ("gaps", (.ref p5)), ("most", (.int self_1.2.2.1)), ("spots", (.ref p6)), ("homes", (.ref p7)), ("bay", (.int self_1.2.2.2.2.2.1)), ("gone", (.int self_1.2.2.2.2.2.2))]), (dx3, HO.own a0), (p4, HO.lst (self_1.1.map V.int)), (p5, HO.lst (self_1.2.1.map V.int))]) (p := p6) (nls nl_S _) (fun od11 F8 g9 hn10 => (c_filC (K := K) (p := (fun (name_12, at_13) => (decide ((some at_13) = (none : Option Int))))) (f := (fun (name_12, at_13) => name_12)) (em := eS) (i_items (kf := kS) (vf := V.int) (ek := eS) (ev := eI) (fun _ _ => .str _) (fun _ _ => (.int _)) (vp_fld (vp_var rfl) (List.Mem.head _) cl_Cart na_Cart_spots rfl) upd_same) k31 (fun ⟨name_12, at_13⟩ o20 v21 F14 p15 us16 g17 hv18 ho19 => by obtain ⟨p24, w26, w27, rfl, hT25, hw28, hw29⟩ := u2 hv18; obtain rfl := Dt.toStr hw28; obtain rfl := Dt.toInt hw29; obtain rfl := sm ho19; refine ⟨[some (.ref a0), some .non, some (.str name_12), some (.int at_13)], fun H23 Q hS22 hq => (fun Q hq => ⟨p24, [_, _], rfl, gr_T hS22.fr hT25, rfl, _, _, rfl, _, _, rfl, rfl, hq⟩) Q hq, rfl, ?_, ?_⟩; (rw [isS]; exact (t_test (K := K) (d_eqT (e := (eO eI)) eqE_OI sh_OI (by decide) (d_var rfl (.int _)) (d_var rfl .non)))); (intro y hy; obtain rfl := isSm hy; exact (d_var rfl (.str _)))))))) a_nil) k33) (fun p38 us39 F34 H35 g36 hS37 hu40 => ?_)
  obtain rfl := Dts.strs hu40
  have hS41 := Sta.perm hS37 (List.Perm.trans (List.perm_middle (l₁ := [(p38, HO.lst (x32.map V.str)), (a0, HO.ins (He.ga K "Cart") dx3 [("rooms", (.ref p4)), ("gaps", (.ref p5)), ("most", (.int self_1.2.2.1)), ("spots", (.ref p6)), ("homes", (.ref p7)), ("bay", (.int self_1.2.2.2.2.2.1)), ("gone", (.int self_1.2.2.2.2.2.2))]), (dx3, HO.own a0), (p4, HO.lst (self_1.1.map V.int)), (p5, HO.lst (self_1.2.1.map V.int)), (p6, HO.dK (kvE kS V.int self_1.2.2.2.1))])) (List.Perm.trans (List.perm_middle (l₁ := [(p7, HO.dK (kvE kS V.int self_1.2.2.2.2.1)), (p38, HO.lst (x32.map V.str)), (a0, HO.ins (He.ga K "Cart") dx3 [("rooms", (.ref p4)), ("gaps", (.ref p5)), ("most", (.int self_1.2.2.1)), ("spots", (.ref p6)), ("homes", (.ref p7)), ("bay", (.int self_1.2.2.2.2.2.1)), ("gone", (.int self_1.2.2.2.2.2.2))]), (dx3, HO.own a0), (p4, HO.lst (self_1.1.map V.int)), (p5, HO.lst (self_1.2.1.map V.int))])) (List.Perm.trans (List.perm_middle (l₁ := [(p6, HO.dK (kvE kS V.int self_1.2.2.2.1)), (p7, HO.dK (kvE kS V.int self_1.2.2.2.2.1)), (p38, HO.lst (x32.map V.str)), (a0, HO.ins (He.ga K "Cart") dx3 [("rooms", (.ref p4)), ("gaps", (.ref p5)), ("most", (.int self_1.2.2.1)), ("spots", (.ref p6)), ("homes", (.ref p7)), ("bay", (.int self_1.2.2.2.2.2.1)), ("gone", (.int self_1.2.2.2.2.2.2))]), (dx3, HO.own a0), (p4, HO.lst (self_1.1.map V.int))])) (List.Perm.trans (List.perm_middle (l₁ := [(p5, HO.lst (self_1.2.1.map V.int)), (p6, HO.dK (kvE kS V.int self_1.2.2.2.1)), (p7, HO.dK (kvE kS V.int self_1.2.2.2.2.1)), (p38, HO.lst (x32.map V.str)), (a0, HO.ins (He.ga K "Cart") dx3 [("rooms", (.ref p4)), ("gaps", (.ref p5)), ("most", (.int self_1.2.2.1)), ("spots", (.ref p6)), ("homes", (.ref p7)), ("bay", (.int self_1.2.2.2.2.2.1)), ("gone", (.int self_1.2.2.2.2.2.2))]), (dx3, HO.own a0)])) (List.Perm.trans (List.perm_middle (l₁ := [(p4, HO.lst (self_1.1.map V.int)), (p5, HO.lst (self_1.2.1.map V.int)), (p6, HO.dK (kvE kS V.int self_1.2.2.2.1)), (p7, HO.dK (kvE kS V.int self_1.2.2.2.2.1)), (p38, HO.lst (x32.map V.str)), (a0, HO.ins (He.ga K "Cart") dx3 [("rooms", (.ref p4)), ("gaps", (.ref p5)), ("most", (.int self_1.2.2.1)), ("spots", (.ref p6)), ("homes", (.ref p7)), ("bay", (.int self_1.2.2.2.2.2.1)), ("gone", (.int self_1.2.2.2.2.2.2))])])) (List.Perm.trans (List.perm_middle (l₁ := [(dx3, HO.own a0), (p4, HO.lst (self_1.1.map V.int)), (p5, HO.lst (self_1.2.1.map V.int)), (p6, HO.dK (kvE kS V.int self_1.2.2.2.1)), (p7, HO.dK (kvE kS V.int self_1.2.2.2.2.1)), (p38, HO.lst (x32.map V.str))])) (List.perm_middle (l₁ := [(a0, HO.ins (He.ga K "Cart") dx3 [("rooms", (.ref p4)), ("gaps", (.ref p5)), ("most", (.int self_1.2.2.1)), ("spots", (.ref p6)), ("homes", (.ref p7)), ("bay", (.int self_1.2.2.2.2.2.1)), ("gone", (.int self_1.2.2.2.2.2.2))]), (dx3, HO.own a0), (p4, HO.lst (self_1.1.map V.int)), (p5, HO.lst (self_1.2.1.map V.int)), (p6, HO.dK (kvE kS V.int self_1.2.2.2.1)), (p7, HO.dK (kvE kS V.int self_1.2.2.2.2.1))]))))))))
  obtain rfl := sm m
  exact q _ _ _ _ g36 hS41 (Dts.of_strs _)
theorem sc_Cart_names_at_2 : FnScope N_Cart_names_at_2 ["self", "spot"] (defScope s_Cart_names_at_2) := ⟨rfl, rfl, rfl, by decide +kernel, rfl, by decide +kernel, by decide +kernel⟩
theorem ok_Cart_names_at_2 {P : Program} {w : World} {K : PySem.W.Frag} {mg : Str → Option Value} {base : Heap} (hF : DfM K "Cart" "names_at" "Cart.names_at" s_Cart_names_at_2) (clM : Cls K (He.ga K "Cart")) (meM : Meth K (He.ga K "Cart") "names_at" (He.ma K (He.ga K "Cart") "names_at")) (m_sorted : mg "sorted" = none) (cl_Cart : Cls K (He.ga K "Cart")) (na_Cart_spots : NoAttr K (He.ga K "Cart") "spots") : OkMe P w K mg base CX0 1 "Cart" "names_at" ["self", "spot"] (sp_Cart_names_at_2 K) := by
  obtain ⟨fd, F⟩ := hF
  refine ⟨⟨fd, F.ok sc_Cart_names_at_2 (fun vs H Q E h => ?_) (fun cdv A outer s H vs Q E hr h => ⟨t_Cart_names_at_2 K, PSs.nox ?_, w_Cart_names_at_2 cl_Cart na_Cart_spots vs H Q E h⟩), F.bindsN fun _ _ _ _ _ _ us hl => match us, hl with | [_, _], _ => rfl⟩, clM, meM⟩
  · obtain ⟨F0, cc, cs, a, ws, x, y, rfl, _, h, _⟩ := h; exact congrArg Nat.succ (Dts.len h)
  · exact (pss_one (ps_ret (pe_callB cr_sortedS (by rfl) m_sorted (by decide +kernel) (pa_cons (pe_lock (pe_lc (own := [("name", 2), ("at", 3)]) (g := (gTup K 2 (gCons (gName 2) (gCons (gName 3) gNil)))) (tt := (tTest (tOp (rEqD K) (tVar 3) (tVar 1)))) (te := (tVar 2)) (by rfl) sc_Cart_names_at_2.nd (pi_items (pe_fld (pv 0) rfl)) (blkOk_by (own := [("name", 2), ("at", 3)]) (N := N_Cart_names_at_2) (sc := defScope s_Cart_names_at_2) (by decide +kernel)) (fun _ _ _ _ _ => (pg_tup rfl (pgs_cons (pg_name (i := 2) sc_Cart_names_at_2.nd rfl (Or.inl rfl)) (pgs_cons (pg_name (i := 3) sc_Cart_names_at_2.nd rfl (Or.inl rfl)) pgs_nil)))) (fun _ _ _ _ _ => (pts_one (pt_cmpR (op_eqD hr.units) (pv 3) (pv 1) (nomark _)))) (fun _ _ _ _ _ => (pv 2)))) pa_nil))))
abbrev s_Cart_has_bay : Stmt := ((clsB (top 37)).getD 1 (.Pass ⟨0, 0, 0, 0⟩))
def f_Cart_has_bay : (T_Cart × Int) → Option Bool := fun (self_1, thing_2) => (((f_is_whole thing_2)).bind fun x11 => some (x11 && (decide ((0 : Int) ≤ thing_2) && decide (thing_2 < (self_1.1.length : Int)))))
abbrev N_Cart_has_bay : List Str := ["self", "thing"]
abbrev Oa_Cart_has_bay (K : PySem.W.Frag) : (T_Cart × Int) → Hp → Addr → Cs → Prop := fun x F a c => O_Cart K x.1 F a c
abbrev A_Cart_has_bay : (T_Cart × Int) → List PyData := fun x => [eI x.2]
abbrev sp_Cart_has_bay (K : PySem.W.Frag) : Sp := spB K (Oa_Cart_has_bay K) A_Cart_has_bay eB f_Cart_has_bay
def t_Cart_has_bay (K : PySem.W.Frag) : TS := (tRet (tAndV (tCall (sp_is_whole K) [] E0 (tCons (tVar 1) tNil)) (tChain (rI0 fun i j => .bl (decide (i ≤ j))) (rI0 fun i j => .bl (decide (i < j))) (tC (.int 0)) (tVar 1) (tCB (rLenL K) (tCons (tFld K (tVar 0) "rooms") tNil)))))
theorem w_Cart_has_bay {K : PySem.W.Frag} (cl_Cart : Cls K (He.ga K "Cart")) (na_Cart_rooms : NoAttr K (He.ga K "Cart") "rooms") (vs : List V) (H : Hp) (Q : VK) (E : XK) (h : sp_Cart_has_bay K vs H Q E) : t_Cart_has_bay K { nx := fun _ H' => Q .non H', rt := Q } (start N_Cart_has_bay vs) H := by
  obtain ⟨F0, cc, cs, a0, ws, ⟨self_1, thing_2⟩, y, rfl, ho, h, hS0, m, q⟩ := h
  obtain ⟨a1, _, rfl, ha1, h⟩ := Dts.hd h
  obtain rfl := Dts.no h
  obtain ⟨dx3, p4, p5, p6, p7, rfl⟩ := ho
  obtain rfl := Dt.toInt ha1
  have hS1 : Sta F0 ((a0, .ins (He.ga K "Cart") dx3 [("rooms", (.ref p4)), ("gaps", (.ref p5)), ("most", (.int self_1.2.2.1)), ("spots", (.ref p6)), ("homes", (.ref p7)), ("bay", (.int self_1.2.2.2.2.2.1)), ("gone", (.int self_1.2.2.2.2.2.2))]) :: (dx3, .own a0) :: (p4, .lst (self_1.1.map V.int)) :: (p5, .lst (self_1.2.1.map V.int)) :: (p6, .dK (kvE kS V.int self_1.2.2.2.1)) :: (p7, .dK (kvE kS V.int self_1.2.2.2.2.1)) :: cs) H := hS0
  unfold f_Cart_has_bay at m
  try dsimp only at m
  unfold t_Cart_has_bay
  refine go (σ' := [some (.ref a0), some (.int thing_2)]) rfl ?_
  obtain ⟨x11, k12, m⟩ := bnd m
  refine s_ret (K := K) (d := eB (x11 && (decide ((0 : Int) ≤ thing_2) && decide (thing_2 < (self_1.1.length : Int))))) hS1 (d_lendX (l1 := [(a0, HO.ins (He.ga K "Cart") dx3 [("rooms", (.ref p4)), ("gaps", (.ref p5)), ("most", (.int self_1.2.2.1)), ("spots", (.ref p6)), ("homes", (.ref p7)), ("bay", (.int self_1.2.2.2.2.2.1)), ("gone", (.int self_1.2.2.2.2.2.2))]), (dx3, HO.own a0)]) (m1 := [(a0, HO.ins (He.ga K "Cart") dx3 [("rooms", (.ref p4)), ("gaps", (.ref p5)), ("most", (.int self_1.2.2.1)), ("spots", (.ref p6)), ("homes", (.ref p7)), ("bay", (.int self_1.2.2.2.2.2.1)), ("gone", (.int self_1.2.2.2.2.2.2))]), (dx3, HO.own a0)]) (fun _ _ h => Dt.toBl h) (fun _ => (.bl _)) (fun F8 g9 hn10 => (d_andP (d_call (A := A_is_whole) (B := eB) (x := thing_2) (a_cons (d_var rfl (.int _)) a_nil) k12) (fun hc => (d_chain d_int (d_var rfl (.int _)) (d_len (e := eI) (a_cons (d_vp (vp_fld (vp_var rfl) (List.Mem.head _) cl_Cart na_Cart_rooms rfl) (lent_l hn10 (Dts.gr g9 (Dts.of_ints _)))) a_nil))))))) (fun v17 F13 H14 g15 hS16 hv18 => ?_)
  have hS19 := Sta.perm hS16 (List.Perm.trans (List.perm_middle (l₁ := [(a0, HO.ins (He.ga K "Cart") dx3 [("rooms", (.ref p4)), ("gaps", (.ref p5)), ("most", (.int self_1.2.2.1)), ("spots", (.ref p6)), ("homes", (.ref p7)), ("bay", (.int self_1.2.2.2.2.2.1)), ("gone", (.int self_1.2.2.2.2.2.2))]), (dx3, HO.own a0), (p4, HO.lst (self_1.1.map V.int)), (p5, HO.lst (self_1.2.1.map V.int)), (p6, HO.dK (kvE kS V.int self_1.2.2.2.1))])) (List.Perm.trans (List.perm_middle (l₁ := [(p7, HO.dK (kvE kS V.int self_1.2.2.2.2.1)), (a0, HO.ins (He.ga K "Cart") dx3 [("rooms", (.ref p4)), ("gaps", (.ref p5)), ("most", (.int self_1.2.2.1)), ("spots", (.ref p6)), ("homes", (.ref p7)), ("bay", (.int self_1.2.2.2.2.2.1)), ("gone", (.int self_1.2.2.2.2.2.2))]), (dx3, HO.own a0), (p4, HO.lst (self_1.1.map V.int)), (p5, HO.lst (self_1.2.1.map V.int))])) (List.Perm.trans (List.perm_middle (l₁ := [(p6, HO.dK (kvE kS V.int self_1.2.2.2.1)), (p7, HO.dK (kvE kS V.int self_1.2.2.2.2.1)), (a0, HO.ins (He.ga K "Cart") dx3 [("rooms", (.ref p4)), ("gaps", (.ref p5)), ("most", (.int self_1.2.2.1)), ("spots", (.ref p6)), ("homes", (.ref p7)), ("bay", (.int self_1.2.2.2.2.2.1)), ("gone", (.int self_1.2.2.2.2.2.2))]), (dx3, HO.own a0), (p4, HO.lst (self_1.1.map V.int))])) (List.Perm.trans (List.perm_middle (l₁ := [(p5, HO.lst (self_1.2.1.map V.int)), (p6, HO.dK (kvE kS V.int self_1.2.2.2.1)), (p7, HO.dK (kvE kS V.int self_1.2.2.2.2.1)), (a0, HO.ins (He.ga K "Cart") dx3 [("rooms", (.ref p4)), ("gaps", (.ref p5)), ("most", (.int self_1.2.2.1)), ("spots", (.ref p6)), ("homes", (.ref p7)), ("bay", (.int self_1.2.2.2.2.2.1)), ("gone", (.int self_1.2.2.2.2.2.2))]), (dx3, HO.own a0)])) (List.Perm.trans (List.perm_middle (l₁ := [(p4, HO.lst (self_1.1.map V.int)), (p5, HO.lst (self_1.2.1.map V.int)), (p6, HO.dK (kvE kS V.int self_1.2.2.2.1)), (p7, HO.dK (kvE kS V.int self_1.2.2.2.2.1)), (a0, HO.ins (He.ga K "Cart") dx3 [("rooms", (.ref p4)), ("gaps", (.ref p5)), ("most", (.int self_1.2.2.1)), ("spots", (.ref p6)), ("homes", (.ref p7)), ("bay", (.int self_1.2.2.2.2.2.1)), ("gone", (.int self_1.2.2.2.2.2.2))])])) (List.perm_middle (l₁ := [(dx3, HO.own a0), (p4, HO.lst (self_1.1.map V.int)), (p5, HO.lst (self_1.2.1.map V.int)), (p6, HO.dK (kvE kS V.int self_1.2.2.2.1)), (p7, HO.dK (kvE kS V.int self_1.2.2.2.2.1))])))))))
  obtain rfl := sm m
  exact q _ _ _ g15 hS19 hv18
theorem sc_Cart_has_bay : FnScope N_Cart_has_bay ["self", "thing"] (defScope s_Cart_has_bay) := ⟨rfl, rfl, rfl, by decide +kernel, rfl, by decide +kernel, by decide +kernel⟩
theorem ok_Cart_has_bay {P : Program} {w : World} {K : PySem.W.Frag} {mg : Str → Option Value} {base : Heap} (hF : DfM K "Cart" "has_bay" "Cart.has_bay" s_Cart_has_bay) (clM : Cls K (He.ga K "Cart")) (meM : Meth K (He.ga K "Cart") "has_bay" (He.ma K (He.ga K "Cart") "has_bay")) (m_len : mg "len" = none) (o_is_whole : Ok P w K mg base 1 "is_whole" ["thing"] (sp_is_whole K)) (cl_Cart : Cls K (He.ga K "Cart")) (na_Cart_rooms : NoAttr K (He.ga K "Cart") "rooms") : OkMe P w K mg base CX0 2 "Cart" "has_bay" ["self", "thing"] (sp_Cart_has_bay K) := by
  obtain ⟨⟨_, G_is_whole, bd_is_whole, _⟩, kp_is_whole, gm_is_whole⟩ := o_is_whole
  obtain ⟨fd, F⟩ := hF
  refine ⟨⟨fd, F.ok sc_Cart_has_bay (fun vs H Q E h => ?_) (fun cdv A outer s H vs Q E hr h => ⟨t_Cart_has_bay K, PSs.nox ?_, w_Cart_has_bay cl_Cart na_Cart_rooms vs H Q E h⟩), F.bindsN fun _ _ _ _ _ _ us hl => match us, hl with | [_, _], _ => rfl⟩, clM, meM⟩
  · obtain ⟨F0, cc, cs, a, ws, x, y, rfl, _, h, _⟩ := h; exact congrArg Nat.succ (Dts.len h)
  · exact (pss_one (ps_ret (pe_and (pe_call G_is_whole (hr.mono (by decide)) (by rfl) gm_is_whole kp_is_whole bd_is_whole .nil pass0 (pa_cons (pv 1) pa_nil)) (pe_one (pe_chain op_le op_lt pe_int (pv 1) (pe_callB cr_lenL (by rfl) m_len PySem.boot_len (pa_cons (pe_fld (pv 0) rfl) pa_nil)))))))
abbrev s_Cart_lying : Stmt := ((clsB (top 37)).getD 7 (.Pass ⟨0, 0, 0, 0⟩))
def f_Cart_lying : (T_Cart × Int) → Option (List Str) := fun (self_1, bay_2) => (((f_Cart_has_bay (self_1, bay_2))).bind fun x8 => (if (!x8) = true then none else (((f_Cart_names_at (self_1, bay_2))).bind fun x18 => some x18)))
abbrev N_Cart_lying : List Str := ["self", "bay"]
abbrev Oa_Cart_lying (K : PySem.W.Frag) : (T_Cart × Int) → Hp → Addr → Cs → Prop := fun x F a c => O_Cart K x.1 F a c
abbrev A_Cart_lying : (T_Cart × Int) → List PyData := fun x => [eI x.2]
abbrev B_Cart_lying : (List Str) → List PyData := fun y => y.map eS
abbrev sp_Cart_lying (K : PySem.W.Frag) : Sp := spBF K (Oa_Cart_lying K) A_Cart_lying B_Cart_lying f_Cart_lying
def t_Cart_lying (K : PySem.W.Frag) : TS := (tSeq (tIfS (tNot (tB (tMeth (He.ga K "Cart") "has_bay" (sp_Cart_has_bay K) [] E0 (tVar 0) (tCons (tVar 1) tNil)))) tNever tNext) (tRet (tMeth (He.ga K "Cart") "names_at" (sp_Cart_names_at K) [] E0 (tVar 0) (tCons (tVar 1) tNil))))
theorem w_Cart_lying {K : PySem.W.Frag} (vs : List V) (H : Hp) (Q : VK) (E : XK) (h : sp_Cart_lying K vs H Q E) : t_Cart_lying K { nx := fun _ H' => Q .non H', rt := Q } (start N_Cart_lying vs) H := by
  obtain ⟨F0, cc, cs, a0, ws, ⟨self_1, bay_2⟩, y, rfl, ho, h, hS0, m, q⟩ := h
  obtain ⟨a1, _, rfl, ha1, h⟩ := Dts.hd h
  obtain rfl := Dts.no h
  obtain ⟨dx3, p4, p5, p6, p7, rfl⟩ := ho
  obtain rfl := Dt.toInt ha1
  have hS1 : Sta F0 ((a0, .ins (He.ga K "Cart") dx3 [("rooms", (.ref p4)), ("gaps", (.ref p5)), ("most", (.int self_1.2.2.1)), ("spots", (.ref p6)), ("homes", (.ref p7)), ("bay", (.int self_1.2.2.2.2.2.1)), ("gone", (.int self_1.2.2.2.2.2.2))]) :: (dx3, .own a0) :: (p4, .lst (self_1.1.map V.int)) :: (p5, .lst (self_1.2.1.map V.int)) :: (p6, .dK (kvE kS V.int self_1.2.2.2.1)) :: (p7, .dK (kvE kS V.int self_1.2.2.2.2.1)) :: cs) H := hS0
  unfold f_Cart_lying at m
  try dsimp only at m
  unfold t_Cart_lying
  refine go (σ' := [some (.ref a0), some (.int bay_2)]) rfl ?_
  obtain ⟨x8, k9, m⟩ := bnd m
  refine s_if (b := (!x8)) hS1 (t_not (t_B (K := K) (d_methB (B := eB) (O := Oa_Cart_has_bay K) (A := A_Cart_has_bay) (x := (self_1, bay_2)) (y := x8) (cc := [(a0, HO.ins (He.ga K "Cart") dx3 [("rooms", (.ref p4)), ("gaps", (.ref p5)), ("most", (.int self_1.2.2.1)), ("spots", (.ref p6)), ("homes", (.ref p7)), ("bay", (.int self_1.2.2.2.2.2.1)), ("gone", (.int self_1.2.2.2.2.2.2))]), (dx3, HO.own a0), (p4, HO.lst (self_1.1.map V.int)), (p5, HO.lst (self_1.2.1.map V.int)), (p6, HO.dK (kvE kS V.int self_1.2.2.2.1)), (p7, HO.dK (kvE kS V.int self_1.2.2.2.2.1))]) (cs' := (cs)) (vp_var rfl) (List.Mem.head _) rfl (a_cons (d_var rfl (.int _)) a_nil) (fun _ g_ => O_Cart.gr g_ (show O_Cart K self_1 _ _ _ from ⟨_, _, _, _, _, rfl⟩)) (sb_perm (List.Perm.trans (List.perm_middle (l₁ := [(a0, HO.ins (He.ga K "Cart") dx3 [("rooms", (.ref p4)), ("gaps", (.ref p5)), ("most", (.int self_1.2.2.1)), ("spots", (.ref p6)), ("homes", (.ref p7)), ("bay", (.int self_1.2.2.2.2.2.1)), ("gone", (.int self_1.2.2.2.2.2.2))]), (dx3, HO.own a0), (p4, HO.lst (self_1.1.map V.int)), (p5, HO.lst (self_1.2.1.map V.int)), (p6, HO.dK (kvE kS V.int self_1.2.2.2.1))])) (List.Perm.trans (List.perm_middle (l₁ := [(p7, HO.dK (kvE kS V.int self_1.2.2.2.2.1)), (a0, HO.ins (He.ga K "Cart") dx3 [("rooms", (.ref p4)), ("gaps", (.ref p5)), ("most", (.int self_1.2.2.1)), ("spots", (.ref p6)), ("homes", (.ref p7)), ("bay", (.int self_1.2.2.2.2.2.1)), ("gone", (.int self_1.2.2.2.2.2.2))]), (dx3, HO.own a0), (p4, HO.lst (self_1.1.map V.int)), (p5, HO.lst (self_1.2.1.map V.int))])) (List.Perm.trans (List.perm_middle (l₁ := [(p6, HO.dK (kvE kS V.int self_1.2.2.2.1)), (p7, HO.dK (kvE kS V.int self_1.2.2.2.2.1)), (a0, HO.ins (He.ga K "Cart") dx3 [("rooms", (.ref p4)), ("gaps", (.ref p5)), ("most", (.int self_1.2.2.1)), ("spots", (.ref p6)), ("homes", (.ref p7)), ("bay", (.int self_1.2.2.2.2.2.1)), ("gone", (.int self_1.2.2.2.2.2.2))]), (dx3, HO.own a0), (p4, HO.lst (self_1.1.map V.int))])) (List.Perm.trans (List.perm_middle (l₁ := [(p5, HO.lst (self_1.2.1.map V.int)), (p6, HO.dK (kvE kS V.int self_1.2.2.2.1)), (p7, HO.dK (kvE kS V.int self_1.2.2.2.2.1)), (a0, HO.ins (He.ga K "Cart") dx3 [("rooms", (.ref p4)), ("gaps", (.ref p5)), ("most", (.int self_1.2.2.1)), ("spots", (.ref p6)), ("homes", (.ref p7)), ("bay", (.int self_1.2.2.2.2.2.1)), ("gone", (.int self_1.2.2.2.2.2.2))]), (dx3, HO.own a0)])) (List.Perm.trans (List.perm_middle (l₁ := [(p4, HO.lst (self_1.1.map V.int)), (p5, HO.lst (self_1.2.1.map V.int)), (p6, HO.dK (kvE kS V.int self_1.2.2.2.1)), (p7, HO.dK (kvE kS V.int self_1.2.2.2.2.1)), (a0, HO.ins (He.ga K "Cart") dx3 [("rooms", (.ref p4)), ("gaps", (.ref p5)), ("most", (.int self_1.2.2.1)), ("spots", (.ref p6)), ("homes", (.ref p7)), ("bay", (.int self_1.2.2.2.2.2.1)), ("gone", (.int self_1.2.2.2.2.2.2))])])) (List.perm_middle (l₁ := [(dx3, HO.own a0), (p4, HO.lst (self_1.1.map V.int)), (p5, HO.lst (self_1.2.1.map V.int)), (p6, HO.dK (kvE kS V.int self_1.2.2.2.1)), (p7, HO.dK (kvE kS V.int self_1.2.2.2.2.1))])))))))) (sb_perm (List.Perm.symm (List.Perm.trans (List.perm_middle (l₁ := [(a0, HO.ins (He.ga K "Cart") dx3 [("rooms", (.ref p4)), ("gaps", (.ref p5)), ("most", (.int self_1.2.2.1)), ("spots", (.ref p6)), ("homes", (.ref p7)), ("bay", (.int self_1.2.2.2.2.2.1)), ("gone", (.int self_1.2.2.2.2.2.2))]), (dx3, HO.own a0), (p4, HO.lst (self_1.1.map V.int)), (p5, HO.lst (self_1.2.1.map V.int)), (p6, HO.dK (kvE kS V.int self_1.2.2.2.1))])) (List.Perm.trans (List.perm_middle (l₁ := [(p7, HO.dK (kvE kS V.int self_1.2.2.2.2.1)), (a0, HO.ins (He.ga K "Cart") dx3 [("rooms", (.ref p4)), ("gaps", (.ref p5)), ("most", (.int self_1.2.2.1)), ("spots", (.ref p6)), ("homes", (.ref p7)), ("bay", (.int self_1.2.2.2.2.2.1)), ("gone", (.int self_1.2.2.2.2.2.2))]), (dx3, HO.own a0), (p4, HO.lst (self_1.1.map V.int)), (p5, HO.lst (self_1.2.1.map V.int))])) (List.Perm.trans (List.perm_middle (l₁ := [(p6, HO.dK (kvE kS V.int self_1.2.2.2.1)), (p7, HO.dK (kvE kS V.int self_1.2.2.2.2.1)), (a0, HO.ins (He.ga K "Cart") dx3 [("rooms", (.ref p4)), ("gaps", (.ref p5)), ("most", (.int self_1.2.2.1)), ("spots", (.ref p6)), ("homes", (.ref p7)), ("bay", (.int self_1.2.2.2.2.2.1)), ("gone", (.int self_1.2.2.2.2.2.2))]), (dx3, HO.own a0), (p4, HO.lst (self_1.1.map V.int))])) (List.Perm.trans (List.perm_middle (l₁ := [(p5, HO.lst (self_1.2.1.map V.int)), (p6, HO.dK (kvE kS V.int self_1.2.2.2.1)), (p7, HO.dK (kvE kS V.int self_1.2.2.2.2.1)), (a0, HO.ins (He.ga K "Cart") dx3 [("rooms", (.ref p4)), ("gaps", (.ref p5)), ("most", (.int self_1.2.2.1)), ("spots", (.ref p6)), ("homes", (.ref p7)), ("bay", (.int self_1.2.2.2.2.2.1)), ("gone", (.int self_1.2.2.2.2.2.2))]), (dx3, HO.own a0)])) (List.Perm.trans (List.perm_middle (l₁ := [(p4, HO.lst (self_1.1.map V.int)), (p5, HO.lst (self_1.2.1.map V.int)), (p6, HO.dK (kvE kS V.int self_1.2.2.2.1)), (p7, HO.dK (kvE kS V.int self_1.2.2.2.2.1)), (a0, HO.ins (He.ga K "Cart") dx3 [("rooms", (.ref p4)), ("gaps", (.ref p5)), ("most", (.int self_1.2.2.1)), ("spots", (.ref p6)), ("homes", (.ref p7)), ("bay", (.int self_1.2.2.2.2.2.1)), ("gone", (.int self_1.2.2.2.2.2.2))])])) (List.perm_middle (l₁ := [(dx3, HO.own a0), (p4, HO.lst (self_1.1.map V.int)), (p5, HO.lst (self_1.2.1.map V.int)), (p6, HO.dK (kvE kS V.int self_1.2.2.2.1)), (p7, HO.dK (kvE kS V.int self_1.2.2.2.2.1))]))))))))) k9))) (fun hc F10 H11 g12 hS13 => ?_) (fun hc F14 H15 g16 hS17 => ?_)
  · rw [if_pos hc] at m
    cases m
  · rw [if_neg (bf hc)] at m
    refine nxt ?_
    refine o_ret ?_
    obtain ⟨x18, k19, m⟩ := bnd m
    refine o_c (K := K) (ds := x18.map eS) hS17 (c_methB (B := B_Cart_names_at) (O := Oa_Cart_names_at K) (A := A_Cart_names_at) (x := (self_1, bay_2)) (y := x18) (cc := [(a0, HO.ins (He.ga K "Cart") dx3 [("rooms", (.ref p4)), ("gaps", (.ref p5)), ("most", (.int self_1.2.2.1)), ("spots", (.ref p6)), ("homes", (.ref p7)), ("bay", (.int self_1.2.2.2.2.2.1)), ("gone", (.int self_1.2.2.2.2.2.2))]), (dx3, HO.own a0), (p4, HO.lst (self_1.1.map V.int)), (p5, HO.lst (self_1.2.1.map V.int)), (p6, HO.dK (kvE kS V.int self_1.2.2.2.1)), (p7, HO.dK (kvE kS V.int self_1.2.2.2.2.1))]) (cs' := (cs)) (vp_var rfl) (List.Mem.head _) rfl (a_cons (d_var rfl (.int _)) a_nil) (fun _ g_ => O_Cart.gr g_ (show O_Cart K self_1 _ _ _ from ⟨_, _, _, _, _, rfl⟩)) (sb_perm (List.Perm.trans (List.perm_middle (l₁ := [(a0, HO.ins (He.ga K "Cart") dx3 [("rooms", (.ref p4)), ("gaps", (.ref p5)), ("most", (.int self_1.2.2.1)), ("spots", (.ref p6)), ("homes", (.ref p7)), ("bay", (.int self_1.2.2.2.2.2.1)), ("gone", (.int self_1.2.2.2.2.2.2))]), (dx3, HO.own a0), (p4, HO.lst (self_1.1.map V.int)), (p5, HO.lst (self_1.2.1.map V.int)), (p6, HO.dK (kvE kS V.int self_1.2.2.2.1))])) (List.Perm.trans (List.perm_middle (l₁ := [(p7, HO.dK (kvE kS V.int self_1.2.2.2.2.1)), (a0, HO.ins (He.ga K "Cart") dx3 [("rooms", (.ref p4)), ("gaps", (.ref p5)), ("most", (.int self_1.2.2.1)), ("spots", (.ref p6)), ("homes", (.ref p7)), ("bay", (.int self_1.2.2.2.2.2.1)), ("gone", (.int self_1.2.2.2.2.2.2))]), (dx3, HO.own a0), (p4, HO.lst (self_1.1.map V.int)), (p5, HO.lst (self_1.2.1.map V.int))])) (List.Perm.trans (List.perm_middle (l₁ := [(p6, HO.dK (kvE kS V.int self_1.2.2.2.1)), (p7, HO.dK (kvE kS V.int self_1.2.2.2.2.1)), (a0, HO.ins (He.ga K "Cart") dx3 [("rooms", (.ref p4)), ("gaps", (.ref p5)), ("most", (.int self_1.2.2.1)), ("spots", (.ref p6)), ("homes", (.ref p7)), ("bay", (.int self_1.2.2.2.2.2.1)), ("gone", (.int self_1.2.2.2.2.2.2))]), (dx3, HO.own a0), (p4, HO.lst (self_1.1.map V.int))])) (List.Perm.trans (List.perm_middle (l₁ := [(p5, HO.lst (self_1.2.1.map V.int)), (p6, HO.dK (kvE kS V.int self_1.2.2.2.1)), (p7, HO.dK (kvE kS V.int self_1.2.2.2.2.1)), (a0, HO.ins (He.ga K "Cart") dx3 [("rooms", (.ref p4)), ("gaps", (.ref p5)), ("most", (.int self_1.2.2.1)), ("spots", (.ref p6)), ("homes", (.ref p7)), ("bay", (.int self_1.2.2.2.2.2.1)), ("gone", (.int self_1.2.2.2.2.2.2))]), (dx3, HO.own a0)])) (List.Perm.trans (List.perm_middle (l₁ := [(p4, HO.lst (self_1.1.map V.int)), (p5, HO.lst (self_1.2.1.map V.int)), (p6, HO.dK (kvE kS V.int self_1.2.2.2.1)), (p7, HO.dK (kvE kS V.int self_1.2.2.2.2.1)), (a0, HO.ins (He.ga K "Cart") dx3 [("rooms", (.ref p4)), ("gaps", (.ref p5)), ("most", (.int self_1.2.2.1)), ("spots", (.ref p6)), ("homes", (.ref p7)), ("bay", (.int self_1.2.2.2.2.2.1)), ("gone", (.int self_1.2.2.2.2.2.2))])])) (List.perm_middle (l₁ := [(dx3, HO.own a0), (p4, HO.lst (self_1.1.map V.int)), (p5, HO.lst (self_1.2.1.map V.int)), (p6, HO.dK (kvE kS V.int self_1.2.2.2.1)), (p7, HO.dK (kvE kS V.int self_1.2.2.2.2.1))])))))))) (fun _ => sb_perm (List.Perm.cons _ (List.Perm.symm (List.Perm.trans (List.perm_middle (l₁ := [(a0, HO.ins (He.ga K "Cart") dx3 [("rooms", (.ref p4)), ("gaps", (.ref p5)), ("most", (.int self_1.2.2.1)), ("spots", (.ref p6)), ("homes", (.ref p7)), ("bay", (.int self_1.2.2.2.2.2.1)), ("gone", (.int self_1.2.2.2.2.2.2))]), (dx3, HO.own a0), (p4, HO.lst (self_1.1.map V.int)), (p5, HO.lst (self_1.2.1.map V.int)), (p6, HO.dK (kvE kS V.int self_1.2.2.2.1))])) (List.Perm.trans (List.perm_middle (l₁ := [(p7, HO.dK (kvE kS V.int self_1.2.2.2.2.1)), (a0, HO.ins (He.ga K "Cart") dx3 [("rooms", (.ref p4)), ("gaps", (.ref p5)), ("most", (.int self_1.2.2.1)), ("spots", (.ref p6)), ("homes", (.ref p7)), ("bay", (.int self_1.2.2.2.2.2.1)), ("gone", (.int self_1.2.2.2.2.2.2))]), (dx3, HO.own a0), (p4, HO.lst (self_1.1.map V.int)), (p5, HO.lst (self_1.2.1.map V.int))])) (List.Perm.trans (List.perm_middle (l₁ := [(p6, HO.dK (kvE kS V.int self_1.2.2.2.1)), (p7, HO.dK (kvE kS V.int self_1.2.2.2.2.1)), (a0, HO.ins (He.ga K "Cart") dx3 [("rooms", (.ref p4)), ("gaps", (.ref p5)), ("most", (.int self_1.2.2.1)), ("spots", (.ref p6)), ("homes", (.ref p7)), ("bay", (.int self_1.2.2.2.2.2.1)), ("gone", (.int self_1.2.2.2.2.2.2))]), (dx3, HO.own a0), (p4, HO.lst (self_1.1.map V.int))])) (List.Perm.trans (List.perm_middle (l₁ := [(p5, HO.lst (self_1.2.1.map V.int)), (p6, HO.dK (kvE kS V.int self_1.2.2.2.1)), (p7, HO.dK (kvE kS V.int self_1.2.2.2.2.1)), (a0, HO.ins (He.ga K "Cart") dx3 [("rooms", (.ref p4)), ("gaps", (.ref p5)), ("most", (.int self_1.2.2.1)), ("spots", (.ref p6)), ("homes", (.ref p7)), ("bay", (.int self_1.2.2.2.2.2.1)), ("gone", (.int self_1.2.2.2.2.2.2))]), (dx3, HO.own a0)])) (List.Perm.trans (List.perm_middle (l₁ := [(p4, HO.lst (self_1.1.map V.int)), (p5, HO.lst (self_1.2.1.map V.int)), (p6, HO.dK (kvE kS V.int self_1.2.2.2.1)), (p7, HO.dK (kvE kS V.int self_1.2.2.2.2.1)), (a0, HO.ins (He.ga K "Cart") dx3 [("rooms", (.ref p4)), ("gaps", (.ref p5)), ("most", (.int self_1.2.2.1)), ("spots", (.ref p6)), ("homes", (.ref p7)), ("bay", (.int self_1.2.2.2.2.2.1)), ("gone", (.int self_1.2.2.2.2.2.2))])])) (List.perm_middle (l₁ := [(dx3, HO.own a0), (p4, HO.lst (self_1.1.map V.int)), (p5, HO.lst (self_1.2.1.map V.int)), (p6, HO.dK (kvE kS V.int self_1.2.2.2.1)), (p7, HO.dK (kvE kS V.int self_1.2.2.2.2.1))])))))))))) k19) (fun p24 us25 F20 H21 g22 hS23 hu26 => ?_)
    obtain rfl := Dts.strs hu26
    have hS27 := Sta.perm hS23 (List.Perm.trans (List.perm_middle (l₁ := [(p24, HO.lst (x18.map V.str)), (a0, HO.ins (He.ga K "Cart") dx3 [("rooms", (.ref p4)), ("gaps", (.ref p5)), ("most", (.int self_1.2.2.1)), ("spots", (.ref p6)), ("homes", (.ref p7)), ("bay", (.int self_1.2.2.2.2.2.1)), ("gone", (.int self_1.2.2.2.2.2.2))]), (dx3, HO.own a0), (p4, HO.lst (self_1.1.map V.int)), (p5, HO.lst (self_1.2.1.map V.int)), (p6, HO.dK (kvE kS V.int self_1.2.2.2.1))])) (List.Perm.trans (List.perm_middle (l₁ := [(p7, HO.dK (kvE kS V.int self_1.2.2.2.2.1)), (p24, HO.lst (x18.map V.str)), (a0, HO.ins (He.ga K "Cart") dx3 [("rooms", (.ref p4)), ("gaps", (.ref p5)), ("most", (.int self_1.2.2.1)), ("spots", (.ref p6)), ("homes", (.ref p7)), ("bay", (.int self_1.2.2.2.2.2.1)), ("gone", (.int self_1.2.2.2.2.2.2))]), (dx3, HO.own a0), (p4, HO.lst (self_1.1.map V.int)), (p5, HO.lst (self_1.2.1.map V.int))])) (List.Perm.trans (List.perm_middle (l₁ := [(p6, HO.dK (kvE kS V.int self_1.2.2.2.1)), (p7, HO.dK (kvE kS V.int self_1.2.2.2.2.1)), (p24, HO.lst (x18.map V.str)), (a0, HO.ins (He.ga K "Cart") dx3 [("rooms", (.ref p4)), ("gaps", (.ref p5)), ("most", (.int self_1.2.2.1)), ("spots", (.ref p6)), ("homes", (.ref p7)), ("bay", (.int self_1.2.2.2.2.2.1)), ("gone", (.int self_1.2.2.2.2.2.2))]), (dx3, HO.own a0), (p4, HO.lst (self_1.1.map V.int))])) (List.Perm.trans (List.perm_middle (l₁ := [(p5, HO.lst (self_1.2.1.map V.int)), (p6, HO.dK (kvE kS V.int self_1.2.2.2.1)), (p7, HO.dK (kvE kS V.int self_1.2.2.2.2.1)), (p24, HO.lst (x18.map V.str)), (a0, HO.ins (He.ga K "Cart") dx3 [("rooms", (.ref p4)), ("gaps", (.ref p5)), ("most", (.int self_1.2.2.1)), ("spots", (.ref p6)), ("homes", (.ref p7)), ("bay", (.int self_1.2.2.2.2.2.1)), ("gone", (.int self_1.2.2.2.2.2.2))]), (dx3, HO.own a0)])) (List.Perm.trans (List.perm_middle (l₁ := [(p4, HO.lst (self_1.1.map V.int)), (p5, HO.lst (self_1.2.1.map V.int)), (p6, HO.dK (kvE kS V.int self_1.2.2.2.1)), (p7, HO.dK (kvE kS V.int self_1.2.2.2.2.1)), (p24, HO.lst (x18.map V.str)), (a0, HO.ins (He.ga K "Cart") dx3 [("rooms", (.ref p4)), ("gaps", (.ref p5)), ("most", (.int self_1.2.2.1)), ("spots", (.ref p6)), ("homes", (.ref p7)), ("bay", (.int self_1.2.2.2.2.2.1)), ("gone", (.int self_1.2.2.2.2.2.2))])])) (List.Perm.trans (List.perm_middle (l₁ := [(dx3, HO.own a0), (p4, HO.lst (self_1.1.map V.int)), (p5, HO.lst (self_1.2.1.map V.int)), (p6, HO.dK (kvE kS V.int self_1.2.2.2.1)), (p7, HO.dK (kvE kS V.int self_1.2.2.2.2.1)), (p24, HO.lst (x18.map V.str))])) (List.perm_middle (l₁ := [(a0, HO.ins (He.ga K "Cart") dx3 [("rooms", (.ref p4)), ("gaps", (.ref p5)), ("most", (.int self_1.2.2.1)), ("spots", (.ref p6)), ("homes", (.ref p7)), ("bay", (.int self_1.2.2.2.2.2.1)), ("gone", (.int self_1.2.2.2.2.2.2))]), (dx3, HO.own a0), (p4, HO.lst (self_1.1.map V.int)), (p5, HO.lst (self_1.2.1.map V.int)), (p6, HO.dK (kvE kS V.int self_1.2.2.2.1)), (p7, HO.dK (kvE kS V.int self_1.2.2.2.2.1))]))))))))
    obtain rfl := sm m
    exact q _ _ _ _ (Gr.tr g16 g22) hS27 (Dts.of_strs _)
theorem sc_Cart_lying : FnScope N_Cart_lying ["self", "bay"] (defScope s_Cart_lying) := ⟨rfl, rfl, rfl, by decide +kernel, rfl, by decide +kernel, by decide +kernel⟩
theorem ok_Cart_lying {P : Program} {w : World} {K : PySem.W.Frag} {mg : Str → Option Value} {base : Heap} (hF : DfM K "Cart" "lying" "Cart.lying" s_Cart_lying) (clM : Cls K (He.ga K "Cart")) (meM : Meth K (He.ga K "Cart") "lying" (He.ma K (He.ga K "Cart") "lying")) (o_Cart_names_at : OkMe P w K mg base CX0 1 "Cart" "names_at" ["self", "spot"] (sp_Cart_names_at K)) (o_Cart_has_bay : OkMe P w K mg base CX0 2 "Cart" "has_bay" ["self", "thing"] (sp_Cart_has_bay K)) : OkMe P w K mg base CX0 3 "Cart" "lying" ["self", "bay"] (sp_Cart_lying K) := by
  obtain ⟨⟨_, G_Cart_names_at, bd_Cart_names_at⟩, cl_Cart_names_at, me_Cart_names_at⟩ := o_Cart_names_at
  obtain ⟨⟨_, G_Cart_has_bay, bd_Cart_has_bay⟩, cl_Cart_has_bay, me_Cart_has_bay⟩ := o_Cart_has_bay
  obtain ⟨fd, F⟩ := hF
  refine ⟨⟨fd, F.ok sc_Cart_lying (fun vs H Q E h => ?_) (fun cdv A outer s H vs Q E hr h => ⟨t_Cart_lying K, PSs.nox ?_, w_Cart_lying vs H Q E h⟩), F.bindsN fun _ _ _ _ _ _ us hl => match us, hl with | [_, _], _ => rfl⟩, clM, meM⟩
  · obtain ⟨F0, cc, cs, a, ws, x, y, rfl, _, h, _⟩ := h; exact congrArg Nat.succ (Dts.len h)
  · exact (pss_cons (ps_if (pt_not (pt_val (pe_meth (pv 0) cl_Cart_has_bay me_Cart_has_bay G_Cart_has_bay (hr.mono (by decide)) bd_Cart_has_bay .nil pass0 (pa_cons (pv 1) pa_nil)))) (pss_one ps_never) pss_nil) (pss_one (ps_ret (pe_meth (pv 0) cl_Cart_names_at me_Cart_names_at G_Cart_names_at (hr.mono (by decide)) bd_Cart_names_at .nil pass0 (pa_cons (pv 1) pa_nil)))))
abbrev s_Cart_holding : Stmt := ((clsB (top 37)).getD 6 (.Pass ⟨0, 0, 0, 0⟩))
def f_Cart_holding : T_Cart → Option (List Str) := fun self_1 => (((f_Cart_names_at_2 (self_1, ()))).bind fun x7 => some x7)
abbrev N_Cart_holding : List Str := ["self"]
abbrev Oa_Cart_holding (K : PySem.W.Frag) : T_Cart → Hp → Addr → Cs → Prop := fun x F a c => O_Cart K x F a c
abbrev A_Cart_holding : T_Cart → List PyData := fun x => []
abbrev B_Cart_holding : (List Str) → List PyData := fun y => y.map eS
abbrev sp_Cart_holding (K : PySem.W.Frag) : Sp := spBF K (Oa_Cart_holding K) A_Cart_holding B_Cart_holding f_Cart_holding
def t_Cart_holding (K : PySem.W.Frag) : TS := (tRet (tMeth (He.ga K "Cart") "names_at" (sp_Cart_names_at_2 K) [] E0 (tVar 0) (tCons (tC .non) tNil)))
theorem w_Cart_holding {K : PySem.W.Frag} (vs : List V) (H : Hp) (Q : VK) (E : XK) (h : sp_Cart_holding K vs H Q E) : t_Cart_holding K { nx := fun _ H' => Q .non H', rt := Q } (start N_Cart_holding vs) H := by
  obtain ⟨F0, cc, cs, a0, ws, self_1, y, rfl, ho, h, hS0, m, q⟩ := h
  obtain rfl := Dts.no h
  obtain ⟨dx2, p3, p4, p5, p6, rfl⟩ := ho
  have hS1 : Sta F0 ((a0, .ins (He.ga K "Cart") dx2 [("rooms", (.ref p3)), ("gaps", (.ref p4)), ("most", (.int self_1.2.2.1)), ("spots", (.ref p5)), ("homes", (.ref p6)), ("bay", (.int self_1.2.2.2.2.2.1)), ("gone", (.int self_1.2.2.2.2.2.2))]) :: (dx2, .own a0) :: (p3, .lst (self_1.1.map V.int)) :: (p4, .lst (self_1.2.1.map V.int)) :: (p5, .dK (kvE kS V.int self_1.2.2.2.1)) :: (p6, .dK (kvE kS V.int self_1.2.2.2.2.1)) :: cs) H := hS0
  unfold f_Cart_holding at m
  try dsimp only at m
  unfold t_Cart_holding
  refine go (σ' := [some (.ref a0)]) rfl ?_
  refine o_ret ?_
  obtain ⟨x7, k8, m⟩ := bnd m
  refine o_c (K := K) (ds := x7.map eS) hS1 (c_methB (B := B_Cart_names_at_2) (O := Oa_Cart_names_at_2 K) (A := A_Cart_names_at_2) (x := (self_1, ())) (y := x7) (cc := [(a0, HO.ins (He.ga K "Cart") dx2 [("rooms", (.ref p3)), ("gaps", (.ref p4)), ("most", (.int self_1.2.2.1)), ("spots", (.ref p5)), ("homes", (.ref p6)), ("bay", (.int self_1.2.2.2.2.2.1)), ("gone", (.int self_1.2.2.2.2.2.2))]), (dx2, HO.own a0), (p3, HO.lst (self_1.1.map V.int)), (p4, HO.lst (self_1.2.1.map V.int)), (p5, HO.dK (kvE kS V.int self_1.2.2.2.1)), (p6, HO.dK (kvE kS V.int self_1.2.2.2.2.1))]) (cs' := (cs)) (vp_var rfl) (List.Mem.head _) rfl (a_cons d_non a_nil) (fun _ g_ => O_Cart.gr g_ (show O_Cart K self_1 _ _ _ from ⟨_, _, _, _, _, rfl⟩)) (sb_perm (List.Perm.trans (List.perm_middle (l₁ := [(a0, HO.ins (He.ga K "Cart") dx2 [("rooms", (.ref p3)), ("gaps", (.ref p4)), ("most", (.int self_1.2.2.1)), ("spots", (.ref p5)), ("homes", (.ref p6)), ("bay", (.int self_1.2.2.2.2.2.1)), ("gone", (.int self_1.2.2.2.2.2.2))]), (dx2, HO.own a0), (p3, HO.lst (self_1.1.map V.int)), (p4, HO.lst (self_1.2.1.map V.int)), (p5, HO.dK (kvE kS V.int self_1.2.2.2.1))])) (List.Perm.trans (List.perm_middle (l₁ := [(p6, HO.dK (kvE kS V.int self_1.2.2.2.2.1)), (a0, HO.ins (He.ga K "Cart") dx2 [("rooms", (.ref p3)), ("gaps", (.ref p4)), ("most", (.int self_1.2.2.1)), ("spots", (.ref p5)), ("homes", (.ref p6)), ("bay", (.int self_1.2.2.2.2.2.1)), ("gone", (.int self_1.2.2.2.2.2.2))]), (dx2, HO.own a0), (p3, HO.lst (self_1.1.map V.int)), (p4, HO.lst (self_1.2.1.map V.int))])) (List.Perm.trans (List.perm_middle (l₁ := [(p5, HO.dK (kvE kS V.int self_1.2.2.2.1)), (p6, HO.dK (kvE kS V.int self_1.2.2.2.2.1)), (a0, HO.ins (He.ga K "Cart") dx2 [("rooms", (.ref p3)), ("gaps", (.ref p4)), ("most", (.int self_1.2.2.1)), ("spots", (.ref p5)), ("homes", (.ref p6)), ("bay", (.int self_1.2.2.2.2.2.1)), ("gone", (.int self_1.2.2.2.2.2.2))]), (dx2, HO.own a0), (p3, HO.lst (self_1.1.map V.int))])) (List.Perm.trans (List.perm_middle (l₁ := [(p4, HO.lst (self_1.2.1.map V.int)), (p5, HO.dK (kvE kS V.int self_1.2.2.2.1)), (p6, HO.dK (kvE kS V.int self_1.2.2.2.2.1)), (a0, HO.ins (He.ga K "Cart") dx2 [("rooms", (.ref p3)), ("gaps", (.ref p4)), ("most", (.int self_1.2.2.1)), ("spots", (.ref p5)), ("homes", (.ref p6)), ("bay", (.int self_1.2.2.2.2.2.1)), ("gone", (.int self_1.2.2.2.2.2.2))]), (dx2, HO.own a0)])) (List.Perm.trans (List.perm_middle (l₁ := [(p3, HO.lst (self_1.1.map V.int)), (p4, HO.lst (self_1.2.1.map V.int)), (p5, HO.dK (kvE kS V.int self_1.2.2.2.1)), (p6, HO.dK (kvE kS V.int self_1.2.2.2.2.1)), (a0, HO.ins (He.ga K "Cart") dx2 [("rooms", (.ref p3)), ("gaps", (.ref p4)), ("most", (.int self_1.2.2.1)), ("spots", (.ref p5)), ("homes", (.ref p6)), ("bay", (.int self_1.2.2.2.2.2.1)), ("gone", (.int self_1.2.2.2.2.2.2))])])) (List.perm_middle (l₁ := [(dx2, HO.own a0), (p3, HO.lst (self_1.1.map V.int)), (p4, HO.lst (self_1.2.1.map V.int)), (p5, HO.dK (kvE kS V.int self_1.2.2.2.1)), (p6, HO.dK (kvE kS V.int self_1.2.2.2.2.1))])))))))) (fun _ => sb_perm (List.Perm.cons _ (List.Perm.symm (List.Perm.trans (List.perm_middle (l₁ := [(a0, HO.ins (He.ga K "Cart") dx2 [("rooms", (.ref p3)), ("gaps", (.ref p4)), ("most", (.int self_1.2.2.1)), ("spots", (.ref p5)), ("homes", (.ref p6)), ("bay", (.int self_1.2.2.2.2.2.1)), ("gone", (.int self_1.2.2.2.2.2.2))]), (dx2, HO.own a0), (p3, HO.lst (self_1.1.map V.int)), (p4, HO.lst (self_1.2.1.map V.int)), (p5, HO.dK (kvE kS V.int self_1.2.2.2.1))])) (List.Perm.trans (List.perm_middle (l₁ := [(p6, HO.dK (kvE kS V.int self_1.2.2.2.2.1)), (a0, HO.ins (He.ga K "Cart") dx2 [("rooms", (.ref p3)), ("gaps", (.ref p4)), ("most", (.int self_1.2.2.1)), ("spots", (.ref p5)), ("homes", (.ref p6)), ("bay", (.int self_1.2.2.2.2.2.1)), ("gone", (.int self_1.2.2.2.2.2.2))]), (dx2, HO.own a0), (p3, HO.lst (self_1.1.map V.int)), (p4, HO.lst (self_1.2.1.map V.int))])) (List.Perm.trans (List.perm_middle (l₁ := [(p5, HO.dK (kvE kS V.int self_1.2.2.2.1)), (p6, HO.dK (kvE kS V.int self_1.2.2.2.2.1)), (a0, HO.ins (He.ga K "Cart") dx2 [("rooms", (.ref p3)), ("gaps", (.ref p4)), ("most", (.int self_1.2.2.1)), ("spots", (.ref p5)), ("homes", (.ref p6)), ("bay", (.int self_1.2.2.2.2.2.1)), ("gone", (.int self_1.2.2.2.2.2.2))]), (dx2, HO.own a0), (p3, HO.lst (self_1.1.map V.int))])) (List.Perm.trans (List.perm_middle (l₁ := [(p4, HO.lst (self_1.2.1.map V.int)), (p5, HO.dK (kvE kS V.int self_1.2.2.2.1)), (p6, HO.dK (kvE kS V.int self_1.2.2.2.2.1)), (a0, HO.ins (He.ga K "Cart") dx2 [("rooms", (.ref p3)), ("gaps", (.ref p4)), ("most", (.int self_1.2.2.1)), ("spots", (.ref p5)), ("homes", (.ref p6)), ("bay", (.int self_1.2.2.2.2.2.1)), ("gone", (.int self_1.2.2.2.2.2.2))]), (dx2, HO.own a0)])) (List.Perm.trans (List.perm_middle (l₁ := [(p3, HO.lst (self_1.1.map V.int)), (p4, HO.lst (self_1.2.1.map V.int)), (p5, HO.dK (kvE kS V.int self_1.2.2.2.1)), (p6, HO.dK (kvE kS V.int self_1.2.2.2.2.1)), (a0, HO.ins (He.ga K "Cart") dx2 [("rooms", (.ref p3)), ("gaps", (.ref p4)), ("most", (.int self_1.2.2.1)), ("spots", (.ref p5)), ("homes", (.ref p6)), ("bay", (.int self_1.2.2.2.2.2.1)), ("gone", (.int self_1.2.2.2.2.2.2))])])) (List.perm_middle (l₁ := [(dx2, HO.own a0), (p3, HO.lst (self_1.1.map V.int)), (p4, HO.lst (self_1.2.1.map V.int)), (p5, HO.dK (kvE kS V.int self_1.2.2.2.1)), (p6, HO.dK (kvE kS V.int self_1.2.2.2.2.1))])))))))))) k8) (fun p13 us14 F9 H10 g11 hS12 hu15 => ?_)
  obtain rfl := Dts.strs hu15
  have hS16 := Sta.perm hS12 (List.Perm.trans (List.perm_middle (l₁ := [(p13, HO.lst (x7.map V.str)), (a0, HO.ins (He.ga K "Cart") dx2 [("rooms", (.ref p3)), ("gaps", (.ref p4)), ("most", (.int self_1.2.2.1)), ("spots", (.ref p5)), ("homes", (.ref p6)), ("bay", (.int self_1.2.2.2.2.2.1)), ("gone", (.int self_1.2.2.2.2.2.2))]), (dx2, HO.own a0), (p3, HO.lst (self_1.1.map V.int)), (p4, HO.lst (self_1.2.1.map V.int)), (p5, HO.dK (kvE kS V.int self_1.2.2.2.1))])) (List.Perm.trans (List.perm_middle (l₁ := [(p6, HO.dK (kvE kS V.int self_1.2.2.2.2.1)), (p13, HO.lst (x7.map V.str)), (a0, HO.ins (He.ga K "Cart") dx2 [("rooms", (.ref p3)), ("gaps", (.ref p4)), ("most", (.int self_1.2.2.1)), ("spots", (.ref p5)), ("homes", (.ref p6)), ("bay", (.int self_1.2.2.2.2.2.1)), ("gone", (.int self_1.2.2.2.2.2.2))]), (dx2, HO.own a0), (p3, HO.lst (self_1.1.map V.int)), (p4, HO.lst (self_1.2.1.map V.int))])) (List.Perm.trans (List.perm_middle (l₁ := [(p5, HO.dK (kvE kS V.int self_1.2.2.2.1)), (p6, HO.dK (kvE kS V.int self_1.2.2.2.2.1)), (p13, HO.lst (x7.map V.str)), (a0, HO.ins (He.ga K "Cart") dx2 [("rooms", (.ref p3)), ("gaps", (.ref p4)), ("most", (.int self_1.2.2.1)), ("spots", (.ref p5)), ("homes", (.ref p6)), ("bay", (.int self_1.2.2.2.2.2.1)), ("gone", (.int self_1.2.2.2.2.2.2))]), (dx2, HO.own a0), (p3, HO.lst (self_1.1.map V.int))])) (List.Perm.trans (List.perm_middle (l₁ := [(p4, HO.lst (self_1.2.1.map V.int)), (p5, HO.dK (kvE kS V.int self_1.2.2.2.1)), (p6, HO.dK (kvE kS V.int self_1.2.2.2.2.1)), (p13, HO.lst (x7.map V.str)), (a0, HO.ins (He.ga K "Cart") dx2 [("rooms", (.ref p3)), ("gaps", (.ref p4)), ("most", (.int self_1.2.2.1)), ("spots", (.ref p5)), ("homes", (.ref p6)), ("bay", (.int self_1.2.2.2.2.2.1)), ("gone", (.int self_1.2.2.2.2.2.2))]), (dx2, HO.own a0)])) (List.Perm.trans (List.perm_middle (l₁ := [(p3, HO.lst (self_1.1.map V.int)), (p4, HO.lst (self_1.2.1.map V.int)), (p5, HO.dK (kvE kS V.int self_1.2.2.2.1)), (p6, HO.dK (kvE kS V.int self_1.2.2.2.2.1)), (p13, HO.lst (x7.map V.str)), (a0, HO.ins (He.ga K "Cart") dx2 [("rooms", (.ref p3)), ("gaps", (.ref p4)), ("most", (.int self_1.2.2.1)), ("spots", (.ref p5)), ("homes", (.ref p6)), ("bay", (.int self_1.2.2.2.2.2.1)), ("gone", (.int self_1.2.2.2.2.2.2))])])) (List.Perm.trans (List.perm_middle (l₁ := [(dx2, HO.own a0), (p3, HO.lst (self_1.1.map V.int)), (p4, HO.lst (self_1.2.1.map V.int)), (p5, HO.dK (kvE kS V.int self_1.2.2.2.1)), (p6, HO.dK (kvE kS V.int self_1.2.2.2.2.1)), (p13, HO.lst (x7.map V.str))])) (List.perm_middle (l₁ := [(a0, HO.ins (He.ga K "Cart") dx2 [("rooms", (.ref p3)), ("gaps", (.ref p4)), ("most", (.int self_1.2.2.1)), ("spots", (.ref p5)), ("homes", (.ref p6)), ("bay", (.int self_1.2.2.2.2.2.1)), ("gone", (.int self_1.2.2.2.2.2.2))]), (dx2, HO.own a0), (p3, HO.lst (self_1.1.map V.int)), (p4, HO.lst (self_1.2.1.map V.int)), (p5, HO.dK (kvE kS V.int self_1.2.2.2.1)), (p6, HO.dK (kvE kS V.int self_1.2.2.2.2.1))]))))))))
  obtain rfl := sm m
  exact q _ _ _ _ g11 hS16 (Dts.of_strs _)
theorem sc_Cart_holding : FnScope N_Cart_holding ["self"] (defScope s_Cart_holding) := ⟨rfl, rfl, rfl, by decide +kernel, rfl, by decide +kernel, by decide +kernel⟩
theorem ok_Cart_holding {P : Program} {w : World} {K : PySem.W.Frag} {mg : Str → Option Value} {base : Heap} (hF : DfM K "Cart" "holding" "Cart.holding" s_Cart_holding) (clM : Cls K (He.ga K "Cart")) (meM : Meth K (He.ga K "Cart") "holding" (He.ma K (He.ga K "Cart") "holding")) (o_Cart_names_at_2 : OkMe P w K mg base CX0 1 "Cart" "names_at" ["self", "spot"] (sp_Cart_names_at_2 K)) : OkMe P w K mg base CX0 2 "Cart" "holding" ["self"] (sp_Cart_holding K) := by
  obtain ⟨⟨_, G_Cart_names_at_2, bd_Cart_names_at_2⟩, cl_Cart_names_at_2, me_Cart_names_at_2⟩ := o_Cart_names_at_2
  obtain ⟨fd, F⟩ := hF
  refine ⟨⟨fd, F.ok sc_Cart_holding (fun vs H Q E h => ?_) (fun cdv A outer s H vs Q E hr h => ⟨t_Cart_holding K, PSs.nox ?_, w_Cart_holding vs H Q E h⟩), F.bindsN fun _ _ _ _ _ _ us hl => match us, hl with | [_], _ => rfl⟩, clM, meM⟩
  · obtain ⟨F0, cc, cs, a, ws, x, y, rfl, _, h, _⟩ := h; exact congrArg Nat.succ (Dts.len h)
  · exact (pss_one (ps_ret (pe_meth (pv 0) cl_Cart_names_at_2 me_Cart_names_at_2 G_Cart_names_at_2 (hr.mono (by decide)) bd_Cart_names_at_2 .nil pass0 (pa_cons pe_non pa_nil))))
abbrev s_law : Stmt := (top 51)
def f_law_b63 (script_1 : (List Int)) (x2 : ((List Int) × (List Int) × Int × (List (Str × Int × Int)))) (x53 : (List Str)) : Unit → Int → Option (Fl Unit Bool) := fun _ k_66 => (((f_cell (script_1, k_66))).bind fun x92 => ((f_source (x92, k_66))).bind fun x94 => ((f_spoilt (x2, x94))).bind fun (x96, w98) => letM x96.2 fun due_105 => (((f_refused_D x96.1)).bind fun x113 => (((if (!(isiD "str" x113)) = true then some true else (((eqDM x113 (eS due_105))).bind fun x121 => some (!x121)))).bind fun x123 => (if x123 = true then some (Fl.rt false) else (((f_Cart_2 x2)).bind fun r146 => (((f_Cart_where r146)).bind fun x165 => ((if (!decide (x165 = (0 : Int))) = true then some true else (((f_Cart_lying (r146, (0 : Int)))).bind fun x167 => ((eqTM (eL eS) x167 x53)).bind fun x169 => ((if (!x169) = true then some true else (((f_Cart_holding r146)).bind fun x171 => ((eqTM (eL eS) x171 ([] : (List Str)))).bind fun x173 => some (!x173)))).bind fun x175 => some x175))).bind fun x177 => (if x177 = true then some (Fl.rt false) else some (Fl.nx ()))))))))
def f_law : (List Int) → Option Bool := fun script_1 => (((f_store (script_1, (0 : Int)))).bind fun x2 => (((f_sixty_one ())).bind fun x10 => ((f_refused_D ((eT4 (eL eI) (eL eI) eI (eL (eT3 eS eI eI))) x10))).bind fun x12 => ((eqDM x12 (eS ("boxes" : Str)))).bind fun x14 => (if (!x14) = true then some false else (((filC (fun (name_here_30, at_31, to_32) => (decide (at_31 = (0 : Int)))) (fun (name_here_30, at_31, to_32) => name_here_30) x2.2.2.2)).bind fun x51 => ((srtM x51)).bind fun x53 => (((rngM (3 : Int) (maxI (11 : Int) (minI (script_1.length : Int) (63 : Int))))).bind fun x61 => (forF (f_law_b63 script_1 x2 x53) x61 ()).bind fun r64 => match r64 with | .nx _ => some true | .br _ => none | .rt z228 => some z228)))))
abbrev A_law : (List Int) → List PyData := fun x => [(eL eI) x]
abbrev N_law : List Str := ["_law_script", "_law_store_here", "_law_here", "_law_k", "_law_told", "_law_cart", "_law_thing", "_law_due", "_law_name_here", "_law_at", "_law_to"]
abbrev sp_law (K : PySem.W.Frag) : Sp := spP K A_law eB f_law
def t_law (K : PySem.W.Frag) : TS := (tSeq (tAsg (tCall (sp_store K) [] E0 (tCons (tVar 0) (tCons (tC (.int 0)) tNil))) (gName 1)) (tSeq (tIfS (tTest (tOp (rNeD K) (tCall (sp_refused_D K) [] E0 (tCons (tCall (sp_sixty_one K) [] E0 tNil) tNil)) (tC (.str "boxes")))) (tRet (tC (.bl false))) tNext) (tSeq (tAsg (tCB (rSortedS K) (tCons (tLc (iList K (tOp (rIxT K) (tVar 1) (tC (.int 3)))) (gTup K 3 (gCons (gName 8) (gCons (gName 9) (gCons (gName 10) gNil)))) (tTest (tOp rEq (tVar 9) (tC (.int 0)))) (tVar 8) [8, 9, 10]) tNil)) (gName 2)) (tSeq (tFor (iRng2 (tCons (tC (.int 3)) (tCons (tCB rMax2 (tCons (tC (.int 11)) (tCons (tCB rMin2 (tCons (tCB (rLenL K) (tCons (tVar 0) tNil)) (tCons (tC (.int 63)) tNil))) tNil))) tNil))) (gName 3) (tSeq (tAsg (tCall (sp_spoilt K) [] E0 (tCons (tVar 1) (tCons (tCall (sp_source K) [] E0 (tCons (tCall (sp_cell K) [] E0 (tCons (tVar 0) (tCons (tVar 3) tNil))) (tCons (tVar 3) tNil))) tNil))) (gTup K 2 (gCons (gName 6) (gCons (gName 7) gNil)))) (tSeq (tAsg (tCall (sp_refused_D K) [] E0 (tCons (tVar 6) tNil)) (gName 4)) (tSeq (tIfS (tOr (tNot (tB (tCB (rIsi K) (tCons (tVar 4) (tCons (tC (.ty "str")) tNil))))) (tTest (tOp (rNeD K) (tVar 4) (tVar 7)))) (tRet (tC (.bl false))) tNext) (tSeq (tAsg (tMake (He.ga K "Cart") (sp_Cart_2 K) [] E0 (tCons (tVar 1) tNil)) (gName 5)) (tIfS (tOr (tTest (tOp rNe (tMeth (He.ga K "Cart") "where" (sp_Cart_where K) [] E0 (tVar 5) tNil) (tC (.int 0)))) (tOr (tTest (tOp (rNeD K) (tMeth (He.ga K "Cart") "lying" (sp_Cart_lying K) [] E0 (tVar 5) (tCons (tC (.int 0)) tNil)) (tVar 2))) (tTest (tOp (rNeD K) (tMeth (He.ga K "Cart") "holding" (sp_Cart_holding K) [] E0 (tVar 5) tNil) (tLst tNil))))) (tRet (tC (.bl false))) tNext)))))) (tRet (tC (.bl true)))))))
theorem w_law {K : PySem.W.Frag} (vs : List V) (H : Hp) (Q : VK) (E : XK) (h : sp_law K vs H Q E) : t_law K { nx := fun _ H' => Q .non H', rt := Q } (start N_law vs) H := by
  obtain ⟨F0, cs, script_1, y, h, hS0, m, q⟩ := h
  obtain ⟨a0, _, rfl, ha0, h⟩ := Dts.hd h
  obtain rfl := Dts.no h
  unfold f_law at m
  try dsimp only at m
  unfold t_law
  refine go (σ' := [some a0, none, none, none, none, none, none, none, none, none, none]) rfl ?_
  obtain ⟨x2, k3, m⟩ := bnd m
  refine s_set (K := K) (d := (eT4 (eL eI) (eL eI) eI (eL (eT3 eS eI eI))) x2) (i := 1) (σ' := fun v8 => [some a0, some v8, none, none, none, none, none, none, none, none, none]) hS0 (d_call (A := A_store) (B := (eT4 (eL eI) (eL eI) eI (eL (eT3 eS eI eI)))) (x := (script_1, (0 : Int))) (a_cons (d_var rfl ha0) (a_cons d_int a_nil)) k3) (fun _ => rfl) (fun v8 F4 H5 g6 hS7 hv9 => ?_)
  obtain ⟨x10, k11, m⟩ := bnd m
  obtain ⟨x12, k13, m⟩ := bnd m
  obtain ⟨x14, k15, m⟩ := bnd m
  refine s_if (b := (!x14)) hS7 (t_test (K := K) (d_neDM (d_call (A := A_refused_D) (B := eD) (x := ((eT4 (eL eI) (eL eI) eI (eL (eT3 eS eI eI))) x10)) (a_cons (d_call (A := A_sixty_one) (B := (eT4 (eL eI) (eL eI) eI (eL (eT3 eS eI eI)))) (x := ()) a_nil k11) a_nil) k13) d_str k15)) (fun hc F16 H17 g18 hS19 => ?_) (fun hc F26 H27 g28 hS29 => ?_)
  · rw [if_pos hc] at m
    refine s_ret (K := K) (d := eB false) hS19 d_bl (fun v24 F20 H21 g22 hS23 hv25 => ?_)
    obtain rfl := sm m
    exact q _ _ _ (Gr.tr g6 (Gr.tr g18 g22)) hS23 hv25
  · rw [if_neg (bf hc)] at m
    refine nxt ?_
    obtain ⟨x51, k52, m⟩ := bnd m
    obtain ⟨x53, k54, m⟩ := bnd m
    refine s_set (K := K) (d := (eL eS) x53) (i := 2) (σ' := fun v59 => [some a0, some v8, some v59, none, none, none, none, none, none, none, none]) hS29 (EvC.dd (c_sortedS (a_cons (EvC.dd (c_filC (K := K) (p := (fun (name_here_30, at_31, to_32) => (decide (at_31 = (0 : Int))))) (f := (fun (name_here_30, at_31, to_32) => name_here_30)) (em := eS) (i_list (en := (eT3 eS eI eI)) (d_ixT (d_var rfl (Dt.gr g28 hv9)) d_int rfl)) k52 (fun ⟨name_here_30, at_31, to_32⟩ o39 v40 F33 p34 us35 g36 hv37 ho38 => by obtain ⟨p43, w45, w46, w47, rfl, hT44, hw48, hw49, hw50⟩ := u3 hv37; obtain rfl := Dt.toStr hw48; obtain rfl := Dt.toInt hw49; obtain rfl := Dt.toInt hw50; obtain rfl := sm ho38; refine ⟨[some a0, some v8, none, none, none, none, none, none, some (.str name_here_30), some (.int at_31), some (.int to_32)], fun H42 Q hS41 hq => (fun Q hq => ⟨p43, [_, _, _], rfl, gr_T hS41.fr hT44, rfl, _, _, rfl, _, _, rfl, _, _, rfl, rfl, hq⟩) Q hq, rfl, ?_, ?_⟩; (rw [isS]; exact (t_test (K := K) (d_eqI (d_var rfl (.int _)) d_int))); (intro y hy; obtain rfl := isSm hy; exact (d_var rfl (.str _)))))) a_nil) k54)) (fun _ => rfl) (fun v59 F55 H56 g57 hS58 hv60 => ?_)
    obtain ⟨x61, k62, m⟩ := bnd m
    obtain ⟨r64, k65, m⟩ := bnd m
    refine s_forF (K := K) (xs := x61) (en := eI) (body := (f_law_b63 script_1 x2 x53)) (s0 := ()) (r := r64) (fun (a : Unit) F σ c => ∃ (j3 : Option V) (j4 : Option V) (j5 : Option V) (j6 : Option V) (j7 : Option V) (j8 : Option V) (j9 : Option V) (j10 : Option V), σ = [some a0, some v8, some v59, j3, j4, j5, j6, j7, j8, j9, j10] ∧ cs = c) hS58 (i_rng2 (a_cons d_int (a_cons (d_max2 (a_cons d_int (a_cons (d_min2 (a_cons (d_len (e := eI) (a_cons (d_var rfl (Dt.gr (Gr.tr g6 (Gr.tr g28 g57)) ha0)) a_nil)) (a_cons d_int a_nil))) a_nil))) a_nil)) k62) (fun _ _ => ⟨_, _, _, _, _, _, _, _, rfl, rfl⟩) k65 ?_ ?_
    · rintro ⟨⟩ F208 σ213 c212 H209 hz229 g210 hS211 ⟨u214, u215, u216, u217, u218, u219, u220, u221, rfl, rfl⟩
      rcases hz229.symm with rfl | rfl
      · cases (show (none : Option _) = some _ from m)
      try dsimp only at m
      refine s_ret (K := K) (d := eB true) hS211 d_bl (fun v226 F222 H223 g224 hS225 hv227 => ?_)
      obtain rfl := sm m
      exact q _ _ _ (Gr.tr g6 (Gr.tr g28 (Gr.tr g57 (Gr.tr g210 g224)))) hS225 hv227
    · rintro k_66 ⟨⟩ b75 F67 F68 σ81 c82 H69 v74 N76 B77 g70 ⟨u84, u85, u86, u87, u88, u89, u90, u91, rfl, rfl⟩ g71 hS72 hv73 m83 hN78 hB79 hR80
      obtain rfl := Dt.toInt hv73
      refine tg (σ' := [some a0, some v8, some v59, some (.int k_66), u85, u86, u87, u88, u89, u90, u91]) (fun Q hq => hq) ?_
      unfold f_law_b63 at m83
      try dsimp only at m83
      obtain ⟨x92, k93, m83⟩ := bnd m83
      obtain ⟨x94, k95, m83⟩ := bnd m83
      obtain ⟨⟨x96, w98⟩, k97, m83⟩ := bnd m83; (try dsimp only at m83)
      refine s_asg (K := K) (d := (eT2 eD eS) x96) hS72 (d_callM (A := A_spoilt) (B := B_spoilt) (C := C_spoilt) (x := (x2, x94)) (y := (x96, w98)) (cs3 := (cs)) (us := (x94.map V.int)) (cc := []) (cs' := (cs)) (n_d (d_var rfl (Dt.gr (Gr.tr g28 (Gr.tr g57 (Gr.tr g70 g71))) hv9)) (n_new (c_callX (A := A_source) (B := B_source) (C := C_source) (x := (x92, k_66)) (y := x94) (cs2 := (cs)) (cc := []) (cs' := (cs)) (r_d (d_call (A := A_cell) (B := eI) (x := (script_1, k_66)) (a_cons (d_var rfl (Dt.gr (Gr.tr g6 (Gr.tr g28 (Gr.tr g57 (Gr.tr g70 g71)))) ha0)) (a_cons (d_var rfl (.int _)) a_nil)) k93) (r_d (d_var rfl (.int _)) r_nil)) sb_rfl k95 (fun _ => sb_rfl)) (fun _ _ h => Dts.ints h) (fun _ => r_nil))) (fun _ => sb_rfl) k97 (fun _ => sb_drop)) (fun v103 F99 H100 g101 hS102 hv104 => ?_)
      obtain ⟨due_105, k106, m83⟩ := lt m83
      obtain ⟨p107, w109, w110, rfl, hT108, hw111, hw112⟩ := u2 hv104
      rw [k106] at hw112
      obtain rfl := Dt.toStr hw112
      refine tg (σ' := [some a0, some v8, some v59, some (.int k_66), u85, u86, some w109, some (.str due_105), u89, u90, u91]) (fun Q hq => ⟨p107, [_, _], rfl, gr_T hS102.fr hT108, rfl, _, _, rfl, _, _, rfl, rfl, hq⟩) ?_
      obtain ⟨x113, k114, m83⟩ := bnd m83
      refine s_set (K := K) (d := eD x113) (i := 4) (σ' := fun v119 => [some a0, some v8, some v59, some (.int k_66), some v119, u86, some w109, some (.str due_105), u89, u90, u91]) hS102 (d_call (A := A_refused_D) (B := eD) (x := x96.1) (a_cons (d_var rfl hw111) a_nil) k114) (fun _ => rfl) (fun v119 F115 H116 g117 hS118 hv120 => ?_)
      obtain ⟨x123, k124, m83⟩ := bnd m83
      refine s_if (b := x123) hS118 (t_orM (r := x123) (t_not (t_B (K := K) (d_isiD (c := "str") (by decide) (d_var rfl hv120)))) (fun hc => by rw [if_neg (bf hc)] at k124; obtain ⟨x121, k122, k124⟩ := bnd k124; obtain rfl := sm k124; exact (t_test (K := K) (d_neDM (d_var rfl hv120) (d_var rfl (.str _)) k122))) (fun hc => by rw [if_pos hc] at k124; exact (sm k124).symm)) (fun hc F125 H126 g127 hS128 => ?_) (fun hc F136 H137 g138 hS139 => ?_)
      · rw [if_pos hc] at m83
        refine s_ret (K := K) (d := eB false) hS128 d_bl (fun v133 F129 H130 g131 hS132 hv134 => ?_)
        obtain rfl := sm m83
        have hr135 := hR80 _ rfl
        subst hr135
        obtain rfl := sm m
        exact q _ _ _ (Gr.tr g6 (Gr.tr g28 (Gr.tr g57 (Gr.tr g70 (Gr.tr g71 (Gr.tr g101 (Gr.tr g117 (Gr.tr g127 g131)))))))) hS132 hv134
      · rw [if_neg (bf hc)] at m83
        refine nxt ?_
        refine o_asg ?_
        refine o_make ?_
        refine o_cons ?_
        refine o_d (K := K) (d := (eT4 (eL eI) (eL eI) eI (eL (eT3 eS eI eI))) x2) hS139 (d_var rfl (Dt.gr (Gr.tr g28 (Gr.tr g57 (Gr.tr g70 (Gr.tr g71 (Gr.tr g101 (Gr.tr g117 g138)))))) hv9)) (fun v144 F140 H141 g142 hS143 hv145 => ?_)
        refine o_nil ?_
        obtain ⟨r146, k147, m83⟩ := bnd m83
        intro a148 dx149 h150 h151 h152
        refine ⟨_, _, _, _, _, x2, r146, rfl, (Dts.cons hv145 Dts.nil), Sta.make hS143 h150 h151 h152, k147, fun c153 F154 H155 g156 hS157 ho158 => ⟨rfl, ?_⟩⟩
        obtain ⟨dx159, p160, p161, p162, p163, rfl⟩ := ho158
        have hS164 : Sta F154 ((a148, .ins (He.ga K "Cart") dx159 [("rooms", (.ref p160)), ("gaps", (.ref p161)), ("most", (.int r146.2.2.1)), ("spots", (.ref p162)), ("homes", (.ref p163)), ("bay", (.int r146.2.2.2.2.2.1)), ("gone", (.int r146.2.2.2.2.2.2))]) :: (dx159, .own a148) :: (p160, .lst (r146.1.map V.int)) :: (p161, .lst (r146.2.1.map V.int)) :: (p162, .dK (kvE kS V.int r146.2.2.2.1)) :: (p163, .dK (kvE kS V.int r146.2.2.2.2.1)) :: cs) H155 := hS157
        refine o_name (σ' := [some a0, some v8, some v59, some (.int k_66), some v119, some (.ref a148), some w109, some (.str due_105), u89, u90, u91]) rfl ?_
        obtain ⟨x165, k166, m83⟩ := bnd m83
        obtain ⟨x177, k178, m83⟩ := bnd m83
        refine s_if (b := x177) hS164 (t_orM (r := x177) (t_test (K := K) (d_neI (d_methB (B := eI) (O := Oa_Cart_where K) (A := A_Cart_where) (x := r146) (y := x165) (cc := [(a148, HO.ins (He.ga K "Cart") dx159 [("rooms", (.ref p160)), ("gaps", (.ref p161)), ("most", (.int r146.2.2.1)), ("spots", (.ref p162)), ("homes", (.ref p163)), ("bay", (.int r146.2.2.2.2.2.1)), ("gone", (.int r146.2.2.2.2.2.2))]), (dx159, HO.own a148), (p160, HO.lst (r146.1.map V.int)), (p161, HO.lst (r146.2.1.map V.int)), (p162, HO.dK (kvE kS V.int r146.2.2.2.1)), (p163, HO.dK (kvE kS V.int r146.2.2.2.2.1))]) (cs' := (cs)) (vp_var rfl) (List.Mem.head _) rfl a_nil (fun _ g_ => O_Cart.gr g_ (show O_Cart K r146 _ _ _ from ⟨_, _, _, _, _, rfl⟩)) (sb_perm (List.Perm.trans (List.perm_middle (l₁ := [(a148, HO.ins (He.ga K "Cart") dx159 [("rooms", (.ref p160)), ("gaps", (.ref p161)), ("most", (.int r146.2.2.1)), ("spots", (.ref p162)), ("homes", (.ref p163)), ("bay", (.int r146.2.2.2.2.2.1)), ("gone", (.int r146.2.2.2.2.2.2))]), (dx159, HO.own a148), (p160, HO.lst (r146.1.map V.int)), (p161, HO.lst (r146.2.1.map V.int)), (p162, HO.dK (kvE kS V.int r146.2.2.2.1))])) (List.Perm.trans (List.perm_middle (l₁ := [(p163, HO.dK (kvE kS V.int r146.2.2.2.2.1)), (a148, HO.ins (He.ga K "Cart") dx159 [("rooms", (.ref p160)), ("gaps", (.ref p161)), ("most", (.int r146.2.2.1)), ("spots", (.ref p162)), ("homes", (.ref p163)), ("bay", (.int r146.2.2.2.2.2.1)), ("gone", (.int r146.2.2.2.2.2.2))]), (dx159, HO.own a148), (p160, HO.lst (r146.1.map V.int)), (p161, HO.lst (r146.2.1.map V.int))])) (List.Perm.trans (List.perm_middle (l₁ := [(p162, HO.dK (kvE kS V.int r146.2.2.2.1)), (p163, HO.dK (kvE kS V.int r146.2.2.2.2.1)), (a148, HO.ins (He.ga K "Cart") dx159 [("rooms", (.ref p160)), ("gaps", (.ref p161)), ("most", (.int r146.2.2.1)), ("spots", (.ref p162)), ("homes", (.ref p163)), ("bay", (.int r146.2.2.2.2.2.1)), ("gone", (.int r146.2.2.2.2.2.2))]), (dx159, HO.own a148), (p160, HO.lst (r146.1.map V.int))])) (List.Perm.trans (List.perm_middle (l₁ := [(p161, HO.lst (r146.2.1.map V.int)), (p162, HO.dK (kvE kS V.int r146.2.2.2.1)), (p163, HO.dK (kvE kS V.int r146.2.2.2.2.1)), (a148, HO.ins (He.ga K "Cart") dx159 [("rooms", (.ref p160)), ("gaps", (.ref p161)), ("most", (.int r146.2.2.1)), ("spots", (.ref p162)), ("homes", (.ref p163)), ("bay", (.int r146.2.2.2.2.2.1)), ("gone", (.int r146.2.2.2.2.2.2))]), (dx159, HO.own a148)])) (List.Perm.trans (List.perm_middle (l₁ := [(p160, HO.lst (r146.1.map V.int)), (p161, HO.lst (r146.2.1.map V.int)), (p162, HO.dK (kvE kS V.int r146.2.2.2.1)), (p163, HO.dK (kvE kS V.int r146.2.2.2.2.1)), (a148, HO.ins (He.ga K "Cart") dx159 [("rooms", (.ref p160)), ("gaps", (.ref p161)), ("most", (.int r146.2.2.1)), ("spots", (.ref p162)), ("homes", (.ref p163)), ("bay", (.int r146.2.2.2.2.2.1)), ("gone", (.int r146.2.2.2.2.2.2))])])) (List.perm_middle (l₁ := [(dx159, HO.own a148), (p160, HO.lst (r146.1.map V.int)), (p161, HO.lst (r146.2.1.map V.int)), (p162, HO.dK (kvE kS V.int r146.2.2.2.1)), (p163, HO.dK (kvE kS V.int r146.2.2.2.2.1))])))))))) (sb_perm (List.Perm.symm (List.Perm.trans (List.perm_middle (l₁ := [(a148, HO.ins (He.ga K "Cart") dx159 [("rooms", (.ref p160)), ("gaps", (.ref p161)), ("most", (.int r146.2.2.1)), ("spots", (.ref p162)), ("homes", (.ref p163)), ("bay", (.int r146.2.2.2.2.2.1)), ("gone", (.int r146.2.2.2.2.2.2))]), (dx159, HO.own a148), (p160, HO.lst (r146.1.map V.int)), (p161, HO.lst (r146.2.1.map V.int)), (p162, HO.dK (kvE kS V.int r146.2.2.2.1))])) (List.Perm.trans (List.perm_middle (l₁ := [(p163, HO.dK (kvE kS V.int r146.2.2.2.2.1)), (a148, HO.ins (He.ga K "Cart") dx159 [("rooms", (.ref p160)), ("gaps", (.ref p161)), ("most", (.int r146.2.2.1)), ("spots", (.ref p162)), ("homes", (.ref p163)), ("bay", (.int r146.2.2.2.2.2.1)), ("gone", (.int r146.2.2.2.2.2.2))]), (dx159, HO.own a148), (p160, HO.lst (r146.1.map V.int)), (p161, HO.lst (r146.2.1.map V.int))])) (List.Perm.trans (List.perm_middle (l₁ := [(p162, HO.dK (kvE kS V.int r146.2.2.2.1)), (p163, HO.dK (kvE kS V.int r146.2.2.2.2.1)), (a148, HO.ins (He.ga K "Cart") dx159 [("rooms", (.ref p160)), ("gaps", (.ref p161)), ("most", (.int r146.2.2.1)), ("spots", (.ref p162)), ("homes", (.ref p163)), ("bay", (.int r146.2.2.2.2.2.1)), ("gone", (.int r146.2.2.2.2.2.2))]), (dx159, HO.own a148), (p160, HO.lst (r146.1.map V.int))])) (List.Perm.trans (List.perm_middle (l₁ := [(p161, HO.lst (r146.2.1.map V.int)), (p162, HO.dK (kvE kS V.int r146.2.2.2.1)), (p163, HO.dK (kvE kS V.int r146.2.2.2.2.1)), (a148, HO.ins (He.ga K "Cart") dx159 [("rooms", (.ref p160)), ("gaps", (.ref p161)), ("most", (.int r146.2.2.1)), ("spots", (.ref p162)), ("homes", (.ref p163)), ("bay", (.int r146.2.2.2.2.2.1)), ("gone", (.int r146.2.2.2.2.2.2))]), (dx159, HO.own a148)])) (List.Perm.trans (List.perm_middle (l₁ := [(p160, HO.lst (r146.1.map V.int)), (p161, HO.lst (r146.2.1.map V.int)), (p162, HO.dK (kvE kS V.int r146.2.2.2.1)), (p163, HO.dK (kvE kS V.int r146.2.2.2.2.1)), (a148, HO.ins (He.ga K "Cart") dx159 [("rooms", (.ref p160)), ("gaps", (.ref p161)), ("most", (.int r146.2.2.1)), ("spots", (.ref p162)), ("homes", (.ref p163)), ("bay", (.int r146.2.2.2.2.2.1)), ("gone", (.int r146.2.2.2.2.2.2))])])) (List.perm_middle (l₁ := [(dx159, HO.own a148), (p160, HO.lst (r146.1.map V.int)), (p161, HO.lst (r146.2.1.map V.int)), (p162, HO.dK (kvE kS V.int r146.2.2.2.1)), (p163, HO.dK (kvE kS V.int r146.2.2.2.2.1))]))))))))) k166) d_int)) (fun hc => by rw [if_neg (bf hc)] at k178; obtain ⟨x167, k168, k178⟩ := bnd k178; obtain ⟨x169, k170, k178⟩ := bnd k178; obtain ⟨x175, k176, k178⟩ := bnd k178; obtain rfl := sm k178; exact (t_orM (r := x175) (t_test (K := K) (d_neTM (EqE.l eqE_S) (EvC.dd (c_methB (B := B_Cart_lying) (O := Oa_Cart_lying K) (A := A_Cart_lying) (x := (r146, (0 : Int))) (y := x167) (cc := [(a148, HO.ins (He.ga K "Cart") dx159 [("rooms", (.ref p160)), ("gaps", (.ref p161)), ("most", (.int r146.2.2.1)), ("spots", (.ref p162)), ("homes", (.ref p163)), ("bay", (.int r146.2.2.2.2.2.1)), ("gone", (.int r146.2.2.2.2.2.2))]), (dx159, HO.own a148), (p160, HO.lst (r146.1.map V.int)), (p161, HO.lst (r146.2.1.map V.int)), (p162, HO.dK (kvE kS V.int r146.2.2.2.1)), (p163, HO.dK (kvE kS V.int r146.2.2.2.2.1))]) (cs' := (cs)) (vp_var rfl) (List.Mem.head _) rfl (a_cons d_int a_nil) (fun _ g_ => O_Cart.gr g_ (show O_Cart K r146 _ _ _ from ⟨_, _, _, _, _, rfl⟩)) (sb_perm (List.Perm.trans (List.perm_middle (l₁ := [(a148, HO.ins (He.ga K "Cart") dx159 [("rooms", (.ref p160)), ("gaps", (.ref p161)), ("most", (.int r146.2.2.1)), ("spots", (.ref p162)), ("homes", (.ref p163)), ("bay", (.int r146.2.2.2.2.2.1)), ("gone", (.int r146.2.2.2.2.2.2))]), (dx159, HO.own a148), (p160, HO.lst (r146.1.map V.int)), (p161, HO.lst (r146.2.1.map V.int)), (p162, HO.dK (kvE kS V.int r146.2.2.2.1))])) (List.Perm.trans (List.perm_middle (l₁ := [(p163, HO.dK (kvE kS V.int r146.2.2.2.2.1)), (a148, HO.ins (He.ga K "Cart") dx159 [("rooms", (.ref p160)), ("gaps", (.ref p161)), ("most", (.int r146.2.2.1)), ("spots", (.ref p162)), ("homes", (.ref p163)), ("bay", (.int r146.2.2.2.2.2.1)), ("gone", (.int r146.2.2.2.2.2.2))]), (dx159, HO.own a148), (p160, HO.lst (r146.1.map V.int)), (p161, HO.lst (r146.2.1.map V.int))])) (List.Perm.trans (List.perm_middle (l₁ := [(p162, HO.dK (kvE kS V.int r146.2.2.2.1)), (p163, HO.dK (kvE kS V.int r146.2.2.2.2.1)), (a148, HO.ins (He.ga K "Cart") dx159 [("rooms", (.ref p160)), ("gaps", (.ref p161)), ("most", (.int r146.2.2.1)), ("spots", (.ref p162)), ("homes", (.ref p163)), ("bay", (.int r146.2.2.2.2.2.1)), ("gone", (.int r146.2.2.2.2.2.2))]), (dx159, HO.own a148), (p160, HO.lst (r146.1.map V.int))])) (List.Perm.trans (List.perm_middle (l₁ := [(p161, HO.lst (r146.2.1.map V.int)), (p162, HO.dK (kvE kS V.int r146.2.2.2.1)), (p163, HO.dK (kvE kS V.int r146.2.2.2.2.1)), (a148, HO.ins (He.ga K "Cart") dx159 [("rooms", (.ref p160)), ("gaps", (.ref p161)), ("most", (.int r146.2.2.1)), ("spots", (.ref p162)), ("homes", (.ref p163)), ("bay", (.int r146.2.2.2.2.2.1)), ("gone", (.int r146.2.2.2.2.2.2))]), (dx159, HO.own a148)])) (List.Perm.trans (List.perm_middle (l₁ := [(p160, HO.lst (r146.1.map V.int)), (p161, HO.lst (r146.2.1.map V.int)), (p162, HO.dK (kvE kS V.int r146.2.2.2.1)), (p163, HO.dK (kvE kS V.int r146.2.2.2.2.1)), (a148, HO.ins (He.ga K "Cart") dx159 [("rooms", (.ref p160)), ("gaps", (.ref p161)), ("most", (.int r146.2.2.1)), ("spots", (.ref p162)), ("homes", (.ref p163)), ("bay", (.int r146.2.2.2.2.2.1)), ("gone", (.int r146.2.2.2.2.2.2))])])) (List.perm_middle (l₁ := [(dx159, HO.own a148), (p160, HO.lst (r146.1.map V.int)), (p161, HO.lst (r146.2.1.map V.int)), (p162, HO.dK (kvE kS V.int r146.2.2.2.1)), (p163, HO.dK (kvE kS V.int r146.2.2.2.2.1))])))))))) (fun _ => sb_perm (List.Perm.cons _ (List.Perm.symm (List.Perm.trans (List.perm_middle (l₁ := [(a148, HO.ins (He.ga K "Cart") dx159 [("rooms", (.ref p160)), ("gaps", (.ref p161)), ("most", (.int r146.2.2.1)), ("spots", (.ref p162)), ("homes", (.ref p163)), ("bay", (.int r146.2.2.2.2.2.1)), ("gone", (.int r146.2.2.2.2.2.2))]), (dx159, HO.own a148), (p160, HO.lst (r146.1.map V.int)), (p161, HO.lst (r146.2.1.map V.int)), (p162, HO.dK (kvE kS V.int r146.2.2.2.1))])) (List.Perm.trans (List.perm_middle (l₁ := [(p163, HO.dK (kvE kS V.int r146.2.2.2.2.1)), (a148, HO.ins (He.ga K "Cart") dx159 [("rooms", (.ref p160)), ("gaps", (.ref p161)), ("most", (.int r146.2.2.1)), ("spots", (.ref p162)), ("homes", (.ref p163)), ("bay", (.int r146.2.2.2.2.2.1)), ("gone", (.int r146.2.2.2.2.2.2))]), (dx159, HO.own a148), (p160, HO.lst (r146.1.map V.int)), (p161, HO.lst (r146.2.1.map V.int))])) (List.Perm.trans (List.perm_middle (l₁ := [(p162, HO.dK (kvE kS V.int r146.2.2.2.1)), (p163, HO.dK (kvE kS V.int r146.2.2.2.2.1)), (a148, HO.ins (He.ga K "Cart") dx159 [("rooms", (.ref p160)), ("gaps", (.ref p161)), ("most", (.int r146.2.2.1)), ("spots", (.ref p162)), ("homes", (.ref p163)), ("bay", (.int r146.2.2.2.2.2.1)), ("gone", (.int r146.2.2.2.2.2.2))]), (dx159, HO.own a148), (p160, HO.lst (r146.1.map V.int))])) (List.Perm.trans (List.perm_middle (l₁ := [(p161, HO.lst (r146.2.1.map V.int)), (p162, HO.dK (kvE kS V.int r146.2.2.2.1)), (p163, HO.dK (kvE kS V.int r146.2.2.2.2.1)), (a148, HO.ins (He.ga K "Cart") dx159 [("rooms", (.ref p160)), ("gaps", (.ref p161)), ("most", (.int r146.2.2.1)), ("spots", (.ref p162)), ("homes", (.ref p163)), ("bay", (.int r146.2.2.2.2.2.1)), ("gone", (.int r146.2.2.2.2.2.2))]), (dx159, HO.own a148)])) (List.Perm.trans (List.perm_middle (l₁ := [(p160, HO.lst (r146.1.map V.int)), (p161, HO.lst (r146.2.1.map V.int)), (p162, HO.dK (kvE kS V.int r146.2.2.2.1)), (p163, HO.dK (kvE kS V.int r146.2.2.2.2.1)), (a148, HO.ins (He.ga K "Cart") dx159 [("rooms", (.ref p160)), ("gaps", (.ref p161)), ("most", (.int r146.2.2.1)), ("spots", (.ref p162)), ("homes", (.ref p163)), ("bay", (.int r146.2.2.2.2.2.1)), ("gone", (.int r146.2.2.2.2.2.2))])])) (List.perm_middle (l₁ := [(dx159, HO.own a148), (p160, HO.lst (r146.1.map V.int)), (p161, HO.lst (r146.2.1.map V.int)), (p162, HO.dK (kvE kS V.int r146.2.2.2.1)), (p163, HO.dK (kvE kS V.int r146.2.2.2.2.1))])))))))))) k168)) (d_var rfl (Dt.gr (Gr.tr g70 (Gr.tr g71 (Gr.tr g101 (Gr.tr g117 (Gr.tr g138 (Gr.tr g142 g156)))))) hv60)) k170)) (fun hc => by rw [if_neg (bf hc)] at k176; obtain ⟨x171, k172, k176⟩ := bnd k176; obtain ⟨x173, k174, k176⟩ := bnd k176; obtain rfl := sm k176; exact (t_test (K := K) (d_neTM (EqE.l eqE_S) (EvC.dd (c_methB (B := B_Cart_holding) (O := Oa_Cart_holding K) (A := A_Cart_holding) (x := r146) (y := x171) (cc := [(a148, HO.ins (He.ga K "Cart") dx159 [("rooms", (.ref p160)), ("gaps", (.ref p161)), ("most", (.int r146.2.2.1)), ("spots", (.ref p162)), ("homes", (.ref p163)), ("bay", (.int r146.2.2.2.2.2.1)), ("gone", (.int r146.2.2.2.2.2.2))]), (dx159, HO.own a148), (p160, HO.lst (r146.1.map V.int)), (p161, HO.lst (r146.2.1.map V.int)), (p162, HO.dK (kvE kS V.int r146.2.2.2.1)), (p163, HO.dK (kvE kS V.int r146.2.2.2.2.1))]) (cs' := (cs)) (vp_var rfl) (List.Mem.head _) rfl a_nil (fun _ g_ => O_Cart.gr g_ (show O_Cart K r146 _ _ _ from ⟨_, _, _, _, _, rfl⟩)) (sb_perm (List.Perm.trans (List.perm_middle (l₁ := [(a148, HO.ins (He.ga K "Cart") dx159 [("rooms", (.ref p160)), ("gaps", (.ref p161)), ("most", (.int r146.2.2.1)), ("spots", (.ref p162)), ("homes", (.ref p163)), ("bay", (.int r146.2.2.2.2.2.1)), ("gone", (.int r146.2.2.2.2.2.2))]), (dx159, HO.own a148), (p160, HO.lst (r146.1.map V.int)), (p161, HO.lst (r146.2.1.map V.int)), (p162, HO.dK (kvE kS V.int r146.2.2.2.1))])) (List.Perm.trans (List.perm_middle (l₁ := [(p163, HO.dK (kvE kS V.int r146.2.2.2.2.1)), (a148, HO.ins (He.ga K "Cart") dx159 [("rooms", (.ref p160)), ("gaps", (.ref p161)), ("most", (.int r146.2.2.1)), ("spots", (.ref p162)), ("homes", (.ref p163)), ("bay", (.int r146.2.2.2.2.2.1)), ("gone", (.int r146.2.2.2.2.2.2))]), (dx159, HO.own a148), (p160, HO.lst (r146.1.map V.int)), (p161, HO.lst (r146.2.1.map V.int))])) (List.Perm.trans (List.perm_middle (l₁ := [(p162, HO.dK (kvE kS V.int r146.2.2.2.1)), (p163, HO.dK (kvE kS V.int r146.2.2.2.2.1)), (a148, HO.ins (He.ga K "Cart") dx159 [("rooms", (.ref p160)), ("gaps", (.ref p161)), ("most", (.int r146.2.2.1)), ("spots", (.ref p162)), ("homes", (.ref p163)), ("bay", (.int r146.2.2.2.2.2.1)), ("gone", (.int r146.2.2.2.2.2.2))]), (dx159, HO.own a148), (p160, HO.lst (r146.1.map V.int))])) (List.Perm.trans (List.perm_middle (l₁ := [(p161, HO.lst (r146.2.1.map V.int)), (p162, HO.dK (kvE kS V.int r146.2.2.2.1)), (p163, HO.dK (kvE kS V.int r146.2.2.2.2.1)), (a148, HO.ins (He.ga K "Cart") dx159 [("rooms", (.ref p160)), ("gaps", (.ref p161)), ("most", (.int r146.2.2.1)), ("spots", (.ref p162)), ("homes", (.ref p163)), ("bay", (.int r146.2.2.2.2.2.1)), ("gone", (.int r146.2.2.2.2.2.2))]), (dx159, HO.own a148)])) (List.Perm.trans (List.perm_middle (l₁ := [(p160, HO.lst (r146.1.map V.int)), (p161, HO.lst (r146.2.1.map V.int)), (p162, HO.dK (kvE kS V.int r146.2.2.2.1)), (p163, HO.dK (kvE kS V.int r146.2.2.2.2.1)), (a148, HO.ins (He.ga K "Cart") dx159 [("rooms", (.ref p160)), ("gaps", (.ref p161)), ("most", (.int r146.2.2.1)), ("spots", (.ref p162)), ("homes", (.ref p163)), ("bay", (.int r146.2.2.2.2.2.1)), ("gone", (.int r146.2.2.2.2.2.2))])])) (List.perm_middle (l₁ := [(dx159, HO.own a148), (p160, HO.lst (r146.1.map V.int)), (p161, HO.lst (r146.2.1.map V.int)), (p162, HO.dK (kvE kS V.int r146.2.2.2.1)), (p163, HO.dK (kvE kS V.int r146.2.2.2.2.1))])))))))) (fun _ => sb_perm (List.Perm.cons _ (List.Perm.symm (List.Perm.trans (List.perm_middle (l₁ := [(a148, HO.ins (He.ga K "Cart") dx159 [("rooms", (.ref p160)), ("gaps", (.ref p161)), ("most", (.int r146.2.2.1)), ("spots", (.ref p162)), ("homes", (.ref p163)), ("bay", (.int r146.2.2.2.2.2.1)), ("gone", (.int r146.2.2.2.2.2.2))]), (dx159, HO.own a148), (p160, HO.lst (r146.1.map V.int)), (p161, HO.lst (r146.2.1.map V.int)), (p162, HO.dK (kvE kS V.int r146.2.2.2.1))])) (List.Perm.trans (List.perm_middle (l₁ := [(p163, HO.dK (kvE kS V.int r146.2.2.2.2.1)), (a148, HO.ins (He.ga K "Cart") dx159 [("rooms", (.ref p160)), ("gaps", (.ref p161)), ("most", (.int r146.2.2.1)), ("spots", (.ref p162)), ("homes", (.ref p163)), ("bay", (.int r146.2.2.2.2.2.1)), ("gone", (.int r146.2.2.2.2.2.2))]), (dx159, HO.own a148), (p160, HO.lst (r146.1.map V.int)), (p161, HO.lst (r146.2.1.map V.int))])) (List.Perm.trans (List.perm_middle (l₁ := [(p162, HO.dK (kvE kS V.int r146.2.2.2.1)), (p163, HO.dK (kvE kS V.int r146.2.2.2.2.1)), (a148, HO.ins (He.ga K "Cart") dx159 [("rooms", (.ref p160)), ("gaps", (.ref p161)), ("most", (.int r146.2.2.1)), ("spots", (.ref p162)), ("homes", (.ref p163)), ("bay", (.int r146.2.2.2.2.2.1)), ("gone", (.int r146.2.2.2.2.2.2))]), (dx159, HO.own a148), (p160, HO.lst (r146.1.map V.int))])) (List.Perm.trans (List.perm_middle (l₁ := [(p161, HO.lst (r146.2.1.map V.int)), (p162, HO.dK (kvE kS V.int r146.2.2.2.1)), (p163, HO.dK (kvE kS V.int r146.2.2.2.2.1)), (a148, HO.ins (He.ga K "Cart") dx159 [("rooms", (.ref p160)), ("gaps", (.ref p161)), ("most", (.int r146.2.2.1)), ("spots", (.ref p162)), ("homes", (.ref p163)), ("bay", (.int r146.2.2.2.2.2.1)), ("gone", (.int r146.2.2.2.2.2.2))]), (dx159, HO.own a148)])) (List.Perm.trans (List.perm_middle (l₁ := [(p160, HO.lst (r146.1.map V.int)), (p161, HO.lst (r146.2.1.map V.int)), (p162, HO.dK (kvE kS V.int r146.2.2.2.1)), (p163, HO.dK (kvE kS V.int r146.2.2.2.2.1)), (a148, HO.ins (He.ga K "Cart") dx159 [("rooms", (.ref p160)), ("gaps", (.ref p161)), ("most", (.int r146.2.2.1)), ("spots", (.ref p162)), ("homes", (.ref p163)), ("bay", (.int r146.2.2.2.2.2.1)), ("gone", (.int r146.2.2.2.2.2.2))])])) (List.perm_middle (l₁ := [(dx159, HO.own a148), (p160, HO.lst (r146.1.map V.int)), (p161, HO.lst (r146.2.1.map V.int)), (p162, HO.dK (kvE kS V.int r146.2.2.2.1)), (p163, HO.dK (kvE kS V.int r146.2.2.2.2.1))])))))))))) k172)) (d_lst a_nil (Nat.le_of_ble_eq_true rfl)) k174))) (fun hc => by rw [if_pos hc] at k176; exact (sm k176).symm))) (fun hc => by rw [if_pos hc] at k178; exact (sm k178).symm)) (fun hc F179 H180 g181 hS182 => ?_) (fun hc F197 H198 g199 hS200 => ?_)
        · rw [if_pos hc] at m83
          refine s_ret (K := K) (d := eB false) hS182 d_bl (fun v187 F183 H184 g185 hS186 hv188 => ?_)
          obtain rfl := sm m83
          have hr189 := hR80 _ rfl
          subst hr189
          have hS190 := Sta.perm hS186 (List.Perm.trans (List.perm_middle (l₁ := [(a148, HO.ins (He.ga K "Cart") dx159 [("rooms", (.ref p160)), ("gaps", (.ref p161)), ("most", (.int r146.2.2.1)), ("spots", (.ref p162)), ("homes", (.ref p163)), ("bay", (.int r146.2.2.2.2.2.1)), ("gone", (.int r146.2.2.2.2.2.2))]), (dx159, HO.own a148), (p160, HO.lst (r146.1.map V.int)), (p161, HO.lst (r146.2.1.map V.int)), (p162, HO.dK (kvE kS V.int r146.2.2.2.1))])) (List.Perm.trans (List.perm_middle (l₁ := [(p163, HO.dK (kvE kS V.int r146.2.2.2.2.1)), (a148, HO.ins (He.ga K "Cart") dx159 [("rooms", (.ref p160)), ("gaps", (.ref p161)), ("most", (.int r146.2.2.1)), ("spots", (.ref p162)), ("homes", (.ref p163)), ("bay", (.int r146.2.2.2.2.2.1)), ("gone", (.int r146.2.2.2.2.2.2))]), (dx159, HO.own a148), (p160, HO.lst (r146.1.map V.int)), (p161, HO.lst (r146.2.1.map V.int))])) (List.Perm.trans (List.perm_middle (l₁ := [(p162, HO.dK (kvE kS V.int r146.2.2.2.1)), (p163, HO.dK (kvE kS V.int r146.2.2.2.2.1)), (a148, HO.ins (He.ga K "Cart") dx159 [("rooms", (.ref p160)), ("gaps", (.ref p161)), ("most", (.int r146.2.2.1)), ("spots", (.ref p162)), ("homes", (.ref p163)), ("bay", (.int r146.2.2.2.2.2.1)), ("gone", (.int r146.2.2.2.2.2.2))]), (dx159, HO.own a148), (p160, HO.lst (r146.1.map V.int))])) (List.Perm.trans (List.perm_middle (l₁ := [(p161, HO.lst (r146.2.1.map V.int)), (p162, HO.dK (kvE kS V.int r146.2.2.2.1)), (p163, HO.dK (kvE kS V.int r146.2.2.2.2.1)), (a148, HO.ins (He.ga K "Cart") dx159 [("rooms", (.ref p160)), ("gaps", (.ref p161)), ("most", (.int r146.2.2.1)), ("spots", (.ref p162)), ("homes", (.ref p163)), ("bay", (.int r146.2.2.2.2.2.1)), ("gone", (.int r146.2.2.2.2.2.2))]), (dx159, HO.own a148)])) (List.Perm.trans (List.perm_middle (l₁ := [(p160, HO.lst (r146.1.map V.int)), (p161, HO.lst (r146.2.1.map V.int)), (p162, HO.dK (kvE kS V.int r146.2.2.2.1)), (p163, HO.dK (kvE kS V.int r146.2.2.2.2.1)), (a148, HO.ins (He.ga K "Cart") dx159 [("rooms", (.ref p160)), ("gaps", (.ref p161)), ("most", (.int r146.2.2.1)), ("spots", (.ref p162)), ("homes", (.ref p163)), ("bay", (.int r146.2.2.2.2.2.1)), ("gone", (.int r146.2.2.2.2.2.2))])])) (List.perm_middle (l₁ := [(dx159, HO.own a148), (p160, HO.lst (r146.1.map V.int)), (p161, HO.lst (r146.2.1.map V.int)), (p162, HO.dK (kvE kS V.int r146.2.2.2.1)), (p163, HO.dK (kvE kS V.int r146.2.2.2.2.1))])))))))
          have hS191 := sb_drop _ _ hS190
          have hS192 := sb_drop _ _ hS191
          have hS193 := sb_drop _ _ hS192
          have hS194 := sb_drop _ _ hS193
          have hS195 := sb_drop _ _ hS194
          have hS196 := sb_drop _ _ hS195
          obtain rfl := sm m
          exact q _ _ _ (Gr.tr g6 (Gr.tr g28 (Gr.tr g57 (Gr.tr g70 (Gr.tr g71 (Gr.tr g101 (Gr.tr g117 (Gr.tr g138 (Gr.tr g142 (Gr.tr g156 (Gr.tr g181 g185))))))))))) hS196 hv188
        · rw [if_neg (bf hc)] at m83
          refine nxt ?_
          have hS201 := Sta.perm hS200 (List.Perm.trans (List.perm_middle (l₁ := [(a148, HO.ins (He.ga K "Cart") dx159 [("rooms", (.ref p160)), ("gaps", (.ref p161)), ("most", (.int r146.2.2.1)), ("spots", (.ref p162)), ("homes", (.ref p163)), ("bay", (.int r146.2.2.2.2.2.1)), ("gone", (.int r146.2.2.2.2.2.2))]), (dx159, HO.own a148), (p160, HO.lst (r146.1.map V.int)), (p161, HO.lst (r146.2.1.map V.int)), (p162, HO.dK (kvE kS V.int r146.2.2.2.1))])) (List.Perm.trans (List.perm_middle (l₁ := [(p163, HO.dK (kvE kS V.int r146.2.2.2.2.1)), (a148, HO.ins (He.ga K "Cart") dx159 [("rooms", (.ref p160)), ("gaps", (.ref p161)), ("most", (.int r146.2.2.1)), ("spots", (.ref p162)), ("homes", (.ref p163)), ("bay", (.int r146.2.2.2.2.2.1)), ("gone", (.int r146.2.2.2.2.2.2))]), (dx159, HO.own a148), (p160, HO.lst (r146.1.map V.int)), (p161, HO.lst (r146.2.1.map V.int))])) (List.Perm.trans (List.perm_middle (l₁ := [(p162, HO.dK (kvE kS V.int r146.2.2.2.1)), (p163, HO.dK (kvE kS V.int r146.2.2.2.2.1)), (a148, HO.ins (He.ga K "Cart") dx159 [("rooms", (.ref p160)), ("gaps", (.ref p161)), ("most", (.int r146.2.2.1)), ("spots", (.ref p162)), ("homes", (.ref p163)), ("bay", (.int r146.2.2.2.2.2.1)), ("gone", (.int r146.2.2.2.2.2.2))]), (dx159, HO.own a148), (p160, HO.lst (r146.1.map V.int))])) (List.Perm.trans (List.perm_middle (l₁ := [(p161, HO.lst (r146.2.1.map V.int)), (p162, HO.dK (kvE kS V.int r146.2.2.2.1)), (p163, HO.dK (kvE kS V.int r146.2.2.2.2.1)), (a148, HO.ins (He.ga K "Cart") dx159 [("rooms", (.ref p160)), ("gaps", (.ref p161)), ("most", (.int r146.2.2.1)), ("spots", (.ref p162)), ("homes", (.ref p163)), ("bay", (.int r146.2.2.2.2.2.1)), ("gone", (.int r146.2.2.2.2.2.2))]), (dx159, HO.own a148)])) (List.Perm.trans (List.perm_middle (l₁ := [(p160, HO.lst (r146.1.map V.int)), (p161, HO.lst (r146.2.1.map V.int)), (p162, HO.dK (kvE kS V.int r146.2.2.2.1)), (p163, HO.dK (kvE kS V.int r146.2.2.2.2.1)), (a148, HO.ins (He.ga K "Cart") dx159 [("rooms", (.ref p160)), ("gaps", (.ref p161)), ("most", (.int r146.2.2.1)), ("spots", (.ref p162)), ("homes", (.ref p163)), ("bay", (.int r146.2.2.2.2.2.1)), ("gone", (.int r146.2.2.2.2.2.2))])])) (List.perm_middle (l₁ := [(dx159, HO.own a148), (p160, HO.lst (r146.1.map V.int)), (p161, HO.lst (r146.2.1.map V.int)), (p162, HO.dK (kvE kS V.int r146.2.2.2.1)), (p163, HO.dK (kvE kS V.int r146.2.2.2.2.1))])))))))
          have hS202 := sb_drop _ _ hS201
          have hS203 := sb_drop _ _ hS202
          have hS204 := sb_drop _ _ hS203
          have hS205 := sb_drop _ _ hS204
          have hS206 := sb_drop _ _ hS205
          have hS207 := sb_drop _ _ hS206
          obtain rfl := sm m83
          exact hN78 _ _ _ _ _ rfl (Gr.tr g101 (Gr.tr g117 (Gr.tr g138 (Gr.tr g142 (Gr.tr g156 g199))))) hS207 ⟨_, _, _, _, _, _, _, _, rfl, rfl⟩
theorem sc_law : FnScope N_law ["_law_script"] (defScope s_law) := ⟨rfl, rfl, rfl, by decide +kernel, rfl, by decide +kernel, by decide +kernel⟩
theorem ok_law {P : Program} {w : World} {K : PySem.W.Frag} {mg : Str → Option Value} {base : Heap} (hF : Df K mg "law" s_law) (m_isinstance : mg "isinstance" = none) (m_len : mg "len" = none) (m_max : mg "max" = none) (m_min : mg "min" = none) (m_range : mg "range" = none) (m_sorted : mg "sorted" = none) (m_str : mg "str" = none) (o_Cart_where : OkMe P w K mg base CX0 1 "Cart" "where" ["self"] (sp_Cart_where K)) (o_Cart_lying : OkMe P w K mg base CX0 3 "Cart" "lying" ["self", "bay"] (sp_Cart_lying K)) (o_Cart_holding : OkMe P w K mg base CX0 2 "Cart" "holding" ["self"] (sp_Cart_holding K)) (o_Cart_2 : OkMk P w K mg base CX0 6 "Cart" ["self", "store"] (sp_Cart_2 K)) (o_refused_D : Ok P w K mg base 8 "_law_refused" ["_law_thing"] (sp_refused_D K)) (o_spoilt : Ok P w K mg base 3 "_law_spoilt" ["_law_store_here", "_law_source_here"] (sp_spoilt K)) (o_source : Ok P w K mg base 1 "_law_source" ["_law_cell_here", "_law_k"] (sp_source K)) (o_cell : Ok P w K mg base 1 "_law_cell" ["_law_script", "_law_k"] (sp_cell K)) (o_sixty_one : Ok P w K mg base 1 "_law_sixty_one" [] (sp_sixty_one K)) (o_store : Ok P w K mg base 3 "_law_store" ["_law_script", "_law_base"] (sp_store K)) : Ok P w K mg base 9 "law" ["_law_script"] (sp_law K) := by
  obtain ⟨⟨_, G_Cart_where, bd_Cart_where⟩, cl_Cart_where, me_Cart_where⟩ := o_Cart_where
  obtain ⟨⟨_, G_Cart_lying, bd_Cart_lying⟩, cl_Cart_lying, me_Cart_lying⟩ := o_Cart_lying
  obtain ⟨⟨_, G_Cart_holding, bd_Cart_holding⟩, cl_Cart_holding, me_Cart_holding⟩ := o_Cart_holding
  obtain ⟨⟨_, G_Cart_2, bd_Cart_2⟩, gm_Cart_2, mk_Cart_2⟩ := o_Cart_2
  obtain ⟨⟨_, G_refused_D, bd_refused_D, _⟩, kp_refused_D, gm_refused_D⟩ := o_refused_D
  obtain ⟨⟨_, G_spoilt, bd_spoilt, _⟩, kp_spoilt, gm_spoilt⟩ := o_spoilt
  obtain ⟨⟨_, G_source, bd_source, _⟩, kp_source, gm_source⟩ := o_source
  obtain ⟨⟨_, G_cell, bd_cell, _⟩, kp_cell, gm_cell⟩ := o_cell
  obtain ⟨⟨_, G_sixty_one, bd_sixty_one, _⟩, kp_sixty_one, gm_sixty_one⟩ := o_sixty_one
  obtain ⟨⟨_, G_store, bd_store, _⟩, kp_store, gm_store⟩ := o_store
  obtain ⟨⟨fd, F⟩, gm⟩ := hF
  refine ⟨⟨fd, F.ok sc_law (fun vs H Q E h => ?_) (fun cdv A outer s H vs Q E hr h => ⟨t_law K, PSs.nox ?_, w_law vs H Q E h⟩), F.bindsN fun _ _ _ _ _ _ us hl => match us, hl with | [_], _ => rfl, lk_of F⟩, F.kp, gm⟩
  · obtain ⟨F0, cs, x, y, h, _⟩ := h; exact Dts.len h
  · exact (pss_cons (ps_set (i := 1) sc_law.nd rfl (Or.inl rfl) (pe_call G_store (hr.mono (by decide)) (by rfl) gm_store kp_store bd_store .nil pass0 (pa_cons (pv 0) (pa_cons pe_int pa_nil)))) (pss_cons (ps_if (pt_cmpR (op_neD hr.units) (pe_call G_refused_D (hr.mono (by decide)) (by rfl) gm_refused_D kp_refused_D bd_refused_D .nil pass0 (pa_cons (pe_call0 G_sixty_one (hr.mono (by decide)) (by rfl) gm_sixty_one kp_sixty_one bd_sixty_one .nil pass0) pa_nil)) pe_str (nomark _)) (pss_one (ps_ret pe_bl)) pss_nil) (pss_cons (ps_set (i := 2) sc_law.nd rfl (Or.inl rfl) (pe_callB cr_sortedS (by rfl) m_sorted (by decide +kernel) (pa_cons (pe_lc (own := [("_law_name_here", 8), ("_law_at", 9), ("_law_to", 10)]) (g := (gTup K 3 (gCons (gName 8) (gCons (gName 9) (gCons (gName 10) gNil))))) (tt := (tTest (tOp rEq (tVar 9) (tC (.int 0))))) (te := (tVar 8)) (by rfl) sc_law.nd (pi_list (pe_ix ix_tup (pv 1) pe_int (fun _ _ => rfl))) (blkOk_by (own := [("_law_name_here", 8), ("_law_at", 9), ("_law_to", 10)]) (N := N_law) (sc := defScope s_law) (by decide +kernel)) (fun _ _ _ _ _ => (pg_tup rfl (pgs_cons (pg_name (i := 8) sc_law.nd rfl (Or.inl rfl)) (pgs_cons (pg_name (i := 9) sc_law.nd rfl (Or.inl rfl)) (pgs_cons (pg_name (i := 10) sc_law.nd rfl (Or.inl rfl)) pgs_nil))))) (fun _ _ _ _ _ => (pts_one (pt_cmpR op_eq (pv 9) pe_int (nomark _)))) (fun _ _ _ _ _ => (pv 8))) pa_nil))) (pss_cons (ps_for PassesOwn.never rfl (pi_range2 (by rfl) m_range (pa_cons pe_int (pa_cons (pe_callB (cr_max2 rfl) (by rfl) m_max (by decide +kernel) (pa_cons pe_int (pa_cons (pe_callB (cr_min2 rfl) (by rfl) m_min (by decide +kernel) (pa_cons (pe_callB cr_lenL (by rfl) m_len PySem.boot_len (pa_cons (pv 0) pa_nil)) (pa_cons pe_int pa_nil))) pa_nil))) pa_nil))) (pg_name (i := 3) sc_law.nd rfl (Or.inl rfl)) (pss_cons (ps_asg (pe_call G_spoilt (hr.mono (by decide)) (by rfl) gm_spoilt kp_spoilt bd_spoilt .nil pass0 (pa_cons (pv 1) (pa_cons (pe_call G_source (hr.mono (by decide)) (by rfl) gm_source kp_source bd_source .nil pass0 (pa_cons (pe_call G_cell (hr.mono (by decide)) (by rfl) gm_cell kp_cell bd_cell .nil pass0 (pa_cons (pv 0) (pa_cons (pv 3) pa_nil))) (pa_cons (pv 3) pa_nil))) pa_nil))) (pg_tup rfl (pgs_cons (pg_name (i := 6) sc_law.nd rfl (Or.inl rfl)) (pgs_cons (pg_name (i := 7) sc_law.nd rfl (Or.inl rfl)) pgs_nil)))) (pss_cons (ps_set (i := 4) sc_law.nd rfl (Or.inl rfl) (pe_call G_refused_D (hr.mono (by decide)) (by rfl) gm_refused_D kp_refused_D bd_refused_D .nil pass0 (pa_cons (pv 6) pa_nil))) (pss_cons (ps_if (PW.pt (pw_or (pt_not (pt_val (pe_callB call_isi (by rfl) m_isinstance (by decide +kernel) (pa_cons (pv 4) (pa_cons (pe_bltn (v := .ty "str") (by rfl) m_str (by decide +kernel) rfl) pa_nil))))) (pw_or1 (pt_cmpR (op_neD hr.units) (pv 4) (pv 7) (nomark _))))) (pss_one (ps_ret pe_bl)) pss_nil) (pss_cons (ps_set (i := 5) sc_law.nd rfl (Or.inl rfl) (pe_make mk_Cart_2 G_Cart_2 (hr.mono (by decide)) (by rfl) gm_Cart_2 bd_Cart_2 .nil pass0 (pa_cons (pv 1) pa_nil))) (pss_one (ps_if (PW.pt (pw_or (pt_cmpR op_ne (pe_meth0 (pv 5) cl_Cart_where me_Cart_where G_Cart_where (hr.mono (by decide)) bd_Cart_where .nil pass0) pe_int (nomark _)) (pw_or (pt_cmpR (op_neD hr.units) (pe_meth (pv 5) cl_Cart_lying me_Cart_lying G_Cart_lying (hr.mono (by decide)) bd_Cart_lying .nil pass0 (pa_cons pe_int pa_nil)) (pv 2) (nomark _)) (pw_or1 (pt_cmpR (op_neD hr.units) (pe_meth0 (pv 5) cl_Cart_holding me_Cart_holding G_Cart_holding (hr.mono (by decide)) bd_Cart_holding .nil pass0) (pe_lst pa_nil) (nomark _)))))) (pss_one (ps_ret pe_bl)) pss_nil))))))) (pss_one (ps_ret pe_bl))))))
end Bw


namespace Bw
open PySem L2
theorem letM_eq {α β : Type} (x : α) (f : α → β) : letM x f = f x := Eq.trans rfl rfl
/-- step over a bind by the answer's equation (no unfolding left to the kernel) -/
theorem bo {α β : Type} {a : Option α} {x : α} (h : a = some x) (f : α → Option β) : a.bind f = f x := by subst h; rfl
/-! plain facts about what may fail -/
theorem atI_nn {α : Type} (xs : List α) (i : Nat) (h : i < xs.length) : atI xs (i : Int) = some xs[i] := by
  unfold atI ixN
  have h0 : (0 : Int) ≤ (i : Int) := by omega
  have h1 : (i : Int) < (xs.length : Int) := by omega
  rw [if_pos h0, if_pos h1]
  show xs[(i : Int).toNat]? = _
  rw [Int.toNat_natCast]
  exact List.getElem?_eq_getElem h
theorem atI_int {α : Type} (xs : List α) (i : Int) (h0 : 0 ≤ i) (h : i < xs.length) : ∃ x, atI xs i = some x ∧ xs[i.toNat]? = some x := by
  obtain ⟨n, rfl⟩ : ∃ n : Nat, i = n := ⟨i.toNat, by omega⟩
  have hn : n < xs.length := by omega
  refine ⟨xs[n], atI_nn xs n hn, ?_⟩
  rw [Int.toNat_natCast]
  exact List.getElem?_eq_getElem hn
theorem atI_mem {α : Type} {xs : List α} {i : Int} {x : α} (h : atI xs i = some x) : x ∈ xs := by
  unfold atI at h
  cases e : ixN xs.length i with
  | none => rw [e] at h; cases h
  | some j => rw [e] at h; exact List.mem_of_getElem? h
theorem appM_ok {α : Type} {xs : List α} {x : α} (h : xs.length < 100000) : appM xs x = some (xs ++ [x]) := by unfold appM; rw [if_pos h]
theorem catM_ok {α : Type} {xs ys : List α} (h : xs.length + ys.length ≤ 100000) : catM xs ys = some (xs ++ ys) := by unfold catM; rw [if_pos h]
theorem flat_one {α : Type} (x : α) : ∀ n : Nat, (List.replicate n [x]).flatten = List.replicate n x
  | 0 => rfl
  | n + 1 => by rw [List.replicate_succ, List.flatten_cons, flat_one x n]; rfl
theorem repM_one {α : Type} {x : α} {k : Int} (h0 : -(2 ^ 63) ≤ k) (h : k ≤ 100000) : repM [x] k = some (List.replicate k.toNat x) := by
  unfold repM
  rw [if_pos ⟨h0, by omega, by simp only [List.length_singleton]; omega⟩, flat_one]
theorem mulM_ok {a b : Int} (h1 : -(2 ^ 64) < a) (h2 : a < 2 ^ 64) : mulM a b = some (a * b) := by unfold mulM; rw [if_pos (.inl ⟨h1, h2⟩)]
theorem modM_ok {a b : Int} (h : 0 < b) : modM a b = some (a % b) := by unfold modM; rw [if_pos h]
theorem fdivM_ok {a b : Int} (h : 0 < b) (h2 : b < 1073741824) : fdivM a b = some (a / b) := by unfold fdivM; rw [if_pos ⟨h, h2⟩]
theorem rngM_ok {a b : Int} (h1 : -100000 ≤ a) (h2 : a ≤ 100000) (h3 : -100000 ≤ b) (h4 : b ≤ 100000) : rngM a b = some (rngL a b) := by unfold rngM; rw [if_pos ⟨by omega, by omega, by omega, by omega⟩]
theorem mapC_ok {α β : Type} {f : α → β} {xs : List α} (h : xs.length ≤ 100000) : mapC f xs = some (xs.map f) := by unfold mapC; rw [if_pos h]
theorem filC_ok {α β : Type} {p : α → Bool} {f : α → β} {xs : List α} (h : xs.length ≤ 100000) : filC p f xs = some ((xs.filter p).map f) := by unfold filC; rw [if_pos h]
theorem lcC_ok {α β : Type} {f : α → Option (Option β)} {xs : List α} (h : xs.length ≤ 100000) : lcC f xs = lcM f xs := by unfold lcC; rw [if_pos h]
theorem lcM_all {α β : Type} {f : α → Option (Option β)} {g : α → β} : ∀ {xs : List α}, (∀ x ∈ xs, f x = some (some (g x))) → lcM f xs = some (xs.map g)
  | [], _ => rfl
  | x :: xs, h => by
    show (f x).bind _ = _
    rw [h x List.mem_cons_self, lcM_all fun y hy => h y (List.mem_cons_of_mem _ hy)]
    rfl
theorem lcM_fil {α β : Type} {f : α → Option (Option β)} {p : α → Bool} {g : α → β} : ∀ {xs : List α}, (∀ x ∈ xs, f x = some (if p x = true then some (g x) else none)) → lcM f xs = some ((xs.filter p).map g)
  | [], _ => rfl
  | x :: xs, h => by
    show (f x).bind _ = _
    rw [h x List.mem_cons_self, lcM_fil fun y hy => h y (List.mem_cons_of_mem _ hy), List.filter_cons]
    cases p x <;> rfl
/-- a loop whose every turn goes on keeps what it keeps -/
theorem foldlM_inv {α S : Type} {body : S → α → Option S} (J : Nat → S → Prop) : ∀ (xs : List α) (i : Nat) (s : S), J i s → (∀ (k : Nat) (x : α) (s : S), xs[k]? = some x → J (i + k) s → ∃ t, body s x = some t ∧ J (i + k + 1) t) → ∃ r, xs.foldlM body s = some r ∧ J (i + xs.length) r
  | [], i, s, h, _ => ⟨s, rfl, h⟩
  | x :: xs, i, s, h, hb => by
    obtain ⟨t, h1, h2⟩ := hb 0 x s rfl h
    obtain ⟨r, h3, h4⟩ := foldlM_inv J xs (i + 1) t h2 fun k y u hy hu => by
      have e : i + 1 + k = i + (k + 1) := by omega
      rw [e] at hu ⊢
      exact hb (k + 1) y u (by simpa using hy) hu
    refine ⟨r, ?_, ?_⟩
    · rw [List.foldlM_cons, h1]; exact h3
    · have e : i + (x :: xs).length = i + 1 + xs.length := by rw [List.length_cons]; omega
      rw [e]; exact h4
theorem forF_nx {α S R : Type} {body : S → α → Option (Fl S R)} (J : S → Prop) : ∀ (xs : List α) (s : S), J s → (∀ x ∈ xs, ∀ s, J s → ∃ t, body s x = some (.nx t) ∧ J t) → ∃ r, forF body xs s = some (.nx r) ∧ J r
  | [], s, h, _ => ⟨s, rfl, h⟩
  | x :: xs, s, h, hb => by
    obtain ⟨t, h1, h2⟩ := hb x List.mem_cons_self s h
    obtain ⟨r, h3, h4⟩ := forF_nx J xs t h2 fun y hy => hb y (List.mem_cons_of_mem _ hy)
    refine ⟨r, ?_, h4⟩
    show (body s x).bind _ = _
    rw [h1]; exact h3
theorem enumM_get {α : Type} {xs : List α} {k : Nat} {p : Int × α} (h : (enumM xs)[k]? = some p) : ∃ x, xs[k]? = some x ∧ p = ((k : Int), x) := by
  unfold enumM at h
  rw [List.getElem?_mapIdx] at h
  cases e : xs[k]? with
  | none => rw [e] at h; cases h
  | some x => rw [e] at h; cases h; exact ⟨x, rfl, rfl⟩
theorem enumM_len {α : Type} (xs : List α) : (enumM xs).length = xs.length := by simp [enumM]
theorem rngL_len (a b : Int) : (rngL a b).length = (b - a).toNat := by simp [rngL]
theorem rngL_get {a b : Int} {k : Nat} {x : Int} (h : (rngL a b)[k]? = some x) : x = a + (k : Int) ∧ k < (b - a).toNat := by
  unfold rngL at h
  rw [List.getElem?_map] at h
  cases e : (List.range (b - a).toNat)[k]? with
  | none => rw [e] at h; cases h
  | some j =>
    rw [e] at h
    obtain ⟨h1, h2⟩ := List.getElem?_eq_some_iff.mp e
    rw [List.getElem_range] at h2
    cases h
    subst h2
    exact ⟨rfl, by simpa using h1⟩
/-- each thing below its size -/
inductive Bel : List Int → List Int → Prop
  | nil : Bel [] []
  | cons {x s : Int} {xs ss : List Int} : 0 ≤ x → x < s → Bel xs ss → Bel (x :: xs) (s :: ss)
theorem Bel.len : ∀ {xs ss : List Int}, Bel xs ss → xs.length = ss.length
  | _, _, .nil => rfl
  | _, _, .cons _ _ h => by rw [List.length_cons, List.length_cons, h.len]
theorem Bel.snoc : ∀ {xs ss : List Int} {x s : Int}, Bel xs ss → 0 ≤ x → x < s → Bel (xs ++ [x]) (ss ++ [s])
  | _, _, _, _, .nil, h1, h2 => .cons h1 h2 .nil
  | _, _, _, _, .cons a b h, h1, h2 => .cons a b (h.snoc h1 h2)
theorem Bel.get : ∀ {xs ss : List Int} {k : Nat} {s : Int}, Bel xs ss → ss[k]? = some s → ∃ x, xs[k]? = some x ∧ 0 ≤ x ∧ x < s
  | _, _, _, _, .nil, e => by simp at e
  | _, _, 0, _, .cons a b h, e => by simp at e; subst e; exact ⟨_, rfl, a, b⟩
  | _, _, k + 1, s, .cons a b h, e => by
    obtain ⟨x, h1, h2⟩ := h.get (k := k) (s := s) (by simpa using e)
    exact ⟨x, by simpa using h1, h2⟩
theorem Bel.at {xs ss : List Int} {k : Nat} {s : Int} (h : Bel xs ss) (e : ss[k]? = some s) : ∃ x, atI xs (k : Int) = some x ∧ 0 ≤ x ∧ x < s := by
  obtain ⟨x, h1, h2, h3⟩ := h.get e
  obtain ⟨hk, h4⟩ := List.getElem?_eq_some_iff.mp h1
  exact ⟨x, by rw [atI_nn xs k hk, h4], h2, h3⟩
theorem Bel.rep : ∀ {xs : List Int} {n : Nat} {s : Int}, Bel xs (List.replicate n s) → xs.length = n ∧ ∀ x ∈ xs, 0 ≤ x ∧ x < s
  | _, 0, _, h => by cases h; exact ⟨rfl, fun x hx => by cases hx⟩
  | _, n + 1, s, h => by
    rw [List.replicate_succ] at h
    cases h with
    | cons a b h =>
      obtain ⟨h1, h2⟩ := h.rep
      refine ⟨by rw [List.length_cons, h1], fun x hx => ?_⟩
      rcases List.mem_cons.mp hx with rfl | hx
      · exact ⟨a, b⟩
      · exact h2 x hx
theorem absI_nn (c : Int) : 0 ≤ absI c := by unfold absI; split <;> omega
end Bw

namespace Bw
open PySem L2
/-! what is told, and what is true of it -/
def Rt {α : Type} (o : Option α) (P : α → Prop) : Prop := ∃ x, o = some x ∧ P x
theorem Rt.mono {α : Type} {o : Option α} {P Q : α → Prop} (h : Rt o P) (k : ∀ x, P x → Q x) : Rt o Q := let ⟨x, h1, h2⟩ := h; ⟨x, h1, k x h2⟩
theorem Rt.mo {α : Type} {o : Option α} {P Q : α → Prop} (h : Rt o P) (k : ∀ x, o = some x → P x → Q x) : Rt o Q := let ⟨x, h1, h2⟩ := h; ⟨x, h1, k x h1 h2⟩
theorem Rt.eq {α : Type} {o : Option α} {y : α} (h : Rt o fun x => x = y) : o = some y := let ⟨x, h1, h2⟩ := h; h2 ▸ h1
theorem rt_of {α : Type} {o : Option α} {x : α} {P : α → Prop} (h : o = some x) (p : P x) : Rt o P := ⟨x, h, p⟩
theorem rt_some {α : Type} {x : α} {P : α → Prop} : Rt (some x) P ↔ P x := ⟨fun ⟨y, h1, h2⟩ => (Option.some.inj h1) ▸ h2, fun h => ⟨x, rfl, h⟩⟩
theorem rt_bind {α β : Type} {a : Option α} {f : α → Option β} {P : β → Prop} : Rt (a.bind f) P ↔ Rt a fun x => Rt (f x) P := by
  constructor
  · rintro ⟨y, h1, h2⟩
    obtain ⟨x, h3, h4⟩ := bnd h1
    exact ⟨x, h3, y, h4, h2⟩
  · rintro ⟨x, h3, y, h4, h2⟩
    exact ⟨y, by rw [h3]; exact h4, h2⟩
theorem rt_let {α β : Type} {x : α} {f : α → Option β} {P : β → Prop} : Rt (letM x f) P ↔ Rt (f x) P := Iff.rfl
theorem rt_ite {α : Type} {c : Prop} [Decidable c] {a b : Option α} {P : α → Prop} : Rt (if c then a else b) P ↔ (c → Rt a P) ∧ (¬ c → Rt b P) := by
  by_cases h : c
  · rw [if_pos h]; exact ⟨fun k => ⟨fun _ => k, fun z => absurd h z⟩, fun k => k.1 h⟩
  · rw [if_neg h]; exact ⟨fun k => ⟨fun z => absurd z h, fun _ => k⟩, fun k => k.2 h⟩
theorem rt_pos {α : Type} {c : Prop} [Decidable c] {a b : Option α} {P : α → Prop} (h : c) (k : Rt a P) : Rt (if c then a else b) P := by rw [if_pos h]; exact k
theorem rt_neg {α : Type} {c : Prop} [Decidable c] {a b : Option α} {P : α → Prop} (h : ¬ c) (k : Rt b P) : Rt (if c then a else b) P := by rw [if_neg h]; exact k
theorem rt_if {α : Type} {c : Prop} [Decidable c] {x : α} {P : Prop} [Decidable P] {Q : α → Prop} {o : Prop} (h : o) : o := h
theorem rt_g {α : Type} {p : Prop} [Decidable p] {x : α} {P : α → Prop} : Rt (if p then some x else none) P ↔ p ∧ P x := by
  by_cases h : p
  · rw [if_pos h, rt_some]; exact ⟨fun k => ⟨h, k⟩, fun k => k.2⟩
  · rw [if_neg h]; exact ⟨fun ⟨_, z, _⟩ => (nomatch z), fun k => absurd k.1 h⟩
theorem rt_app {α : Type} {xs : List α} {x : α} {P : List α → Prop} : Rt (appM xs x) P ↔ xs.length < 100000 ∧ P (xs ++ [x]) := by unfold appM; exact rt_g
theorem rt_cat {α : Type} {xs ys : List α} {P : List α → Prop} : Rt (catM xs ys) P ↔ xs.length + ys.length ≤ 100000 ∧ P (xs ++ ys) := by unfold catM; exact rt_g
theorem rt_mul {a b : Int} {P : Int → Prop} : Rt (mulM a b) P ↔ ((-(2 ^ 64) < a ∧ a < 2 ^ 64) ∨ (-(2 ^ 64) < b ∧ b < 2 ^ 64)) ∧ P (a * b) := by unfold mulM; exact rt_g
theorem rt_mod {a b : Int} {P : Int → Prop} : Rt (modM a b) P ↔ 0 < b ∧ P (a % b) := by unfold modM; exact rt_g
theorem rt_fdiv {a b : Int} {P : Int → Prop} : Rt (fdivM a b) P ↔ (0 < b ∧ b < 1073741824) ∧ P (a / b) := by unfold fdivM; exact rt_g
theorem rt_rng {a b : Int} {P : List Int → Prop} : Rt (rngM a b) P ↔ (-(2 ^ 62) ≤ a ∧ a < 2 ^ 62 ∧ -(2 ^ 62) ≤ b ∧ b < 2 ^ 62) ∧ P (rngL a b) := by unfold rngM; exact rt_g
theorem rt_scat {x y : Str} {P : Str → Prop} : Rt (scatM x y) P ↔ x.length + y.length ≤ 100000 ∧ P (x ++ y) := by unfold scatM; exact rt_g
theorem rt_lenS {x : Str} {P : Int → Prop} : Rt (lenS x) P ↔ x.length ≤ 100000 ∧ P (x.length : Int) := by unfold lenS; exact rt_g
theorem rt_str {x : Int} {P : Str → Prop} : Rt (strM x) P ↔ x.natAbs.log2 < 1920 ∧ P (toString x) := by unfold strM; exact rt_g
theorem rt_join {x : Str} {xs : List Str} {P : Str → Prop} : Rt (joinM x xs) P ↔ ((xs.map (·.length)).sum + x.length * xs.length) ≤ 100000 ∧ P (Txt.join x xs) := by unfold joinM; exact rt_g
theorem rt_mapC {α β : Type} {f : α → β} {xs : List α} {P : List β → Prop} : Rt (mapC f xs) P ↔ xs.length ≤ 100000 ∧ P (xs.map f) := by unfold mapC; exact rt_g
theorem rt_filC {α β : Type} {p : α → Bool} {f : α → β} {xs : List α} {P : List β → Prop} : Rt (filC p f xs) P ↔ xs.length ≤ 100000 ∧ P ((xs.filter p).map f) := by unfold filC; exact rt_g
theorem rt_lcC {α β : Type} {f : α → Option (Option β)} {xs : List α} {P : List β → Prop} : Rt (lcC f xs) P ↔ xs.length ≤ 100000 ∧ Rt (lcM f xs) P := by
  unfold lcC
  by_cases h : xs.length ≤ 100000
  · rw [if_pos h]; exact ⟨fun k => ⟨h, k⟩, fun k => k.2⟩
  · rw [if_neg h]; exact ⟨fun ⟨_, z, _⟩ => (nomatch z), fun k => absurd k.1 h⟩
theorem rt_rep {α : Type} {xs : List α} {k : Int} {P : List α → Prop} : Rt (repM xs k) P ↔ (-(2 ^ 63) ≤ k ∧ k < 2 ^ 63 ∧ xs.length * k.toNat ≤ 100000) ∧ P (List.replicate k.toNat xs).flatten := by unfold repM; exact rt_g
theorem rt_at {α : Type} {xs : List α} {i : Int} {P : α → Prop} (h0 : 0 ≤ i) (h : i < xs.length) (k : ∀ x, xs[i.toNat]? = some x → P x) : Rt (atI xs i) P := by
  obtain ⟨x, h1, h2⟩ := atI_int xs i h0 h
  exact ⟨x, h1, k x h2⟩
theorem rt_lc {α β : Type} {f : α → Option (Option β)} {R : α → β → Prop} : ∀ {xs : List α} {P : List β → Prop}, (∀ x ∈ xs, Rt (f x) fun o => ∃ y, o = some y ∧ R x y) → (∀ ys : List β, ys.length = xs.length → (∀ (i : Nat) x y, xs[i]? = some x → ys[i]? = some y → R x y) → P ys) → Rt (lcM f xs) P
  | [], P, _, k => ⟨[], rfl, k [] rfl fun i x y h => by simp at h⟩
  | x :: xs, P, h, k => by
    obtain ⟨o, h1, y, rfl, h2⟩ := h x List.mem_cons_self
    obtain ⟨ys, h3, h4, h5⟩ := rt_lc (xs := xs) (P := fun ys => ys.length = xs.length ∧ ∀ (i : Nat) x y, xs[i]? = some x → ys[i]? = some y → R x y) (fun z hz => h z (List.mem_cons_of_mem _ hz)) fun ys a b => ⟨a, b⟩
    refine ⟨y :: ys, ?_, k _ (by simp [h4]) fun i x' y' hx hy => ?_⟩
    · show (f x).bind _ = _
      rw [h1]
      show (lcM f xs).bind _ = _
      rw [h3]; rfl
    · cases i with
      | zero => simp at hx hy; subst hx; subst hy; exact h2
      | succ i => exact h5 i x' y' (by simpa using hx) (by simpa using hy)
/-- a loop by what it keeps: the turns so far -/
theorem rt_fold {α S : Type} {body : S → α → Option S} {xs : List α} {s : S} {P : S → Prop} (J : Nat → S → Prop) (h0 : J 0 s) (hb : ∀ (k : Nat) x s, xs[k]? = some x → J k s → Rt (body s x) (J (k + 1))) (hd : ∀ s, J xs.length s → P s) : Rt (xs.foldlM body s) P := by
  obtain ⟨r, h1, h2⟩ := foldlM_inv (body := body) J xs 0 s h0 fun k x t hx ht => by
    rw [Nat.zero_add] at ht ⊢
    exact hb k x t hx ht
  exact ⟨r, h1, hd r (by rwa [Nat.zero_add] at h2)⟩
/-- a loop that goes through -/
theorem rt_for {α S R : Type} {body : S → α → Option (Fl S R)} {xs : List α} {s : S} {P : Fl S R → Prop} (J : S → Prop) (h0 : J s) (hb : ∀ x ∈ xs, ∀ s, J s → Rt (body s x) fun f => ∃ t, f = .nx t ∧ J t) (hd : ∀ s, J s → P (.nx s)) : Rt (forF body xs s) P := by
  obtain ⟨r, h1, h2⟩ := forF_nx (body := body) J xs s h0 fun x hx t ht => by
    obtain ⟨f, h1, u, rfl, h2⟩ := hb x hx t ht
    exact ⟨u, h1, h2⟩
  exact ⟨_, h1, hd r h2⟩
end Bw

namespace Bw
open PySem L2 TL
/-! good stores -/
abbrev Bx := Str × Int × Int
abbrev Sto := List Int × List Int × Int × List Bx
theorem popM_ok {α : Type} {xs : List α} (i : Nat) (h : i < xs.length) (hl : xs.length < 1000000) : popM xs (i : Int) = some (xs[i], xs.eraseIdx i) := by
  unfold popM
  rw [if_pos ⟨by omega, by omega⟩]
  have e : seqIndex? (i : Int) xs.length = some i := by
    unfold seqIndex?
    have h0 : ¬ ((i : Int) < 0) := by omega
    simp only [if_neg h0, Int.toNat_natCast]
    rw [if_pos]
    simp; omega
  rw [bo e, List.getElem?_eq_getElem h]
  rfl
theorem erase_perm {α : Type} : ∀ (xs : List α) (i : Nat) (h : i < xs.length), xs.Perm (xs[i] :: xs.eraseIdx i)
  | x :: xs, 0, _ => .refl _
  | x :: xs, i + 1, h => by
    have h' : i < xs.length := by simpa using h
    exact ((erase_perm xs i h').cons x).trans (.swap _ _ _)
theorem remM_ok {xs : List Int} {x : Int} (h : x ∈ xs) : remM xs x = some (xs.erase x) := by
  unfold remM inL
  rw [if_pos]
  exact List.any_eq_true.mpr ⟨x, h, by simp⟩
theorem fold_arr (c : Nat) : ∀ (n : Nat) (a : Array Nat), ((List.replicate n #[c]).foldl (· ++ ·) a).toList = a.toList ++ List.replicate n c
  | 0, a => by simp
  | n + 1, a => by
    rw [List.replicate_succ, List.foldl_cons, fold_arr c n, List.replicate_succ]
    simp
theorem tl_mul1 (x : Str) (c : Nat) (hx : tl x = [c]) (n : Int) : tl (Txt.mul x n) = List.replicate n.toNat c := by
  have e : x = ⟨#[c]⟩ := ext_tl hx
  subst e
  unfold Txt.mul
  split
  · rename_i h
    have : n.toNat = 0 := by omega
    rw [this]; rfl
  · split
    · rename_i h1 h2
      simp [Str.length] at h2
      subst h2
      rfl
    · show ((List.replicate n.toNat #[c]).foldl (· ++ ·) #[]).toList = _
      rw [fold_arr]; rfl
theorem srepM_ok (x : Str) (c : Nat) (hx : tl x = [c]) (n : Int) (h0 : 0 ≤ n) (h : n ≤ 100) : srepM x n = some ⟨(List.replicate n.toNat c).toArray⟩ := by
  unfold srepM
  have hl : x.length = 1 := by rw [len_tl, hx]; rfl
  rw [if_pos ⟨by omega, by omega, by rw [hl]; omega⟩]
  exact congrArg some (ext_tl (by rw [tl_mul1 x c hx]))
theorem scatM_ok (x y : Str) (h : (tl x).length + (tl y).length ≤ 100000) : scatM x y = some ⟨(tl x ++ tl y).toArray⟩ := by
  unfold scatM
  rw [len_tl, len_tl, if_pos h]
  exact congrArg some (ext_tl (by rw [tl_append]))
abbrev abc : Str := "abcdefghijklmnopqrstuvwxyz"
theorem abc_ix : ∀ i : Fin 26, ixS abc ((i.val : Nat) : Int) = some ⟨#[97 + i.val]⟩ := by decide +kernel
theorem abc_at (i : Int) (h0 : 0 ≤ i) (h : i < 26) : ixS abc i = some ⟨#[97 + i.toNat]⟩ := by
  have := abc_ix ⟨i.toNat, by omega⟩
  simp only at this
  rw [← this]
  congr 1
  omega
def NmOk (s : Str) : Prop := 1 ≤ (tl s).length ∧ (tl s).length ≤ 8 ∧ ∀ c ∈ tl s, 97 ≤ c ∧ c ≤ 122
structure BxOk (rooms : List Int) (bs : List Bx) : Prop where
  len : bs.length ≤ 60
  nm : ∀ x ∈ bs, NmOk x.1
  nd : (bs.map (·.1)).Nodup
  ba : ∀ x ∈ bs, 0 ≤ x.2.1 ∧ x.2.1 < rooms.length
  bt : ∀ x ∈ bs, 0 ≤ x.2.2 ∧ x.2.2 < rooms.length
  ra : ∀ (b : Nat) (r : Int), rooms[b]? = some r → (bs.countP fun x => decide (x.2.1 = (b : Int))) ≤ r.toNat
  rt : ∀ (b : Nat) (r : Int), rooms[b]? = some r → (bs.countP fun x => decide (x.2.2 = (b : Int))) ≤ r.toNat
structure SOk (s : Sto) : Prop where
  n2 : 2 ≤ s.1.length
  n16 : s.1.length ≤ 16
  rm : ∀ r ∈ s.1, 1 ≤ r ∧ r ≤ 40
  gl : s.2.1.length + 1 = s.1.length
  gm : ∀ g ∈ s.2.1, 1 ≤ g ∧ g ≤ 1000000000
  mo : 1 ≤ s.2.2.1 ∧ s.2.2.1 ≤ 20
  bx : BxOk s.1 s.2.2.2
/-! equal to its copy -/
def Shp (n : Nat) (d : PyData) : Prop := d.canLay0 = true ∧ d.depth ≤ n
theorem Shp.mono {n m : Nat} {d : PyData} (h : Shp n d) (hm : n ≤ m) : Shp m d := ⟨h.1, Nat.le_trans h.2 hm⟩
theorem shp_int (i : Int) : Shp 0 (.int i) := ⟨rfl, Nat.le_refl _⟩
theorem shp_all {n : Nat} : ∀ {xs : List PyData}, (∀ x ∈ xs, Shp n x) → PyData.canLayAll0 xs = true ∧ PyData.depthAll xs ≤ n
  | [], _ => ⟨rfl, Nat.zero_le _⟩
  | x :: xs, h => by
    obtain ⟨a, b⟩ := shp_all fun y hy => h y (List.mem_cons_of_mem _ hy)
    obtain ⟨c, d⟩ := h x List.mem_cons_self
    unfold PyData.canLayAll0 PyData.depthAll
    rw [a, c]
    exact ⟨rfl, Nat.max_le.mpr ⟨d, b⟩⟩
theorem shp_list {n : Nat} {xs : List PyData} (h : ∀ x ∈ xs, Shp n x) : Shp (n + 1) (.list xs) := by
  obtain ⟨a, b⟩ := shp_all h
  exact ⟨by unfold PyData.canLay0; exact a, by unfold PyData.depth; omega⟩
theorem shp_tup {n : Nat} {xs : List PyData} (h : ∀ x ∈ xs, Shp n x) : Shp (n + 1) (.tuple xs) := by
  obtain ⟨a, b⟩ := shp_all h
  exact ⟨by unfold PyData.canLay0; exact a, by unfold PyData.depth; omega⟩
theorem shp_str {s : Str} (h : ∀ c ∈ tl s, c < 0x110000) : Shp 0 (.str s) := by
  refine ⟨?_, Nat.le_refl _⟩
  unfold PyData.canLay0 PyData.strOk
  rw [Array.all_eq_true']
  intro c hc
  exact decide_eq_true (h c (Array.mem_def.mp hc))
theorem shp_ints (xs : List Int) : Shp 1 (eL eI xs) := shp_list fun x hx => by
  obtain ⟨i, _, rfl⟩ := List.mem_map.mp hx
  exact shp_int i
theorem shp_box {x : Bx} (h : NmOk x.1) : Shp 1 (eT3 eS eI eI x) := shp_tup fun y hy => by
  have hs : Shp 0 (eS x.1) := shp_str fun c hc => by have := h.2.2 c hc; omega
  simp only [List.mem_cons, List.not_mem_nil, or_false] at hy
  rcases hy with rfl | rfl | rfl
  · exact hs
  · exact shp_int _
  · exact shp_int _
theorem shp_boxes {bs : List Bx} (h : ∀ x ∈ bs, NmOk x.1) : Shp 2 (eL (eT3 eS eI eI) bs) := shp_list fun x hx => by
  obtain ⟨y, hy, rfl⟩ := List.mem_map.mp hx
  exact shp_box (h y hy)
theorem shp_store {s : Sto} (h : SOk s) : Shp 3 (eT4 (eL eI) (eL eI) eI (eL (eT3 eS eI eI)) s) := shp_tup fun y hy => by
  simp only [List.mem_cons, List.not_mem_nil, or_false] at hy
  rcases hy with rfl | rfl | rfl | rfl
  · exact (shp_ints _).mono (by decide)
  · exact (shp_ints _).mono (by decide)
  · exact (shp_int _).mono (by decide)
  · exact shp_boxes h.bx.nm
theorem Shp.ok {n : Nat} {d : PyData} (h : Shp n d) (hn : n ≤ 64) : SeqAt.shaped d = true := by
  unfold SeqAt.shaped
  rw [h.1, decide_eq_true (Nat.le_trans h.2 hn)]; rfl
theorem eqT_self {α : Type} [DecidableEq α] {e : α → PyData} {x : α} {n : Nat} (h : Shp n (e x)) (hn : n ≤ 64) : eqTM e x x = some true := by
  unfold eqTM
  rw [if_pos ⟨h.ok hn, h.ok hn⟩, decide_eq_true rfl]
theorem setM_ok {α : Type} {xs : List α} {i : Int} (x : α) (h0 : 0 ≤ i) (h : i < xs.length) : setM xs i x = some (xs.set i.toNat x) := by
  unfold setM ixN
  rw [if_pos h0, if_pos h]
  rfl
theorem cut_take {α : Type} (xs : List α) (i : Int) (h0 : 0 ≤ i) : cutL xs none (some i) = xs.take i.toNat := by
  obtain ⟨k, rfl⟩ : ∃ k : Nat, i = k := ⟨i.toNat, by omega⟩
  unfold cutL
  rw [HT.sIx_none, HT.sIx_nat, Int.toNat_natCast, List.drop_zero, Nat.sub_zero]
  by_cases h : k ≤ xs.length
  · rw [Nat.min_eq_left h]
  · rw [Nat.min_eq_right (by omega), List.take_of_length_le (Nat.le_refl _), List.take_of_length_le (by omega)]
theorem bx_take {rooms : List Int} {bs : List Bx} (h : BxOk rooms bs) (n : Nat) : BxOk rooms (bs.take n) := by
  have sub := List.take_sublist n bs
  refine ⟨Nat.le_trans sub.length_le h.len, fun x hx => h.nm x (sub.mem hx), h.nd.sublist (sub.map _), fun x hx => h.ba x (sub.mem hx), fun x hx => h.bt x (sub.mem hx), fun b r e => Nat.le_trans (sub.countP_le) (h.ra b r e), fun b r e => Nat.le_trans (sub.countP_le) (h.rt b r e)⟩
theorem bx_room {rooms rooms' : List Int} {bs : List Bx} (h : BxOk rooms bs) (hl : rooms'.length = rooms.length) (hg : ∀ (b : Nat) (r' : Int), rooms'[b]? = some r' → ∃ r, rooms[b]? = some r ∧ r ≤ r') : BxOk rooms' bs := by
  refine ⟨h.len, h.nm, h.nd, by rw [hl]; exact h.ba, by rw [hl]; exact h.bt, fun b r' e => ?_, fun b r' e => ?_⟩
  · obtain ⟨r, e1, e2⟩ := hg b r' e
    have := h.ra b r e1; omega
  · obtain ⟨r, e1, e2⟩ := hg b r' e
    have := h.rt b r e1; omega
end Bw

namespace Bw
open PySem L2 TL
/-! a good store is looked at and nothing is said -/
theorem whole_ok (x : Int) : f_is_whole x = some true := rfl
theorem within_eq (x a b : Int) : f_is_within (x, a, b) = some (decide (a ≤ x) && decide (x ≤ b)) := by
  unfold f_is_within
  dsimp only
  rw [bo (whole_ok x), Bool.true_and]
theorem within_ok {x a b : Int} (h1 : a ≤ x) (h2 : x ≤ b) : f_is_within (x, a, b) = some true := by rw [within_eq, decide_eq_true h1, decide_eq_true h2]; rfl
theorem all_id : ∀ {α : Type} (xs : List α), (xs.map fun _ => true).all id = true
  | _, [] => rfl
  | _, _ :: xs => by rw [List.map_cons, List.all_cons, all_id xs]; rfl
theorem inS_abc {c : Nat} (h1 : 97 ≤ c) (h2 : c ≤ 122) : inS ⟨#[c]⟩ "abcdefghijklmnopqrstuvwxyz" = true := by
  have h : ∀ i : Fin 26, 97 + i.val ∈ tl ("abcdefghijklmnopqrstuvwxyz" : Str) := by decide +kernel
  unfold inS
  rw [PySem.StrLaws.found_one, decide_eq_true_eq]
  have := h ⟨c - 97, by omega⟩
  have e : 97 + (c - 97) = c := by omega
  simpa [e] using this
theorem is_name_ok {s : Str} (h : NmOk s) : f_is_name s = some true := by
  obtain ⟨h1, h2, h3⟩ := h
  unfold f_is_name
  have hl : lenS s = some ((tl s).length : Int) := by unfold lenS; rw [len_tl, if_pos (by omega)]
  have e : mapC (fun sign_20 => inS sign_20 ("abcdefghijklmnopqrstuvwxyz" : Str)) (signs s) = some ((signs s).map fun _ => true) := by
    rw [mapC_ok (by simp [signs]; have := len_tl s; simp [tl, Str.length] at *; omega)]
    refine congrArg some (List.map_congr_left fun x hx => ?_)
    obtain ⟨c, hc, rfl⟩ := List.mem_map.mp hx
    exact inS_abc (h3 c hc).1 (h3 c hc).2
  rw [if_neg (by decide), bo hl]
  have g : (!(decide ((1 : Int) ≤ ((tl s).length : Int)) && decide (((tl s).length : Int) ≤ 8))) = false := by
    rw [decide_eq_true (by omega), decide_eq_true (by omega)]; rfl
  rw [g, bo rfl, if_neg (by decide), bo e, all_id]
end Bw

namespace Bw
open PySem L2 TL
/-! a good store is looked at and nothing is said -/
theorem are_within_ok {xs : List Int} {a b : Int} (hl : xs.length ≤ 1000) (h : ∀ x ∈ xs, a ≤ x ∧ x ≤ b) : f_are_within (xs, a, b) = some true := by
  unfold f_are_within
  dsimp only
  have e : lcC (fun one_4 => (f_is_within (one_4, a, b)).bind fun x15 => some (some x15)) xs = some (xs.map fun _ => true) := by
    rw [lcC_ok (by omega)]
    exact lcM_all fun x hx => by rw [bo (within_ok (h x hx).1 (h x hx).2)]
  rw [if_pos rfl, bo e, all_id, bo rfl]
theorem is_box_ok {x : Bx} {n : Int} (h : NmOk x.1) (ha : 0 ≤ x.2.1 ∧ x.2.1 < n) (ht : 0 ≤ x.2.2 ∧ x.2.2 < n) : f_is_box (x, n) = some true := by
  unfold f_is_box
  dsimp only
  rw [if_neg (by decide), if_neg (by decide), bo (is_name_ok h)]
  rw [show ((some (!true)).bind fun x5 => some x5) = some false from rfl, bo rfl, if_neg (by decide), bo (within_ok ha.1 (by omega)), if_pos rfl, bo (within_ok ht.1 (by omega)), bo rfl]
theorem dups_nodup : ∀ (xs acc : List Str), (∀ x ∈ xs, x ∉ acc) → xs.Nodup → (dups acc xs).length = acc.length + xs.length
  | [], acc, _, _ => rfl
  | x :: xs, acc, h, hn => by
    have h1 : acc.any (· == x) = false := by
      rw [List.any_eq_false]
      intro y hy e
      have : y = x := by simpa using e
      exact h x List.mem_cons_self (this ▸ hy)
    unfold dups
    rw [h1]
    obtain ⟨n1, n2⟩ := List.nodup_cons.mp hn
    show (dups (acc ++ [x]) xs).length = _
    rw [dups_nodup xs (acc ++ [x]) (fun y hy hm => by
      rcases List.mem_append.mp hm with hm | hm
      · exact h y (List.mem_cons_of_mem _ hy) hm
      · have := List.mem_singleton.mp hm; subst this; exact n1 hy) n2]
    simp only [List.length_append, List.length_cons, List.length_nil]
    omega
theorem names_twice_ok {bs : List Bx} (hl : bs.length ≤ 60) (hn : (bs.map (·.1)).Nodup) : f_has_names_twice bs = some false := by
  unfold f_has_names_twice
  have e : setLenM (bs.map fun b => b.1) = some (bs.length : Int) := by
    unfold setLenM
    rw [if_pos (by rw [List.length_map]; omega), dups_nodup _ _ (fun _ _ h => by cases h) hn, List.length_map, List.length_nil, Nat.zero_add]
  rw [bo (mapC_ok (by omega)), bo e, decide_eq_true rfl]
  rfl
theorem eqD_int (a b : Int) : eqDM (.int a) (.int b) = some (decide (a = b)) := by
  unfold eqDM
  rw [if_pos ⟨rfl, rfl⟩]
  refine congrArg some ?_
  show (a == b) = decide (a = b)
  rfl
theorem has_room_ok {rooms : List Int} {bs : List Bx} {place : Int} {g : Bx → Int} (hl : bs.length ≤ 60) (hg : ∀ x : Bx, atI [eS x.1, eI x.2.1, eI x.2.2] place = some (eI (g x))) (h : ∀ (b : Nat) (r : Int), rooms[b]? = some r → 0 ≤ r ∧ (bs.countP fun x => decide (g x = (b : Int))) ≤ r.toNat) : f_has_room (rooms, bs, place) = some true := by
  unfold f_has_room
  dsimp only
  obtain ⟨r, e, _⟩ := forF_nx (body := f_has_room_b4 bs place) (fun _ => True) (enumM rooms) () trivial (by
    intro x hx s _
    obtain ⟨k, hk⟩ := List.mem_iff_getElem?.mp hx
    obtain ⟨room, hr, rfl⟩ := enumM_get hk
    obtain ⟨h0, h1⟩ := h k room hr
    unfold f_has_room_b4
    dsimp only
    have e : lcC (fun (box_35 : Bx) => (((atI [eS box_35.1, eI box_35.2.1, eI box_35.2.2] place)).bind fun x46 => ((eqDM x46 (eI (k : Int)))).bind fun x48 => if (x48) = true then (some (some box_35)) else some none)) bs = some ((bs.filter fun x => decide (g x = (k : Int))).map fun x => x) := by
      rw [lcC_ok (by omega)]
      refine lcM_fil fun x hx => ?_
      rw [bo (hg x), bo (eqD_int _ _)]
      split <;> rfl
    rw [bo e, if_neg]
    · exact ⟨(), rfl, trivial⟩
    · rw [List.map_id', ← List.countP_eq_length_filter, decide_eq_true_eq]
      omega)
  rw [bo e]
theorem are_boxes_ok {rooms : List Int} {bs : List Bx} (hr : ∀ r ∈ rooms, 1 ≤ r ∧ r ≤ 40) (h : BxOk rooms bs) : f_are_boxes (rooms, bs) = some true := by
  unfold f_are_boxes
  dsimp only
  have hl := h.len
  have e : lcC (fun (one_17 : Bx) => (((f_is_box (one_17, (rooms.length : Int)))).bind fun x28 => some (some x28))) bs = some (bs.map fun _ => true) := by
    rw [lcC_ok (by omega)]
    exact lcM_all fun x hx => by rw [bo (is_box_ok (h.nm x hx) (h.ba x hx) (h.bt x hx))]
  have g1 : ((!true) || decide ((60 : Int) < (bs.length : Int))) = false := by rw [decide_eq_false (by omega)]; rfl
  have pos : ∀ (b : Nat) (r : Int), rooms[b]? = some r → 0 ≤ r := fun b r e => by have := hr r (List.mem_of_getElem? e); omega
  rw [g1, if_neg (by decide), bo e, all_id, if_neg (by decide), bo (names_twice_ok hl h.nd), bo rfl, if_neg (by decide)]
  rw [bo (has_room_ok (g := fun x => x.2.1) hl (fun _ => rfl) fun b r e => ⟨pos b r e, h.ra b r e⟩), if_pos rfl, bo (has_room_ok (g := fun x => x.2.2) hl (fun _ => rfl) fun b r e => ⟨pos b r e, h.rt b r e⟩), bo rfl]
end Bw

namespace Bw
open PySem L2 TL
theorem look_ok {s : Sto} (h : SOk s) : f_look_at_store s = some (.ok ()) := by
  obtain ⟨rooms, gaps, most, bs⟩ := s
  obtain ⟨h1, h2, h3, h4, h5, h6, h7⟩ := h
  dsimp only at h1 h2 h3 h4 h5 h6 h7
  unfold f_look_at_store
  dsimp only
  rw [if_neg (by decide)]
  simp only [letM_eq]
  rw [bo (are_within_ok (by omega) h3)]
  rw [show ((!true) || !(decide ((2 : Int) ≤ (rooms.length : Int)) && decide ((rooms.length : Int) ≤ 16))) = false by rw [decide_eq_true (by omega), decide_eq_true (by omega)]; rfl]
  rw [if_neg (by decide), bo (are_within_ok (by omega) h5)]
  rw [show ((!true) || !decide ((gaps.length : Int) = (rooms.length : Int) - 1)) = false by rw [decide_eq_true (by omega)]; rfl]
  rw [if_neg (by decide), bo (within_ok h6.1 h6.2), if_neg (by decide), bo (are_boxes_ok h3 h7), if_neg (by decide)]
end Bw

namespace Bw
open PySem L2 TL
theorem cell_ok (s : List Int) (k : Int) (h : 0 ≤ k) : ∃ c, f_cell (s, k) = some c := by
  unfold f_cell
  dsimp only
  by_cases q : k < (s.length : Int)
  · rw [if_pos (decide_eq_true q)]
    obtain ⟨x, h1, _⟩ := atI_int s k h q
    rw [h1]
    exact ⟨x, rfl⟩
  · rw [if_neg (by simpa using q)]
    exact ⟨0, rfl⟩
end Bw

namespace Bw
open PySem L2 TL
/-! the law's draws from a source -/
def Src2 (s : List Int) : Prop := ∃ a b : Int, s = [a, b] ∧ 0 ≤ b ∧ b < 2147483647
theorem source_ok (c k : Int) : ∃ s, f_source (c, k) = some s ∧ Src2 s := by
  unfold f_source
  dsimp only
  rw [letM_eq, letM_eq]
  have hb : -(2 ^ 64) < b2I (decide ((1000000000000000000 : Int) ≤ absI c)) ∧ b2I (decide ((1000000000000000000 : Int) ≤ absI c)) < 2 ^ 64 := by unfold b2I; split <;> omega
  have e : mulM (absI c) (b2I (decide ((1000000000000000000 : Int) ≤ absI c))) = some (absI c * b2I (decide ((1000000000000000000 : Int) ≤ absI c))) := by
    unfold mulM; rw [if_pos (.inr hb)]
  rw [bo e]
  exact ⟨_, rfl, _, _, rfl, Int.emod_nonneg _ (by decide), Int.emod_lt_of_pos _ (by decide)⟩
theorem at0 (a b : Int) : atI [a, b] 0 = some a := rfl
theorem at1 (a b : Int) : atI [a, b] 1 = some b := rfl
theorem set0 (a b x : Int) : setM [a, b] 0 x = some [x, b] := rfl
theorem set1 (a b x : Int) : setM [a, b] 1 x = some [a, x] := rfl
theorem draw_ok {s : List Int} (h : Src2 s) (m : Int) (hm : 0 < m) (hm2 : m < 1073741824) : ∃ x s', f_draw (s, m) = some (x, s') ∧ 0 ≤ x ∧ x < m ∧ Src2 s' := by
  obtain ⟨a, b, rfl, hb, hb2⟩ := h
  unfold f_draw
  dsimp only
  rw [bo (at0 a b)]
  by_cases q : (0 : Int) < a
  · rw [if_pos (decide_eq_true q), bo (at0 a b), bo (modM_ok hm), bo (at0 a b), bo (fdivM_ok hm hm2), bo (set0 a b _)]
    exact ⟨_, _, rfl, Int.emod_nonneg _ (by omega), Int.emod_lt_of_pos _ hm, _, _, rfl, hb, hb2⟩
  · rw [if_neg (by simpa using q), bo (at1 a b), bo (set1 a b _), bo (at1 a _), bo (at1 a _)]
    have h1 := Int.emod_nonneg (b * 48271 + 11) (show (2147483647 : Int) ≠ 0 by decide)
    have h2 := Int.emod_lt_of_pos (b * 48271 + 11) (show (0 : Int) < 2147483647 by decide)
    generalize (b * 48271 + 11) % 2147483647 = c at h1 h2 ⊢
    rw [bo (mulM_ok (by omega) (by omega)), bo (modM_ok hm)]
    exact ⟨_, _, rfl, Int.emod_nonneg _ (by omega), Int.emod_lt_of_pos _ hm, _, _, rfl, h1, h2⟩
/-- a list of draws, each one more -/
theorem draws_lc (m : Int) (hm : 0 < m) (hm2 : m < 1073741824) : ∀ (xs : List Int) (s : List Int), Src2 s → ∃ s' ys, lcS (fun (z : List Int) (_ : Int) => (f_draw (z, m)).bind fun (x, z') => some (z', some (1 + x))) s xs = some (s', ys) ∧ Src2 s' ∧ ys.length = xs.length ∧ ∀ y ∈ ys, 1 ≤ y ∧ y ≤ m
  | [], s, h => ⟨s, [], rfl, h, rfl, fun y hy => by cases hy⟩
  | x :: xs, s, h => by
    obtain ⟨d, s1, e1, d0, d1, h1⟩ := draw_ok h m hm hm2
    obtain ⟨s2, ys, e2, h2, l2, b2⟩ := draws_lc m hm hm2 xs s1 h1
    refine ⟨s2, (1 + d) :: ys, ?_, h2, by rw [List.length_cons, List.length_cons, l2], fun y hy => ?_⟩
    · unfold lcS
      rw [bo e1]
      dsimp only
      rw [bo rfl]
      dsimp only
      rw [bo e2]
    · rcases List.mem_cons.mp hy with rfl | hy
      · omega
      · exact b2 y hy
theorem draws_lcC (m : Int) (hm : 0 < m) (hm2 : m < 1073741824) (xs s : List Int) (h : Src2 s) (hl : xs.length ≤ 1000) : ∃ s' ys, lcSC (fun (z : List Int) (_ : Int) => (f_draw (z, m)).bind fun (x, z') => some (z', some (1 + x))) s xs = some (s', ys) ∧ Src2 s' ∧ ys.length = xs.length ∧ ∀ y ∈ ys, 1 ≤ y ∧ y ≤ m := by
  obtain ⟨s', ys, e, r⟩ := draws_lc m hm hm2 xs s h
  exact ⟨s', ys, by unfold lcSC; rw [if_pos (by omega)]; exact e, r⟩
end Bw

namespace Bw
open PySem L2 TL
/-! the second family's names: front, letter, letter, tail -/
def nq (s k : Int) : List Nat :=
  if s / 26 % 4 = 0 ∧ k < 26 then [97 + ((s + 7 * k) % 26).toNat]
  else if s / 26 % 4 = 1 then (if k % 3 = 0 then [97 + ((s + 7 * (k / 3)) % 26).toNat] else if k % 3 = 1 then [113, 97 + ((s + 7 * (k / 3)) % 26).toNat] else [97 + ((s + 7 * (k / 3)) % 26).toNat, 110, 113])
  else List.replicate (s / 104 % 4).toNat 110 ++ ([97 + (k / 26).toNat, 97 + ((s + 7 * k) % 26).toNat] ++ List.replicate (s / 416 * (k + 1) % 4).toNat 113)
theorem t_q : tl ("q" : Str) = [113] := by decide
theorem t_nq : tl ("nq" : Str) = [110, 113] := by decide
theorem at3_0 {α : Type} (a b c : α) : atI [a, b, c] 0 = some a := rfl
theorem at3_1 {α : Type} (a b c : α) : atI [a, b, c] 1 = some b := rfl
theorem at3_2 {α : Type} (a b c : α) : atI [a, b, c] 2 = some c := rfl
theorem name_ok (s k : Int) (hs : 0 ≤ s) (hs2 : s < 1664) (hk : 0 ≤ k) (hk2 : k < 60) : ∃ x, f_name (s, k) = some x ∧ tl x = nq s k := by
  have i1 : 0 ≤ (s + 7 * k) % 26 ∧ (s + 7 * k) % 26 < 26 := by omega
  have i2 : 0 ≤ (s + 7 * (k / 3)) % 26 ∧ (s + 7 * (k / 3)) % 26 < 26 := by omega
  have i3 : 0 ≤ k / 26 ∧ k / 26 < 26 := by omega
  unfold f_name nq
  dsimp only
  rw [letM_eq, bo (abc_at _ i1.1 i1.2)]
  by_cases c1 : s / 26 % 4 = 0 ∧ k < 26
  · rw [if_pos (by simpa using c1), if_pos c1]
    exact ⟨_, rfl, rfl⟩
  · rw [if_neg (by simpa using c1), if_neg c1]
    by_cases c2 : s / 26 % 4 = 1
    · rw [if_pos (decide_eq_true c2), if_pos c2, bo (abc_at _ i2.1 i2.2), bo (scatM_ok _ _ (by rw [t_q]; simp [tl])), bo (scatM_ok _ _ (by rw [t_nq]; simp [tl])), t_q, t_nq]
      have h3 : k % 3 = 0 ∨ k % 3 = 1 ∨ k % 3 = 2 := by omega
      rcases h3 with h | h | h
      · rw [h, if_pos rfl, bo (at3_0 _ _ _)]; exact ⟨_, rfl, rfl⟩
      · rw [h, if_neg (by decide), if_pos rfl, bo (at3_1 _ _ _)]; exact ⟨_, rfl, rfl⟩
      · rw [h, if_neg (by decide), if_neg (by decide), bo (at3_2 _ _ _)]; exact ⟨_, rfl, rfl⟩
    · rw [if_neg (by simpa using c2), if_neg c2]
      have j1 : 0 ≤ s / 104 % 4 ∧ s / 104 % 4 < 4 := by omega
      have j2 : -(2 ^ 64) < s / 416 ∧ s / 416 < 2 ^ 64 := by omega
      have j3 : 0 ≤ s / 416 * (k + 1) % 4 ∧ s / 416 * (k + 1) % 4 < 4 := ⟨Int.emod_nonneg _ (by decide), Int.emod_lt_of_pos _ (by decide)⟩
      rw [bo (srepM_ok "n" 110 (by decide) _ j1.1 (by omega)), bo (abc_at _ i3.1 i3.2), bo (scatM_ok _ _ (by simp [tl]; omega)), bo (scatM_ok _ _ (by simp [tl]; omega)), bo (mulM_ok j2.1 j2.2), bo (srepM_ok "q" 113 (by decide) _ j3.1 (by omega)), bo (scatM_ok _ _ (by simp [tl]; omega))]
      refine ⟨_, rfl, ?_⟩
      simp [tl]
theorem nq_ok (s k : Int) (hs : 0 ≤ s) (hs2 : s < 1664) (hk : 0 ≤ k) (hk2 : k < 60) : 1 ≤ (nq s k).length ∧ (nq s k).length ≤ 8 ∧ ∀ c ∈ nq s k, 97 ≤ c ∧ c ≤ 122 := by
  have j3 : 0 ≤ s / 416 * (k + 1) % 4 ∧ s / 416 * (k + 1) % 4 < 4 := ⟨Int.emod_nonneg _ (by decide), Int.emod_lt_of_pos _ (by decide)⟩
  unfold nq
  split
  · refine ⟨by simp, by simp, fun c hc => ?_⟩
    simp only [List.mem_cons, List.not_mem_nil, or_false] at hc; omega
  · split
    · split
      · refine ⟨by simp, by simp, fun c hc => ?_⟩
        simp only [List.mem_cons, List.not_mem_nil, or_false] at hc; omega
      · split
        · refine ⟨by simp, by simp, fun c hc => ?_⟩
          simp only [List.mem_cons, List.not_mem_nil, or_false] at hc; omega
        · refine ⟨by simp, by simp, fun c hc => ?_⟩
          simp only [List.mem_cons, List.not_mem_nil, or_false] at hc; omega
    · refine ⟨by simp; omega, by simp; omega, fun c hc => ?_⟩
      simp only [List.mem_append, List.mem_replicate, List.mem_cons, List.not_mem_nil, or_false] at hc; omega
theorem nq_ne (s i j : Int) (hi : 0 ≤ i) (hij : i < j) (hj : j < 60) : nq s i ≠ nq s j := by
  have j3 : ∀ k : Int, 0 ≤ s / 416 * (k + 1) % 4 ∧ s / 416 * (k + 1) % 4 < 4 := fun k => ⟨Int.emod_nonneg _ (by decide), Int.emod_lt_of_pos _ (by decide)⟩
  intro e
  by_cases c2 : s / 26 % 4 = 1
  · have n0 : ∀ k : Int, ¬ (s / 26 % 4 = 0 ∧ k < 26) := fun k h => by omega
    have el := congrArg List.length e
    unfold nq at e el
    rw [if_neg (n0 i), if_neg (n0 j), if_pos c2] at e el
    rw [if_pos c2] at e el
    have h3 : ∀ k : Int, k % 3 = 0 ∨ k % 3 = 1 ∨ k % 3 = 2 := fun k => by omega
    rcases h3 i with a | a | a <;> rcases h3 j with b | b | b <;> simp [a, b] at e el <;> omega
  · by_cases ci : s / 26 % 4 = 0 ∧ i < 26
    · by_cases cj : s / 26 % 4 = 0 ∧ j < 26
      · unfold nq at e
        rw [if_pos ci, if_pos cj] at e
        simp at e
        omega
      · have el := congrArg List.length e
        unfold nq at el
        rw [if_pos ci, if_neg cj, if_neg c2] at el
        simp at el
        omega
    · have cj : ¬ (s / 26 % 4 = 0 ∧ j < 26) := fun h => ci ⟨h.1, by omega⟩
      unfold nq at e
      rw [if_neg ci, if_neg c2, if_neg cj, if_neg c2] at e
      have e2 := List.append_cancel_left e
      simp only [List.cons_append, List.nil_append, List.cons.injEq] at e2
      omega
/-! what is left of a list of rooms -/
def Lf (rooms left : List Int) (bs : List Bx) (g : Bx → Int) : Prop := left.length = rooms.length ∧ ∀ (b : Nat) (r : Int), rooms[b]? = some r → ∃ l, left[b]? = some l ∧ 0 ≤ l ∧ l + ((bs.countP fun x => decide (g x = (b : Int)) : Nat) : Int) = r
theorem filt_idx (xs : List Int) (hl : xs.length ≤ 1000) : ∃ ys : List Int, lcC (fun bay : Int => ((atI xs bay).bind fun v => if decide ((0 : Int) < v) = true then some (some bay) else some none)) (rngL 0 xs.length) = some ys ∧ (∀ y ∈ ys, ∃ (n : Nat) (v : Int), y = n ∧ xs[n]? = some v ∧ 0 < v) ∧ (ys = [] → ∀ (n : Nat) (v : Int), xs[n]? = some v → v ≤ 0) ∧ ys.length ≤ xs.length := by
  rw [lcC_ok (by rw [rngL_len]; omega)]
  have e := lcM_fil (f := fun bay : Int => ((atI xs bay).bind fun v => if decide ((0 : Int) < v) = true then some (some bay) else some none)) (p := fun b => decide (0 < xs.getD b.toNat 0)) (g := fun b => b) (xs := rngL 0 xs.length) (by
    intro x hx
    obtain ⟨k, hk⟩ := List.mem_iff_getElem?.mp hx
    obtain ⟨h1, h2⟩ := rngL_get hk
    have hk2 : k < xs.length := by omega
    have hx : x = (k : Int) := by omega
    subst hx
    rw [bo (atI_nn xs k hk2)]
    have : xs.getD (k : Int).toNat 0 = xs[k] := by rw [Int.toNat_natCast, List.getD_eq_getElem?_getD, List.getElem?_eq_getElem hk2]; rfl
    rw [this]
    split <;> rfl)
  refine ⟨_, e, fun y hy => ?_, fun hn n v hv => ?_, ?_⟩
  · rw [List.map_id'] at hy
    obtain ⟨hy, hp⟩ := List.mem_filter.mp hy
    obtain ⟨k, hk⟩ := List.mem_iff_getElem?.mp hy
    obtain ⟨h1, h2⟩ := rngL_get hk
    have hk2 : k < xs.length := by omega
    have hx : y = (k : Int) := by omega
    subst hx
    refine ⟨k, xs[k], rfl, List.getElem?_eq_getElem hk2, ?_⟩
    have : xs.getD (k : Int).toNat 0 = xs[k] := by rw [Int.toNat_natCast, List.getD_eq_getElem?_getD, List.getElem?_eq_getElem hk2]; rfl
    rw [this] at hp
    exact of_decide_eq_true hp
  · rw [List.map_id'] at hn
    by_cases q : v ≤ 0
    · exact q
    · exfalso
      have hn2 := (List.getElem?_eq_some_iff.mp hv).1
      have hm : (n : Int) ∈ rngL 0 xs.length := by
        unfold rngL
        exact List.mem_map.mpr ⟨n, List.mem_range.mpr (by omega), by omega⟩
      have : (n : Int) ∈ (rngL 0 xs.length).filter fun b => decide (0 < xs.getD b.toNat 0) := by
        refine List.mem_filter.mpr ⟨hm, decide_eq_true ?_⟩
        rw [Int.toNat_natCast, List.getD_eq_getElem?_getD, hv]
        show 0 < v
        omega
      rw [hn] at this
      cases this
  · rw [List.map_id']
    refine Nat.le_trans (List.length_filter_le _ _) ?_
    rw [rngL_len]; omega
theorem sum_set (xs : List Int) (n : Nat) (v w : Int) (h : xs[n]? = some v) : (xs.set n w).sum = xs.sum - v + w := by
  induction xs generalizing n with
  | nil => cases h
  | cons x xs ih =>
    cases n with
    | zero => cases h; simp; omega
    | succ n => simp at h ⊢; rw [ih n h]; omega
theorem sum_nonpos (xs : List Int) (h : ∀ (n : Nat) (v : Int), xs[n]? = some v → v ≤ 0) : xs.sum ≤ 0 := by
  induction xs with
  | nil => simp
  | cons x xs ih =>
    have h0 := h 0 x rfl
    have := ih fun n v e => h (n + 1) v (by simpa using e)
    simp; omega
theorem sum_pos (xs : List Int) (h : ∀ v ∈ xs, 0 ≤ v) (n : Nat) (v : Int) (e : xs[n]? = some v) (hv : 0 < v) : 0 < xs.sum := by
  induction xs generalizing n with
  | nil => cases e
  | cons x xs ih =>
    have h1 : 0 ≤ xs.sum := by
      clear ih e
      have : ∀ ys : List Int, (∀ v ∈ ys, 0 ≤ v) → 0 ≤ ys.sum := by
        intro ys
        induction ys with
        | nil => intro _; simp
        | cons y ys ih2 => intro h; have := h y (by simp); have := ih2 fun v hv => h v (by simp [hv]); simp; omega
      exact this xs fun v hv => h v (by simp [hv])
    cases n with
    | zero => cases e; simp; omega
    | succ n =>
      have := ih (fun v hv => h v (by simp [hv])) n (by simpa using e)
      have := h x (by simp)
      simp; omega
end Bw

namespace Bw
open PySem L2 TL
theorem Lf.step {rooms left : List Int} {bs : List Bx} {g : Bx → Int} (h : Lf rooms left bs g) {n : Nat} {v : Int} (hv : left[n]? = some v) (hp : 0 < v) (x : Bx) (hx : g x = (n : Int)) : Lf rooms (left.set n (v - 1)) (bs ++ [x]) g := by
  refine ⟨by rw [List.length_set]; exact h.1, fun b r hr => ?_⟩
  obtain ⟨l, h1, h2, h3⟩ := h.2 b r hr
  rw [List.countP_append, List.countP_singleton, hx]
  by_cases e : n = b
  · subst e
    rw [hv] at h1
    cases h1
    have hn := (List.getElem?_eq_some_iff.mp hv).1
    refine ⟨v - 1, by rw [List.getElem?_set_self hn], by omega, ?_⟩
    rw [if_pos (by simp)]
    omega
  · refine ⟨l, by rw [List.getElem?_set_ne e]; exact h1, h2, ?_⟩
    rw [if_neg (by simp; omega)]
    omega
theorem Lf.nn {rooms left : List Int} {bs : List Bx} {g : Bx → Int} (h : Lf rooms left bs g) : ∀ v ∈ left, 0 ≤ v := fun v hv => by
  obtain ⟨n, hn⟩ := List.mem_iff_getElem?.mp hv
  have hl := (List.getElem?_eq_some_iff.mp hn).1
  rw [h.1] at hl
  obtain ⟨l, h1, h2, _⟩ := h.2 n rooms[n] (List.getElem?_eq_getElem hl)
  rw [hn] at h1; cases h1; exact h2
structure BK (rooms here there : List Int) (bs : List Bx) (salt : Int) (k : Nat) : Prop where
  ha : Lf rooms here bs (fun x => x.2.1)
  ht : Lf rooms there bs (fun x => x.2.2)
  sm : here.sum = there.sum
  bl : bs.length ≤ k
  bn : ∀ x ∈ bs, ∃ i : Nat, i < k ∧ tl x.1 = nq salt (i : Int)
  nd : (bs.map (·.1)).Nodup
  ba : ∀ x ∈ bs, 0 ≤ x.2.1 ∧ x.2.1 < rooms.length
  bt : ∀ x ∈ bs, 0 ≤ x.2.2 ∧ x.2.2 < rooms.length
theorem setM_nn {xs : List Int} (n : Nat) (x : Int) (h : n < xs.length) : setM xs (n : Int) x = some (xs.set n x) := by
  rw [setM_ok x (by omega) (by omega), Int.toNat_natCast]
theorem box_ok {rooms here there : List Int} {bs : List Bx} {salt : Int} {k : Nat} (J : BK rooms here there bs salt k) (hr : rooms.length ≤ 16) (hs : 0 ≤ salt) (hs2 : salt < 1664) (hk : k < 60) {src : List Int} (hS : Src2 src) :
    ∃ b' s' h' t', f_box (src, salt, (k : Int), here, there) = some (b', s', h', t') ∧ b'.length ≤ 1 ∧ BK rooms h' t' (bs ++ b') salt (k + 1) ∧ Src2 s' := by
  have l1 := J.ha.1
  have l2 := J.ht.1
  obtain ⟨fs, ef, f1, f2, f3⟩ := filt_idx here (by omega)
  obtain ⟨ls, el, g1, g2, g3⟩ := filt_idx there (by omega)
  unfold f_box
  dsimp only
  rw [bo (rngM_ok (by omega) (by omega) (by omega) (by omega)), bo ef, bo (rngM_ok (by omega) (by omega) (by omega) (by omega)), bo el]
  by_cases q : fs = []
  · rw [if_pos (decide_eq_true q)]
    refine ⟨_, _, _, _, rfl, by simp, ?_⟩
    rw [List.append_nil]
    exact ⟨⟨J.ha, J.ht, J.sm, by have := J.bl; omega, fun x hx => by obtain ⟨i, h1, h2⟩ := J.bn x hx; exact ⟨i, by omega, h2⟩, J.nd, J.ba, J.bt⟩, hS⟩
  · rw [if_neg (by simpa using q)]
    have fl : 0 < fs.length := List.length_pos_iff.mpr q
    have sp : 0 < here.sum := by
      obtain ⟨n, v, _, h2, h3⟩ := f1 fs[0] (List.getElem_mem fl)
      exact sum_pos here J.ha.nn n v h2 h3
    have ll : 0 < ls.length := by
      refine List.length_pos_iff.mpr fun e => ?_
      have := sum_nonpos there (g2 e)
      have := J.sm
      omega
    obtain ⟨x1, s1, e1, a1, b1, S1⟩ := draw_ok hS (fs.length : Int) (by omega) (by omega)
    obtain ⟨i1, rfl⟩ : ∃ i : Nat, x1 = i := ⟨x1.toNat, by omega⟩
    have hi1 : i1 < fs.length := by omega
    obtain ⟨n, v, en, hn, hv⟩ := f1 fs[i1] (List.getElem_mem hi1)
    obtain ⟨x2, s2, e2, a2, b2, S2⟩ := draw_ok S1 (ls.length : Int) (by omega) (by omega)
    obtain ⟨i2, rfl⟩ : ∃ i : Nat, x2 = i := ⟨x2.toNat, by omega⟩
    have hi2 : i2 < ls.length := by omega
    obtain ⟨n2, v2, en2, hn2, hv2⟩ := g1 ls[i2] (List.getElem_mem hi2)
    obtain ⟨x3, s3, e3, a3, b3, S3⟩ := draw_ok S2 4 (by omega) (by omega)
    have hnl := (List.getElem?_eq_some_iff.mp hn).1
    have hnl2 := (List.getElem?_eq_some_iff.mp hn2).1
    have hnt : n < there.length := by omega
    obtain ⟨nm, enm, tnm⟩ := name_ok salt (k : Int) hs hs2 (by omega) (by omega)
    rw [bo e1]
    dsimp only
    rw [bo (atI_nn fs i1 hi1), bo e2]
    dsimp only
    rw [bo (atI_nn ls i2 hi2), bo e3]
    dsimp only
    rw [en, en2]
    have hat : atI here (n : Int) = some v := by rw [atI_nn here n hnl]; exact congrArg some (List.getElem?_eq_some_iff.mp hn).2
    have htt : ∃ (m : Nat) (w : Int), ((if decide (x3 = 1) = true then (atI there (n : Int)).bind fun x96 => some (decide (0 < x96)) else some false).bind fun x98 => if x98 = true then some (n : Int) else some (n2 : Int)) = some (m : Int) ∧ there[m]? = some w ∧ 0 < w := by
      by_cases q3 : x3 = 1
      · rw [if_pos (decide_eq_true q3), bo (atI_nn there n hnt), bo rfl]
        by_cases q4 : 0 < there[n]
        · rw [if_pos (decide_eq_true q4)]
          exact ⟨n, there[n], rfl, List.getElem?_eq_getElem hnt, q4⟩
        · rw [if_neg (by simpa using q4)]
          exact ⟨n2, v2, rfl, hn2, hv2⟩
      · rw [if_neg (by simpa using q3), bo rfl, if_neg (by decide)]
        exact ⟨n2, v2, rfl, hn2, hv2⟩
    obtain ⟨m, w, em, hm, hw⟩ := htt
    have asc : ∀ (A : Option Bool) (f : Int → Option (List Bx × List Int × List Int × List Int)), (A.bind fun x98 => (if x98 = true then some (n : Int) else some (n2 : Int)).bind f) = (A.bind fun x98 => if x98 = true then some (n : Int) else some (n2 : Int)).bind f := by
      intro A f; cases A <;> rfl
    rw [asc, bo em]
    have hml := (List.getElem?_eq_some_iff.mp hm).1
    have hmt : atI there (m : Int) = some w := by rw [atI_nn there m hml]; exact congrArg some (List.getElem?_eq_some_iff.mp hm).2
    rw [bo hat, bo (setM_nn n _ hnl), bo hmt, bo (setM_nn m _ hml), bo enm]
    refine ⟨_, _, _, _, rfl, by simp, ?_⟩
    refine ⟨⟨J.ha.step hn hv _ rfl, J.ht.step hm hw _ rfl, ?_, ?_, ?_, ?_, ?_, ?_⟩, S3⟩
    · rw [sum_set here n v _ hn, sum_set there m w _ hm]; have := J.sm; omega
    · rw [List.length_append]; have := J.bl; simp; omega
    · intro x hx
      rcases List.mem_append.mp hx with hx | hx
      · obtain ⟨i, h1, h2⟩ := J.bn x hx; exact ⟨i, by omega, h2⟩
      · rw [List.mem_singleton.mp hx]; exact ⟨k, by omega, tnm⟩
    · rw [List.map_append, List.nodup_append]
      refine ⟨J.nd, by simp, fun a ha b hb => ?_⟩
      simp only [List.map_cons, List.map_nil, List.mem_singleton] at hb
      subst hb
      obtain ⟨x, hx, rfl⟩ := List.mem_map.mp ha
      obtain ⟨i, h1, h2⟩ := J.bn x hx
      intro e
      rw [e, tnm] at h2
      exact nq_ne salt i k (by omega) (by omega) (by omega) h2.symm
    · intro x hx
      rcases List.mem_append.mp hx with hx | hx
      · exact J.ba x hx
      · rw [List.mem_singleton.mp hx]; dsimp only; omega
    · intro x hx
      rcases List.mem_append.mp hx with hx | hx
      · exact J.bt x hx
      · rw [List.mem_singleton.mp hx]; dsimp only; omega
theorem BK.bx {rooms here there : List Int} {bs : List Bx} {salt : Int} {k : Nat} (J : BK rooms here there bs salt k) (hk : k ≤ 60) (hs : 0 ≤ salt) (hs2 : salt < 1664) : BxOk rooms bs := by
  refine ⟨by have := J.bl; omega, fun x hx => ?_, J.nd, J.ba, J.bt, fun b r e => ?_, fun b r e => ?_⟩
  · obtain ⟨i, h1, h2⟩ := J.bn x hx
    have := nq_ok salt (i : Int) hs hs2 (by omega) (by omega)
    rw [← h2] at this
    exact this
  · obtain ⟨l, _, h2, h3⟩ := J.ha.2 b r e; dsimp only at h3; omega
  · obtain ⟨l, _, h2, h3⟩ := J.ht.2 b r e; dsimp only at h3; omega
theorem at_le {xs : List Int} {i : Int} (h0 : 0 ≤ i) (h : i < xs.length) (P : Int → Prop) (hP : ∀ x ∈ xs, P x) : ∃ w, atI xs i = some w ∧ P w := by
  obtain ⟨w, e, _⟩ := atI_int xs i h0 h
  exact ⟨w, e, hP w (atI_mem e)⟩
end Bw

namespace Bw
open PySem L2 TL
/-! the store of the cart laws: its boxes by the third cell -/
theorem store_ok (sc : List Int) (base : Int) (hb : 0 ≤ base) : ∃ s, f_store (sc, base) = some s ∧ SOk s ∧ s.2.2.2.length ≤ 20 := by
  obtain ⟨c0, hc0⟩ := cell_ok sc base hb
  obtain ⟨c1, hc1⟩ := cell_ok sc (base + 1) (by omega)
  obtain ⟨c2, hc2⟩ := cell_ok sc (base + 2) (by omega)
  obtain ⟨s0, es0, S0⟩ := source_ok c0 base
  obtain ⟨salt, s1, ed1, p1, q1, S1⟩ := draw_ok S0 1664 (by omega) (by omega)
  obtain ⟨x2, s2, ed2, p2, q2, S2⟩ := draw_ok S1 4 (by omega) (by omega)
  obtain ⟨w2, ew2, hw2⟩ := at_le (xs := [2, 4, 7, 15]) (i := x2) p2 q2 (fun w => 1 ≤ w ∧ w ≤ 15) (by decide)
  obtain ⟨x3, s3, ed3, p3, q3, S3⟩ := draw_ok S2 w2 (by omega) (by omega)
  obtain ⟨x4, s4, ed4, p4, q4, S4⟩ := draw_ok S3 5 (by omega) (by omega)
  obtain ⟨wide, ew4, hw4⟩ := at_le (xs := [1, 2, 4, 6, 40]) (i := x4) p4 q4 (fun w => 1 ≤ w ∧ w ≤ 40) (by decide)
  obtain ⟨x5, s5, ed5, p5, q5, S5⟩ := draw_ok S4 3 (by omega) (by omega)
  obtain ⟨w5, ew5, hw5⟩ := at_le (xs := [2, 4, 20]) (i := x5) p5 q5 (fun w => 1 ≤ w ∧ w ≤ 20) (by decide)
  obtain ⟨x6, s6, ed6, p6, q6, S6⟩ := draw_ok S5 w5 (by omega) (by omega)
  obtain ⟨s7, rooms, ed7, S7, rl, rb⟩ := draws_lcC wide (by omega) (by omega) (rngL 0 (2 + x3)) s6 S6 (by rw [rngL_len]; omega)
  obtain ⟨t0, et0, T0⟩ := source_ok c1 (base + 1)
  obtain ⟨x8, s8, ed8, p8, q8, S8⟩ := draw_ok T0 2 (by omega) (by omega)
  obtain ⟨far, ew8, hw8⟩ := at_le (xs := [5, 1000000000]) (i := x8) p8 q8 (fun w => 1 ≤ w ∧ w ≤ 1000000000) (by decide)
  obtain ⟨s9, gaps, ed9, S9, gl, gb⟩ := draws_lcC far (by omega) (by omega) (rngL 0 (2 + x3 - 1)) s8 S8 (by rw [rngL_len]; omega)
  obtain ⟨u0, eu0, U0⟩ := source_ok c2 (base + 2)
  obtain ⟨xa, sa, eda, pa, qa, Sa⟩ := draw_ok U0 3 (by omega) (by omega)
  obtain ⟨wa, ewa, hwa⟩ := at_le (xs := [4, 9, 21]) (i := xa) pa qa (fun w => 1 ≤ w ∧ w ≤ 21) (by decide)
  obtain ⟨xb, sb, edb, pb, qb, Sb⟩ := draw_ok Sa wa (by omega) (by omega)
  rw [rngL_len] at rl gl
  unfold f_store
  dsimp only
  rw [bo hc0, bo es0, bo ed1]
  dsimp only
  rw [bo ed2]
  dsimp only
  rw [bo ew2, bo ed3]
  dsimp only
  rw [letM_eq, bo ed4]
  dsimp only
  rw [bo ew4, bo ed5]
  dsimp only
  rw [bo ew5, bo ed6]
  dsimp only
  rw [letM_eq, bo (rngM_ok (by omega) (by omega) (by omega) (by omega)), bo ed7]
  dsimp only
  rw [bo hc1, bo et0, bo ed8]
  dsimp only
  rw [bo ew8, bo (rngM_ok (by omega) (by omega) (by omega) (by omega)), bo ed9]
  dsimp only
  rw [bo hc2, bo eu0]
  simp only [letM_eq]
  rw [bo eda]
  dsimp only
  rw [bo ewa, bo edb]
  dsimp only
  rw [bo (rngM_ok (by omega) (by omega) (by omega) (by omega))]
  have hrooms : ∀ r ∈ rooms, 1 ≤ r ∧ r ≤ 40 := fun r hr => by have := rb r hr; omega
  have L0 : ∀ g : Bx → Int, Lf rooms rooms [] g := fun g => ⟨rfl, fun b r hr => ⟨r, hr, by have := hrooms r (List.mem_of_getElem? hr); omega, by simp⟩⟩
  obtain ⟨⟨bs, s', h', t'⟩, ef, Jf, _⟩ := foldlM_inv (body := f_store_b179 salt) (fun i (z : List Bx × List Int × List Int × List Int) => BK rooms z.2.2.1 z.2.2.2 z.1 salt i ∧ Src2 z.2.1) (rngL 0 xb) 0 ([], sb, rooms, rooms) ⟨⟨L0 _, L0 _, rfl, by simp, fun x hx => (by cases hx), by simp, fun x hx => (by cases hx), fun x hx => (by cases hx)⟩, Sb⟩ (by
    rintro k x ⟨bs, s, h, t⟩ hx ⟨J, SS⟩
    obtain ⟨hx, hk⟩ := rngL_get hx
    rw [Nat.zero_add] at J ⊢
    have hx3 : x = (k : Int) := by omega
    obtain ⟨b', s', h', t', eb, bl, J', S'⟩ := box_ok J (by omega) p1 q1 (by omega) SS
    unfold f_store_b179
    dsimp only at SS J eb ⊢
    have jl := J.bl
    rw [hx3, bo eb]
    dsimp only
    rw [bo (catM_ok (by omega))]
    exact ⟨_, rfl, J', S'⟩)
  rw [bo ef]
  dsimp only
  rw [rngL_len, Nat.zero_add] at Jf
  refine ⟨_, rfl, ⟨?_, ?_, hrooms, ?_, ?_, ?_, Jf.bx (by omega) p1 q1⟩, ?_⟩
  · dsimp only; omega
  · dsimp only; omega
  · dsimp only; omega
  · intro g hg; have := gb g hg; omega
  · dsimp only; omega
  · have := Jf.bl; dsimp only at this ⊢; omega
end Bw

namespace Bw
open PySem L2 TL
/-! a thing of any kind, looked at as a store -/
def wi (a b : Int) : PyData → Bool
  | .int i => decide (a ≤ i) && decide (i ≤ b)
  | _ => false
theorem withinD_ok (d : PyData) (a b : Int) : f_is_within_D (d, a, b) = some (wi a b d) := by
  unfold f_is_within_D f_is_whole_D
  cases d <;> rfl
theorem nf : (!false) = true := rfl
def lenL (e : PyData) : Nat := match e with
  | .list es => es.length
  | _ => 0
def aw (a b : Int) (d : PyData) : Bool := match d with
  | .list es => es.all (wi a b)
  | _ => false
theorem all_map {α : Type} (p : α → Bool) : ∀ xs : List α, (xs.map p).all id = xs.all p
  | [] => rfl
  | x :: xs => by rw [List.map_cons, List.all_cons, List.all_cons, all_map p xs]; rfl
theorem isl {d : PyData} (h : isiD "list" d = true) : ∃ es, d = .list es := by
  cases d <;> first | exact ⟨_, rfl⟩ | (exact absurd h (by simp [isiD, kindD]))
theorem awD_ok (d : PyData) (a b : Int) (h : lenL d ≤ 1000) : f_are_within_D (d, a, b) = some (aw a b d) := by
  unfold f_are_within_D
  dsimp only
  by_cases k : isiD "list" d = true
  · obtain ⟨es, rfl⟩ := isl k
    have c1 : asLD (.list es) = some es := rfl
    have e : lcC (fun one_6 => (f_is_within_D (one_6, a, b)).bind fun x17 => some (some x17)) es = some (es.map (wi a b)) := by
      rw [lcC_ok (show es.length ≤ 100000 from Nat.le_trans h (by decide))]
      exact lcM_all fun x hx => by rw [bo (withinD_ok x a b)]
    rw [if_pos k, bo c1, bo e, all_map, bo rfl]
    rfl
  · rw [if_neg k, bo rfl]
    cases d <;> first | rfl | exact absurd rfl k
def okR (d : PyData) : Bool := match d with
  | .list es => decide (2 ≤ es.length ∧ es.length ≤ 16) && es.all (wi 1 40)
  | _ => false
def okG (n : Nat) (d : PyData) : Bool := match d with
  | .list es => decide (es.length + 1 = n) && es.all (wi 1 1000000000)
  | _ => false
abbrev exP (p : Str) : Option (Rs Unit) := some (.ex ("NoStore", .str p))
theorem look_no {d : PyData} (h : ∀ a b c e, d ≠ .tuple [a, b, c, e]) : f_look_at_store_D d = exP "store" := by
  unfold f_look_at_store_D
  by_cases k : isiD "tuple" d = true
  · obtain ⟨ds, rfl⟩ : ∃ ds, d = .tuple ds := by cases d <;> first | exact ⟨_, rfl⟩ | (exact absurd k (by simp [isiD, kindD]))
    have e : lenD (.tuple ds) = some (ds.length : Int) := rfl
    have n4 : ds.length ≠ 4 := fun z => by
      match ds, z with
      | [a, b, c, d], _ => exact h a b c d rfl
    rw [k, if_neg (by decide), bo e, bo rfl, if_pos (by rw [decide_eq_false (by omega)]; rfl)]
  · rw [Bool.eq_false_iff.mpr k, if_pos nf, bo rfl, if_pos rfl]
theorem look_D (r g m b : PyData) (hr : lenL r ≤ 1000) (hg : lenL g ≤ 1000) : f_look_at_store_D (.tuple [r, g, m, b]) =
    if okR r = true then (if okG (lenL r) g = true then (if wi 1 20 m = true then (f_are_boxes_D (r, b)).bind fun x => (if (!x) = true then exP "boxes" else some (.ok ())) else exP "most") else exP "gaps") else exP "rooms" := by
  have e0 : isiD "tuple" (.tuple [r, g, m, b]) = true := rfl
  have l4 : lenD (.tuple [r, g, m, b]) = some 4 := rfl
  have t4 : tupD4 (.tuple [r, g, m, b]) = some (r, g, m, b) := rfl
  unfold f_look_at_store_D
  rw [e0, if_neg (by decide), bo l4, bo rfl, if_neg (by decide), bo t4]
  simp only [letM_eq]
  rw [bo (awD_ok r 1 40 hr)]
  have okr : ∀ es, r = .list es → okR r = (decide (2 ≤ es.length ∧ es.length ≤ 16) && aw 1 40 r) := fun es e => by subst e; rfl
  by_cases k1 : aw 1 40 r = true
  · obtain ⟨es, rfl⟩ : ∃ es, r = .list es := by cases r <;> first | exact ⟨_, rfl⟩ | (exact absurd k1 (by simp [aw]))
    have l1 : lenD (.list es) = some (es.length : Int) := rfl
    rw [k1, if_neg (by decide), bo l1, bo rfl]
    by_cases k2 : 2 ≤ es.length ∧ es.length ≤ 16
    · have kr : okR (.list es) = true := by rw [okr es rfl, decide_eq_true k2, k1]; rfl
      rw [if_pos kr, if_neg (by rw [decide_eq_true (by omega), decide_eq_true (by omega)]; decide), bo (awD_ok g 1 1000000000 hg)]
      by_cases k3 : aw 1 1000000000 g = true
      · obtain ⟨gs, rfl⟩ : ∃ gs, g = .list gs := by cases g <;> first | exact ⟨_, rfl⟩ | (exact absurd k3 (by simp [aw]))
        have l2 : lenD (.list gs) = some (gs.length : Int) := rfl
        rw [k3, if_neg (by decide), bo l2, bo l1, bo rfl]
        have og : okG (lenL (.list es)) (.list gs) = decide (gs.length + 1 = es.length) := by
          show (decide (gs.length + 1 = es.length) && aw 1 1000000000 (.list gs)) = _
          rw [k3, Bool.and_true]
        by_cases k4 : gs.length + 1 = es.length
        · rw [og, decide_eq_true k4, if_pos rfl, if_neg (by rw [decide_eq_true (by omega)]; decide), bo (withinD_ok m 1 20)]
          by_cases k5 : wi 1 20 m = true
          · rw [k5, if_neg (by decide), if_pos rfl]
          · rw [if_neg k5, Bool.eq_false_iff.mpr k5, if_pos nf]
        · rw [og, decide_eq_false k4, if_pos (by rw [decide_eq_false (by omega)]; rfl), if_neg Bool.false_ne_true]
      · rw [Bool.eq_false_iff.mpr k3, if_pos nf, bo rfl, if_pos rfl, if_neg]
        cases g <;> first | exact Bool.false_ne_true | skip
        rename_i gs
        show ¬ (decide _ && aw 1 1000000000 (.list gs)) = true
        rw [Bool.eq_false_iff.mpr k3, Bool.and_false]; exact Bool.false_ne_true
    · rw [if_pos (by
        by_cases z : 2 ≤ es.length
        · rw [decide_eq_true (show (2 : Int) ≤ (es.length : Int) by omega), decide_eq_false (show ¬ (es.length : Int) ≤ 16 by omega)]; rfl
        · rw [decide_eq_false (show ¬ (2 : Int) ≤ (es.length : Int) by omega)]; rfl), if_neg]
      rw [okr es rfl, decide_eq_false k2]; exact Bool.false_ne_true
  · rw [Bool.eq_false_iff.mpr k1, if_pos nf, bo rfl, if_pos rfl, if_neg]
    cases r <;> first | exact Bool.false_ne_true | skip
    rename_i es
    rw [okr es rfl, Bool.eq_false_iff.mpr k1, Bool.and_false]; exact Bool.false_ne_true
/-! boxes -/
theorem bx_nolist {r b : PyData} (h : isiD "list" b = false) : f_are_boxes_D (r, b) = some false := by
  unfold f_are_boxes_D
  dsimp only
  rw [h, if_pos nf, bo rfl, if_pos rfl]
theorem isl_list (es : List PyData) : isiD "list" (.list es) = true := rfl
theorem as_list (es : List PyData) : asLD (.list es) = some es := rfl
theorem len_list (es : List PyData) : lenD (.list es) = some (es.length : Int) := rfl
theorem lc_box {n : Int} {r : PyData} {es : List PyData} {β : PyData → Bool} (hn : lenD r = some n) (hl : es.length ≤ 1000) (h : ∀ x ∈ es, f_is_box_D (x, n) = some (β x)) : lcC (fun one_23 => (((lenD r)).bind fun x34 => ((f_is_box_D (one_23, x34))).bind fun x36 => some (some x36))) es = some (es.map β) := by
  rw [lcC_ok (by omega)]
  exact lcM_all fun x hx => by rw [bo hn, bo (h x hx)]
theorem bx_bad {n : Int} {r : PyData} {es : List PyData} {β : PyData → Bool} (hn : lenD r = some n) (hl : es.length ≤ 1000) (h : ∀ x ∈ es, f_is_box_D (x, n) = some (β x)) {z : PyData} (hz : z ∈ es) (hb : β z = false) : f_are_boxes_D (r, .list es) = some false := by
  unfold f_are_boxes_D
  dsimp only
  rw [isl_list, if_neg (by decide), bo (len_list es), bo rfl]
  by_cases q : 60 < es.length
  · rw [if_pos (decide_eq_true (by omega))]
  · have na : es.all β = false := by
      rw [Bool.eq_false_iff]
      intro z2
      have := List.all_eq_true.mp z2 z hz
      rw [hb] at this; cases this
    rw [if_neg (by rw [decide_eq_true_eq]; omega), bo (as_list es), bo (lc_box hn hl h), all_map, na, if_pos nf, bo rfl, if_pos rfl]
theorem boxD_ok {x : Bx} {n : Int} (h : NmOk x.1) (ha : 0 ≤ x.2.1 ∧ x.2.1 < n) (ht : 0 ≤ x.2.2 ∧ x.2.2 < n) : f_is_box_D (eT3 eS eI eI x, n) = some true := by
  have e1 : isiD "tuple" (eT3 eS eI eI x) = true := rfl
  have e2 : lenD (eT3 eS eI eI x) = some 3 := rfl
  have e3 : ixD (eT3 eS eI eI x) 0 = some (.str x.1) := rfl
  have e4 : ixD (eT3 eS eI eI x) 1 = some (.int x.2.1) := rfl
  have e5 : ixD (eT3 eS eI eI x) 2 = some (.int x.2.2) := rfl
  have e6 : f_is_name_D (.str x.1) = f_is_name x.1 := rfl
  have w1 : wi 0 (n - 1) (.int x.2.1) = true := by show (decide _ && decide _) = true; rw [decide_eq_true ha.1, decide_eq_true (by omega)]; rfl
  have w2 : wi 0 (n - 1) (.int x.2.2) = true := by show (decide _ && decide _) = true; rw [decide_eq_true ht.1, decide_eq_true (by omega)]; rfl
  unfold f_is_box_D
  dsimp only
  rw [e1, if_neg (by decide), bo e2, if_neg (by decide), bo e3, e6, bo (is_name_ok h), bo rfl, bo rfl, if_neg (by decide), bo e4, bo (withinD_ok _ _ _), w1, if_pos rfl, bo e5, bo (withinD_ok _ _ _), w2, bo rfl]
theorem nm_zz : NmOk "zz" := by unfold NmOk; decide
/-- the odd thing stands among good boxes -/
theorem bx_odd {rooms : List Int} {l1 l2 : List Bx} {z : PyData} (h1 : ∀ x ∈ l1 ++ l2, NmOk x.1 ∧ (0 ≤ x.2.1 ∧ x.2.1 < rooms.length) ∧ 0 ≤ x.2.2 ∧ x.2.2 < rooms.length) (hl : l1.length + l2.length ≤ 500) (hz : f_is_box_D (z, (rooms.length : Int)) = some false) :
    f_are_boxes_D (eL eI rooms, .list (l1.map (eT3 eS eI eI) ++ [z] ++ l2.map (eT3 eS eI eI))) = some false := by
  have hn : lenD (eL eI rooms) = some (rooms.length : Int) := by
    have : lenD (eL eI rooms) = some ((rooms.map eI).length : Int) := rfl
    rw [this, List.length_map]
  refine bx_bad (β := fun x => (f_is_box_D (x, (rooms.length : Int))).getD true) hn (by simp; omega) (fun x hx => ?_) (z := z) (by simp) (by rw [hz]; rfl)
  rw [List.mem_append, List.mem_append] at hx
  have good : ∀ y : Bx, y ∈ l1 ++ l2 → f_is_box_D (eT3 eS eI eI y, (rooms.length : Int)) = some true := fun y hy => boxD_ok (h1 y hy).1 (h1 y hy).2.1 (h1 y hy).2.2
  rcases hx with (hx | hx) | hx
  · obtain ⟨y, hy, rfl⟩ := List.mem_map.mp hx
    rw [good y (List.mem_append_left _ hy)]; rfl
  · rw [List.mem_singleton.mp hx, hz]; rfl
  · obtain ⟨y, hy, rfl⟩ := List.mem_map.mp hx
    rw [good y (List.mem_append_right _ hy)]; rfl
/-- good boxes, but for names and rooms -/
structure BxN (rooms : List Int) (bs : List Bx) : Prop where
  nm : ∀ x ∈ bs, NmOk x.1
  ba : ∀ x ∈ bs, 0 ≤ x.2.1 ∧ x.2.1 < rooms.length
  bt : ∀ x ∈ bs, 0 ≤ x.2.2 ∧ x.2.2 < rooms.length
theorem BxN.of {rooms : List Int} {bs : List Bx} (h : BxOk rooms bs) : BxN rooms bs := ⟨h.nm, h.ba, h.bt⟩
theorem BxN.app {rooms : List Int} {bs cs : List Bx} (h : BxN rooms bs) (k : BxN rooms cs) : BxN rooms (bs ++ cs) :=
  ⟨fun x hx => (List.mem_append.mp hx).elim (h.nm x) (k.nm x), fun x hx => (List.mem_append.mp hx).elim (h.ba x) (k.ba x), fun x hx => (List.mem_append.mp hx).elim (h.bt x) (k.bt x)⟩
theorem eL_list {α : Type} (e : α → PyData) (xs : List α) : eL e xs = .list (xs.map e) := rfl
theorem lenD_L {α : Type} (e : α → PyData) (xs : List α) : lenD (eL e xs) = some (xs.length : Int) := by
  have : lenD (eL e xs) = some ((xs.map e).length : Int) := rfl
  rw [this, List.length_map]
theorem lcM_mp {α β γ : Type} {f : β → Option (Option γ)} {g : α → β} : ∀ xs : List α, lcM f (xs.map g) = lcM (fun x => f (g x)) xs
  | [] => rfl
  | x :: xs => by
    show (f (g x)).bind _ = (f (g x)).bind _
    rw [lcM_mp xs]
theorem namesD_eq {bs : List Bx} (hl : bs.length ≤ 60) : f_has_names_twice_D (eL (eT3 eS eI eI) bs) = some (!decide (((dups [] (bs.map (·.1))).length : Int) = (bs.length : Int))) := by
  unfold f_has_names_twice_D
  have e : lcC (fun box_4 => (((ixD box_4 (0 : Int))).bind fun x15 => ((asS x15)).bind fun x17 => some (some x17))) (bs.map (eT3 eS eI eI)) = some (bs.map (·.1)) := by
    rw [lcC_ok (by rw [List.length_map]; omega), lcM_mp]
    exact lcM_all fun x _ => rfl
  have e2 : setLenM (bs.map (·.1)) = some ((dups [] (bs.map (·.1))).length : Int) := by
    unfold setLenM
    rw [if_pos (by rw [List.length_map]; omega)]
  rw [eL_list, bo (as_list _), bo e, bo e2, ← eL_list, bo (lenD_L _ _)]
theorem forF_any {α R : Type} {body : Unit → α → Option (Fl Unit R)} {p : α → Bool} {z : R} : ∀ {xs : List α}, (∀ x ∈ xs, body () x = some (if p x = true then .rt z else .nx ())) → forF body xs () = some (if xs.any p = true then .rt z else .nx ())
  | [], _ => rfl
  | x :: xs, h => by
    show (body () x).bind _ = _
    rw [h x List.mem_cons_self, List.any_cons]
    cases p x with
    | true => rfl
    | false =>
      show forF body xs () = _
      rw [forF_any fun y hy => h y (List.mem_cons_of_mem _ hy)]
      rfl
theorem roomD_eq {rooms : List Int} {bs : List Bx} {place : Int} {g : Bx → Int} (hl : bs.length ≤ 60) (hg : ∀ x : Bx, ixD (eT3 eS eI eI x) place = some (.int (g x))) :
    f_has_room_D (eL eI rooms, eL (eT3 eS eI eI) bs, place) = some (!((enumM rooms).any fun p => decide (p.2 < ((bs.countP fun x => decide (g x = p.1) : Nat) : Int)))) := by
  unfold f_has_room_D
  dsimp only
  have en : enumM (rooms.map eI) = (enumM rooms).map fun p => (p.1, eI p.2) := by
    refine List.ext_getElem? fun k => ?_
    unfold enumM
    rw [List.getElem?_mapIdx, List.getElem?_map, List.getElem?_map, List.getElem?_mapIdx]
    cases rooms[k]? <;> rfl
  have e : forF (f_has_room_D_b6 (eL (eT3 eS eI eI) bs) place) (enumM (rooms.map eI)) () = some (if ((enumM (rooms.map eI)).any fun p => match p.2 with | .int r => decide (r < ((bs.countP fun x => decide (g x = p.1) : Nat) : Int)) | _ => false) = true then .rt false else .nx ()) := by
    refine forF_any fun p hp => ?_
    rw [en] at hp
    obtain ⟨⟨i, r⟩, _, rfl⟩ := List.mem_map.mp hp
    unfold f_has_room_D_b6
    dsimp only
    have e : lcC (fun box_39 => (((ixD box_39 place)).bind fun x50 => ((eqDM x50 (eI i))).bind fun x52 => if (x52) = true then (some (some box_39)) else some none)) (bs.map (eT3 eS eI eI)) = some ((bs.filter fun x => decide (g x = i)).map (eT3 eS eI eI)) := by
      rw [lcC_ok (by rw [List.length_map]; omega), lcM_mp]
      refine lcM_fil fun x hx => ?_
      rw [bo (hg x), bo (eqD_int _ _)]
      split <;> rfl
    have ai : asI (eI r) = some r := rfl
    rw [eL_list, bo (as_list _), bo e, bo ai, List.length_map, ← List.countP_eq_length_filter]
    by_cases q : r < ((bs.countP fun x => decide (g x = i) : Nat) : Int)
    · rw [if_pos (decide_eq_true q), if_pos (decide_eq_true q)]
    · rw [if_neg (by simpa using q), if_neg (by simpa using q)]
  rw [eL_list eI, bo (as_list _), bo e, en, List.any_map]
  show (match (if ((enumM rooms).any fun p => decide (p.2 < ((bs.countP fun x => decide (g x = p.1) : Nat) : Int))) = true then Fl.rt false else Fl.nx ()) with | .nx _ => some true | .br _ => none | .rt z88 => some z88) = _
  cases (enumM rooms).any fun p => decide (p.2 < ((bs.countP fun x => decide (g x = p.1) : Nat) : Int)) <;> rfl
theorem dups_le : ∀ (xs acc : List Str), (dups acc xs).length ≤ acc.length + xs.length
  | [], acc => Nat.le_refl _
  | x :: xs, acc => by
    unfold dups
    split
    · have := dups_le xs acc; rw [List.length_cons]; omega
    · have := dups_le xs (acc ++ [x]); rw [List.length_cons]; rw [List.length_append, List.length_singleton] at this; omega
theorem dups_eq : ∀ (xs acc : List Str), (dups acc xs).length = acc.length + xs.length → xs.Nodup ∧ ∀ x ∈ xs, x ∉ acc
  | [], acc, _ => ⟨List.nodup_nil, fun x hx => by cases hx⟩
  | x :: xs, acc, h => by
    unfold dups at h
    split at h
    · have := dups_le xs acc; rw [List.length_cons] at h; omega
    · rename_i hc
      rw [List.length_cons] at h
      obtain ⟨h1, h2⟩ := dups_eq xs (acc ++ [x]) (by rw [List.length_append, List.length_singleton]; omega)
      have hx : x ∉ acc := fun z => hc (List.any_eq_true.mpr ⟨x, z, by simp⟩)
      refine ⟨List.nodup_cons.mpr ⟨fun z => h2 x z (List.mem_append_right _ (List.mem_singleton.mpr rfl)), h1⟩, fun y hy => ?_⟩
      rcases List.mem_cons.mp hy with rfl | hy
      · exact hx
      · exact fun z => h2 y hy (List.mem_append_left _ z)
theorem dups_nd {xs : List Str} (h : (dups [] xs).length = xs.length) : xs.Nodup := (dups_eq xs [] (by rw [h]; simp)).1
/-- a name twice, or too many at a bay -/
theorem bx_more {rooms : List Int} {bs : List Bx} (h : BxN rooms bs) (hl : bs.length ≤ 1000) (hn : ¬ (bs.map (·.1)).Nodup ∨ (∃ (b : Nat) (r : Int), rooms[b]? = some r ∧ r < ((bs.countP fun x => decide (x.2.1 = (b : Int)) : Nat) : Int)) ∨ ∃ (b : Nat) (r : Int), rooms[b]? = some r ∧ r < ((bs.countP fun x => decide (x.2.2 = (b : Int)) : Nat) : Int)) :
    f_are_boxes_D (eL eI rooms, eL (eT3 eS eI eI) bs) = some false := by
  unfold f_are_boxes_D
  dsimp only
  rw [show isiD "list" (eL (eT3 eS eI eI) bs) = true from rfl, if_neg (by decide), bo (lenD_L _ _), bo rfl]
  by_cases q : 60 < bs.length
  · rw [if_pos (decide_eq_true (by omega))]
  · have hb : lcC (fun one_23 => (((lenD (eL eI rooms))).bind fun x34 => ((f_is_box_D (one_23, x34))).bind fun x36 => some (some x36))) (bs.map (eT3 eS eI eI)) = some ((bs.map (eT3 eS eI eI)).map fun _ => true) :=
      lc_box (lenD_L _ _) (by rw [List.length_map]; omega) fun x hx => by
        obtain ⟨y, hy, rfl⟩ := List.mem_map.mp hx
        exact boxD_ok (h.nm y hy) (h.ba y hy) (h.bt y hy)
    rw [if_neg (by rw [decide_eq_true_eq]; omega), show asLD (eL (eT3 eS eI eI) bs) = some (bs.map (eT3 eS eI eI)) from rfl, bo rfl, bo hb, all_id, if_neg (by decide), bo (namesD_eq (by omega)), bo rfl]
    have any_of : ∀ g : Bx → Int, (∃ (b : Nat) (r : Int), rooms[b]? = some r ∧ r < ((bs.countP fun x => decide (g x = (b : Int)) : Nat) : Int)) → ((enumM rooms).any fun p => decide (p.2 < ((bs.countP fun x => decide (g x = p.1) : Nat) : Int))) = true := fun g ⟨b, r, hb, hr⟩ => by
      refine List.any_eq_true.mpr ⟨((b : Int), r), List.mem_iff_getElem?.mpr ⟨b, ?_⟩, decide_eq_true hr⟩
      unfold enumM
      rw [List.getElem?_mapIdx, hb]; rfl
    by_cases nt : ((dups [] (bs.map (·.1))).length : Int) = (bs.length : Int)
    · rw [decide_eq_true nt, if_neg (by decide), bo (roomD_eq (g := fun x => x.2.1) (by omega) fun x => rfl)]
      have nd : (bs.map (·.1)).Nodup := dups_nd (by rw [List.length_map]; omega)
      rcases hn with hn | hn | hn
      · exact absurd nd hn
      · rw [any_of (fun x => x.2.1) hn, if_neg (by decide), bo rfl]
      · by_cases z : ((enumM rooms).any fun p => decide (p.2 < ((bs.countP fun x => decide (x.2.1 = p.1) : Nat) : Int))) = true
        · rw [z, if_neg (by decide), bo rfl]
        · rw [Bool.eq_false_iff.mpr z, if_pos nf, bo (roomD_eq (g := fun x => x.2.2) (by omega) fun x => rfl), any_of (fun x => x.2.2) hn, bo rfl]
          rfl
    · rw [decide_eq_false nt, if_pos nf]
end Bw

namespace Bw
open PySem L2 TL
/-! the law's spoilt stores -/
def Ref (p : Str) (d : PyData) : Prop := f_look_at_store_D d = exP p
theorem cut_drop {α : Type} (xs : List α) (i : Int) (h0 : 0 ≤ i) : cutL xs (some i) none = xs.drop i.toNat := by
  have e : i = ((i.toNat : Nat) : Int) := by omega
  rw [e]
  unfold cutL
  rw [HT.sIx_nat, HT.sIx_none, Int.toNat_natCast, List.take_of_length_le (by rw [List.length_drop]; omega)]
  by_cases q : i.toNat ≤ xs.length
  · rw [Nat.min_eq_left q]
  · rw [Nat.min_eq_right (by omega), List.drop_eq_nil_of_le (Nat.le_refl _), List.drop_eq_nil_of_le (by omega)]
theorem pick {α : Type} {xs : List α} {P : α → Prop} {i : Int} (h0 : 0 ≤ i) (h : i < xs.length) (hP : ∀ x ∈ xs, P x) : ∃ x, atI xs i = some x ∧ P x := by
  obtain ⟨x, e, _⟩ := atI_int xs i h0 h
  exact ⟨x, e, hP x (atI_mem e)⟩
def OddB (n : Int) (zs : List PyData) : Prop := (∃ z, zs = [z] ∧ f_is_box_D (z, n) = some false) ∨ zs = [.tuple [.str "zz", .int 0, .int 0], .tuple [.str "zz", .int 0, .int 0]]
theorem nmD {s : Str} {b : Bool} (h : f_is_name_D (.str s) = some b) : f_is_name_D (.str s) = some b := h
/-- a tuple of three is a box just where each part is right -/
theorem box3 (a b c : PyData) (n : Int) {x : Bool} (ha : f_is_name_D a = some x) : f_is_box_D (.tuple [a, b, c], n) = some (x && wi 0 (n - 1) b && wi 0 (n - 1) c) := by
  have e1 : isiD "tuple" (.tuple [a, b, c]) = true := rfl
  have e2 : lenD (.tuple [a, b, c]) = some 3 := rfl
  have e3 : ixD (.tuple [a, b, c]) 0 = some a := rfl
  have e4 : ixD (.tuple [a, b, c]) 1 = some b := rfl
  have e5 : ixD (.tuple [a, b, c]) 2 = some c := rfl
  unfold f_is_box_D
  dsimp only
  rw [e1, if_neg (by decide), bo e2, if_neg (by decide), bo e3, bo ha, bo rfl, bo rfl]
  cases x with
  | false => rw [if_pos nf]; rfl
  | true =>
    rw [if_neg (by decide), bo e4, bo (withinD_ok _ _ _)]
    cases wi 0 (n - 1) b with
    | false => rw [if_neg (by decide), bo rfl]; rfl
    | true => rw [if_pos rfl, bo e5, bo (withinD_ok _ _ _), bo rfl]; rfl
theorem box_zz (b c : PyData) (n : Int) (h : (wi 0 (n - 1) b && wi 0 (n - 1) c) = false) : f_is_box_D (.tuple [.str "zz", b, c], n) = some false := by
  rw [box3 (x := true) _ _ _ _ (by decide +kernel), Bool.true_and, h]
theorem box_nm (a b c : PyData) (n : Int) (h : f_is_name_D a = some false) : f_is_box_D (.tuple [a, b, c], n) = some false := by
  rw [box3 (x := false) _ _ _ _ h]; rfl
theorem wi_no (n : Int) (d : PyData) (h : ∀ i, d ≠ .int i) : wi 0 (n - 1) d = false := by
  cases d <;> first | rfl | exact absurd rfl (h _)
theorem wi_neg (n : Int) : wi 0 (n - 1) (.int (-1)) = false := rfl
theorem wi_n (n : Int) : wi 0 (n - 1) (.int n) = false := by
  show (decide _ && decide _) = false
  rw [decide_eq_false (show ¬ n ≤ n - 1 by omega), Bool.and_false]
end Bw

namespace Bw
open PySem L2 TL
theorem crowd_ok {rooms : List Int} {bay place : Int} (hr : ∀ r ∈ rooms, 1 ≤ r ∧ r ≤ 40) (hn : 1 ≤ rooms.length) (h0 : 0 ≤ bay) (h1 : bay < rooms.length) (hp : place = 0 ∨ place = 1) :
    Rt (f_crowd (rooms, bay, place)) fun cr => BxN rooms cr ∧ cr.length ≤ 41 ∧ ∃ r, rooms[bay.toNat]? = some r ∧ r < ((cr.countP fun x => decide ((if place = 0 then x.2.1 else x.2.2) = bay) : Nat) : Int) := by
  obtain ⟨room, e, er⟩ := atI_int rooms bay h0 h1
  have hb := hr room (List.mem_of_getElem? er)
  unfold f_crowd
  dsimp only
  rw [letM_eq, letM_eq, bo e, bo (rngM_ok (by omega) (by omega) (by omega) (by omega)), rt_bind]
  refine rt_fold (fun k (cr : List Bx) => BxN rooms cr ∧ cr.length = k ∧ cr.countP (fun x => decide ((if place = 0 then x.2.1 else x.2.2) = bay)) = k) ⟨⟨fun x hx => (by cases hx), fun x hx => (by cases hx), fun x hx => (by cases hx)⟩, rfl, rfl⟩ (fun k j cr hk hJ => ?_) fun cr hJ => ?_
  · obtain ⟨J, l, c⟩ := hJ
    obtain ⟨rfl, hk2⟩ := rngL_get hk
    have hk3 : k ≤ 40 := by omega
    have m0 : 0 ≤ (0 + (k : Int)) % 26 ∧ (0 + (k : Int)) % 26 < 26 := by omega
    have d0 : 0 ≤ (0 + (k : Int)) / 26 ∧ (0 + (k : Int)) / 26 < 26 := by omega
    unfold f_crowd_b23
    try dsimp only
    rw [bo (abc_at _ m0.1 m0.2), bo (scatM_ok _ _ (by simp [tl]; decide)), bo (abc_at _ d0.1 d0.2), bo (scatM_ok _ _ (by simp [tl]; decide)), bo (modM_ok (by omega))]
    have o0 := Int.emod_nonneg (bay + (0 + (k : Int))) (show (rooms.length : Int) ≠ 0 by omega)
    have o1 := Int.emod_lt_of_pos (bay + (0 + (k : Int))) (show (0 : Int) < (rooms.length : Int) by omega)
    generalize (bay + (0 + (k : Int))) % (rooms.length : Int) = o at o0 o1
    have nm : NmOk (⟨(tl (⟨(tl ("z" : Str) ++ tl ⟨#[97 + ((0 + (k : Int)) % 26).toNat]⟩).toArray⟩ : Str) ++ tl ⟨#[97 + ((0 + (k : Int)) / 26).toNat]⟩).toArray⟩ : Str) := by
      have tz : tl ("z" : Str) = [122] := by decide
      unfold NmOk
      rw [tz]
      simp only [tl, List.cons_append, List.nil_append]
      refine ⟨by simp, by simp, fun c hc => ?_⟩
      simp at hc
      omega
    generalize (⟨(tl (⟨(tl ("z" : Str) ++ tl ⟨#[97 + ((0 + (k : Int)) % 26).toNat]⟩).toArray⟩ : Str) ++ tl ⟨#[97 + ((0 + (k : Int)) / 26).toNat]⟩).toArray⟩ : Str) = name at nm
    have fin : ∀ x : Bx, x.1 = name → (0 ≤ x.2.1 ∧ x.2.1 < rooms.length) → (0 ≤ x.2.2 ∧ x.2.2 < rooms.length) → (if place = 0 then x.2.1 else x.2.2) = bay → Rt ((appM cr x).bind fun found_70 => some found_70) fun cr => BxN rooms cr ∧ cr.length = k + 1 ∧ cr.countP (fun x => decide ((if place = 0 then x.2.1 else x.2.2) = bay)) = k + 1 := fun x e1 e2 e3 e4 => by
      rw [bo (appM_ok (by omega))]
      refine rt_some.mpr ⟨J.app ⟨fun y hy => ?_, fun y hy => ?_, fun y hy => ?_⟩, by rw [List.length_append, l]; rfl, by rw [List.countP_append, c, List.countP_singleton, if_pos (decide_eq_true e4)]⟩
      · rw [List.mem_singleton.mp hy, e1]; exact nm
      · rw [List.mem_singleton.mp hy]; exact e2
      · rw [List.mem_singleton.mp hy]; exact e3
    rcases hp with rfl | rfl
    · rw [bo (show atI [(name, bay, o), (name, o, bay)] 0 = some (name, bay, o) from rfl)]
      exact fin _ rfl ⟨h0, h1⟩ ⟨o0, o1⟩ rfl
    · rw [bo (show atI [(name, bay, o), (name, o, bay)] 1 = some (name, o, bay) from rfl)]
      exact fin _ rfl ⟨o0, o1⟩ ⟨h0, h1⟩ rfl
  · obtain ⟨J, l, c⟩ := hJ
    rw [rngL_len] at l c
    exact rt_some.mpr ⟨J, by omega, room, er, by rw [c]; omega⟩
end Bw

namespace Bw
open PySem L2 TL
theorem at_cat {α : Type} {xs ys : List α} (h : xs.length + ys.length ≤ 1000) : catM xs ys = some (xs ++ ys) := catM_ok (by omega)
theorem Ref.of {r g m b : PyData} (hr : lenL r ≤ 1000) (hg : lenL g ≤ 1000) {p : Str} (h : (p = "rooms" ∧ okR r = false) ∨ (p = "gaps" ∧ okR r = true ∧ okG (lenL r) g = false) ∨ (p = "most" ∧ okR r = true ∧ okG (lenL r) g = true ∧ wi 1 20 m = false) ∨ (p = "boxes" ∧ okR r = true ∧ okG (lenL r) g = true ∧ wi 1 20 m = true ∧ f_are_boxes_D (r, b) = some false)) : Ref p (.tuple [r, g, m, b]) := by
  unfold Ref
  rw [look_D r g m b hr hg]
  rcases h with ⟨rfl, h⟩ | ⟨rfl, h, h2⟩ | ⟨rfl, h, h2, h3⟩ | ⟨rfl, h, h2, h3, h4⟩
  · rw [h, if_neg Bool.false_ne_true]
  · rw [h, if_pos rfl, h2, if_neg Bool.false_ne_true]
  · rw [h, if_pos rfl, h2, if_pos rfl, h3, if_neg Bool.false_ne_true]
  · rw [h, if_pos rfl, h2, if_pos rfl, h3, if_pos rfl, bo h4, if_pos nf]

theorem all_no {p : PyData → Bool} {l1 l2 : List PyData} {z : PyData} (h : p z = false) : (l1 ++ [z] ++ l2).all p = false := by
  rw [List.all_append, List.all_append]
  have : [z].all p = false := by rw [List.all_cons, h]; rfl
  rw [this, Bool.and_false, Bool.false_and]
theorem okR_good {rooms : List Int} (h2 : 2 ≤ rooms.length) (h16 : rooms.length ≤ 16) (hr : ∀ r ∈ rooms, 1 ≤ r ∧ r ≤ 40) : okR (eL eI rooms) = true := by
  show (decide (2 ≤ (rooms.map eI).length ∧ (rooms.map eI).length ≤ 16) && (rooms.map eI).all (wi 1 40)) = true
  rw [List.length_map, decide_eq_true ⟨h2, h16⟩, Bool.true_and, List.all_map, List.all_eq_true]
  intro r h
  have := hr r h
  show (decide _ && decide _) = true
  rw [decide_eq_true this.1, decide_eq_true this.2]; rfl
theorem okG_good {n : Nat} {gaps : List Int} (h : gaps.length + 1 = n) (hg : ∀ g ∈ gaps, 1 ≤ g ∧ g ≤ 1000000000) : okG n (eL eI gaps) = true := by
  show (decide ((gaps.map eI).length + 1 = n) && (gaps.map eI).all (wi 1 1000000000)) = true
  rw [List.length_map, decide_eq_true h, Bool.true_and, List.all_map, List.all_eq_true]
  intro r h
  have := hg r h
  show (decide _ && decide _) = true
  rw [decide_eq_true this.1, decide_eq_true this.2]; rfl
theorem lenL_L {α : Type} (e : α → PyData) (xs : List α) : lenL (eL e xs) = xs.length := by
  show (xs.map e).length = _
  rw [List.length_map]
def Pt (i k : Nat) (f : Int) (v good bad : PyData) : Prop := (v = good ∨ (v = bad ∧ f ≤ (i : Int))) ∧ (i < k → f = (i : Int) → v = bad)
theorem Pt.stay {i k : Nat} {f : Int} {v good bad : PyData} (h : Pt i k f v good bad) (hk : i ≠ k) : Pt i (k + 1) f v good bad := ⟨h.1, fun a b => h.2 (by omega) b⟩
theorem Pt.set {k : Nat} {f : Int} {good bad : PyData} (hf : f ≤ (k : Int)) : Pt k (k + 1) f bad good bad := ⟨.inr ⟨rfl, hf⟩, fun _ _ => rfl⟩
theorem Pt.keep {k : Nat} {f : Int} {v good bad : PyData} (h : Pt k k f v good bad) (hf : f ≠ (k : Int)) : Pt k (k + 1) f v good bad := ⟨h.1, fun _ e => absurd e hf⟩
theorem nol {d : PyData} (h : isiD "list" d = false) : okR d = false ∧ (∀ n, okG n d = false) ∧ lenL d ≤ 1000 := by
  cases d <;> first | exact ⟨rfl, fun _ => rfl, Nat.zero_le _⟩ | cases h
theorem mix_ok {xs : List Int} {i : Int} {z : PyData} (hl : xs.length ≤ 100) (h0 : 0 ≤ i) : ∃ ys, ((catM ((fun xs => List.map eI xs) (cutL xs none (some i))) [z]).bind fun x76 => (catM x76 ((fun xs => List.map eI xs) (cutL xs (some (i + 1)) none)))) = some ys ∧ ys.length ≤ 1000 ∧ ∀ p : PyData → Bool, p z = false → ys.all p = false := by
  rw [cut_take _ _ h0, cut_drop _ _ (by omega)]
  have h1 : ((xs.take i.toNat).map eI).length ≤ 100 := by rw [List.length_map, List.length_take]; omega
  have h2 : ((xs.drop (i + 1).toNat).map eI).length ≤ 100 := by rw [List.length_map, List.length_drop]; omega
  rw [bo (at_cat (by rw [List.length_singleton]; dsimp only; omega)), at_cat (by rw [List.length_append, List.length_singleton]; dsimp only; omega)]
  exact ⟨_, rfl, by rw [List.length_append, List.length_append, List.length_singleton]; dsimp only; omega, fun p h => all_no h⟩
theorem bnd2 {α β γ : Type} {a : Option α} {f : α → Option β} {g : β → Option γ} : (a.bind fun x => (f x).bind g) = (a.bind f).bind g := by cases a <;> rfl
def PN (p : Str) : Prop := p = "store" ∨ p = "rooms" ∨ p = "gaps" ∨ p = "most" ∨ p = "boxes"
end Bw

namespace Bw
open PySem L2 TL
theorem odd_all (n : Int) : ∀ zs ∈ ([[(eN ())], [(eL eD) [(eS ("zz" : Str)), (eI 0), (eI 0)]], [(eT2 eS eI) (("zz" : Str), 0)], [(eT4 eS eI eI eI) (("zz" : Str), 0, 0, 0)], [(eT3 eS eI eI) (("Zz" : Str), 0, 0)], [(eT3 eS eI eI) (("" : Str), 0, 0)], [(eT3 eS eI eI) (("zzzzzzzzz" : Str), 0, 0)]] ++
    [[(eT3 eI eI eI) (5, 0, 0)], [(eT3 eS eI eI) (("zz" : Str), n, 0)], [(eT3 eS eI eI) (("zz" : Str), -1, 0)], [(eT3 eS eI eB) (("zz" : Str), 0, true)], [(eT3 eS eS eI) (("zz" : Str), ("0" : Str), 0)]] ++
    [[(eT3 eS eI eN) (("zz" : Str), 0, ())], [(eT3 eS eI eI) (("zz" : Str), 0, 0), (eT3 eS eI eI) (("zz" : Str), 0, 0)], [(eT3 eS eI eI) (("z z" : Str), 0, 0)], [(eT3 eS eI eI) (("zz" : Str), 0, n)], [(eT3 eS eI eI) (("zz" : Str), 0, -1)]] ++
    [[(eT3 eS eB eI) (("zz" : Str), true, 0)], [(eT3 (eL eI) eI eI) ([1], 0, 0)], [(eT3 eD eI eI) (PyData.dict [], 0, 0)], [eS ("zz" : Str)], [(eT3 eS eI eI) (("a1" : Str), 0, 0)], [(eT3 eS eI eI) (("a-b" : Str), 0, 0)]] : List (List PyData)), OddB n zs := by
  intro zs h
  simp only [List.cons_append, List.nil_append, List.mem_cons, List.not_mem_nil, or_false] at h
  have o : ∀ z, f_is_box_D (z, n) = some false → OddB n [z] := fun z hz => .inl ⟨z, rfl, hz⟩
  have a2 : ∀ b c, wi 0 (n - 1) b = false → (wi 0 (n - 1) b && wi 0 (n - 1) c) = false := fun b c h => by rw [h]; rfl
  have a3 : ∀ b c, wi 0 (n - 1) c = false → (wi 0 (n - 1) b && wi 0 (n - 1) c) = false := fun b c h => by rw [h, Bool.and_false]
  rcases h with rfl | rfl | rfl | rfl | rfl | rfl | rfl | rfl | rfl | rfl | rfl | rfl | rfl | rfl | rfl | rfl | rfl | rfl | rfl | rfl | rfl | rfl | rfl
  · exact o _ rfl
  · exact o _ rfl
  · exact o _ rfl
  · exact o _ rfl
  · exact o _ (box_nm _ _ _ _ (by decide +kernel))
  · exact o _ (box_nm _ _ _ _ (by decide +kernel))
  · exact o _ (box_nm _ _ _ _ (by decide +kernel))
  · exact o _ (box_nm _ _ _ _ rfl)
  · exact o _ (box_zz _ _ _ (a2 _ _ (wi_n n)))
  · exact o _ (box_zz _ _ _ (a2 _ _ (wi_neg n)))
  · exact o _ (box_zz _ _ _ (a3 _ _ rfl))
  · exact o _ (box_zz _ _ _ (a2 _ _ rfl))
  · exact o _ (box_zz _ _ _ (a3 _ _ rfl))
  · exact .inr rfl
  · exact o _ (box_nm _ _ _ _ (by decide +kernel))
  · exact o _ (box_zz _ _ _ (a3 _ _ (wi_n n)))
  · exact o _ (box_zz _ _ _ (a3 _ _ (wi_neg n)))
  · exact o _ (box_zz _ _ _ (a2 _ _ rfl))
  · exact o _ (box_nm _ _ _ _ rfl)
  · exact o _ (box_nm _ _ _ _ rfl)
  · exact o _ rfl
  · exact o _ (box_nm _ _ _ _ (by decide +kernel))
  · exact o _ (box_nm _ _ _ _ (by decide +kernel))
theorem bad_boxes_ok {s : Sto} (S : SOk s) {src : List Int} (hS : Src2 src) (hl : s.2.2.2.length ≤ 20) : Rt (f_bad_boxes (s, src)) fun r => Src2 r.2 ∧ f_are_boxes_D (eL eI s.1, r.1) = some false := by
  obtain ⟨rooms, gaps, most, bs⟩ := s
  have n2 := S.n2; have n16 := S.n16
  dsimp only at n2 n16 hl
  have BN := BxN.of S.bx
  dsimp only at BN
  unfold f_bad_boxes
  dsimp only
  rw [letM_eq, letM_eq]
  obtain ⟨w, s1, e1, w0, w1, S1⟩ := draw_ok hS 28 (by decide) (by decide)
  rw [bo e1]
  dsimp only
  by_cases q3 : w < 3
  · rw [if_pos (decide_eq_true q3)]
    obtain ⟨x, ex, hx⟩ := pick (xs := [(eN ()), (PyData.tuple (bs.map (eT3 eS eI eI))), (PyData.dict [])]) (P := fun x => isiD "list" x = false) w0 (by simpa using q3) (by
      intro x hx
      simp only [List.mem_cons, List.not_mem_nil, or_false] at hx
      rcases hx with rfl | rfl | rfl <;> rfl)
    rw [bo ex]
    exact rt_some.mpr ⟨S1, bx_nolist hx⟩
  · rw [if_neg (by simpa using q3)]
    by_cases q5 : w < 5
    · rw [if_pos (decide_eq_true q5)]
      obtain ⟨bay, s2, e2, b0, b1, S2⟩ := draw_ok S1 (rooms.length : Int) (by omega) (by omega)
      rw [bo e2]
      dsimp only
      obtain ⟨cr, ec, C1, C2, r, C3, C4⟩ := crowd_ok (rooms := rooms) (bay := bay) (place := w - 3) S.rm (by omega) b0 b1 (by omega)
      rw [bo ec, bo (catM_ok (by omega))]
      refine rt_some.mpr ⟨S2, bx_more (BN.app C1) (by rw [List.length_append]; omega) (.inr ?_)⟩
      have hbay : ((bay.toNat : Nat) : Int) = bay := by omega
      have le : ∀ g : Bx → Int, (cr.countP fun x => decide (g x = bay)) ≤ ((bs ++ cr).countP fun x => decide (g x = ((bay.toNat : Nat) : Int))) := fun g => by
        rw [hbay, List.countP_append]; omega
      by_cases q : w - 3 = 0
      · simp only [if_pos q] at C4
        refine .inl ⟨bay.toNat, r, C3, ?_⟩
        exact Int.lt_of_lt_of_le C4 (Int.ofNat_le.mpr (le fun x => x.2.1))
      · simp only [if_neg q] at C4
        refine .inr ⟨bay.toNat, r, C3, ?_⟩
        exact Int.lt_of_lt_of_le C4 (Int.ofNat_le.mpr (le fun x => x.2.2))
    · rw [if_neg (by simpa using q5), letM_eq, bo (at_cat (Nat.le_of_ble_eq_true rfl)), bo (at_cat (Nat.le_of_ble_eq_true rfl)), bo (at_cat (Nat.le_of_ble_eq_true rfl))]
      obtain ⟨at_, s2, e2, b0, b1, S2⟩ := draw_ok S1 ((bs.length : Int) + 1) (by omega) (by omega)
      rw [bo e2]
      dsimp only
      obtain ⟨zs, ez, hz⟩ := pick (P := OddB (rooms.length : Int)) (i := w - 5) (by omega) (by simp; omega) (odd_all (rooms.length : Int))
      obtain ⟨k, rfl⟩ : ∃ k : Nat, at_ = k := ⟨at_.toNat, by omega⟩
      have zl : zs.length ≤ 2 := by
        rcases hz with ⟨z, rfl, _⟩ | rfl <;> simp
      have ct : (cutL bs none (some (k : Int))) = bs.take k := by rw [cut_take _ _ (by omega), Int.toNat_natCast]
      have cd : (cutL bs (some (k : Int)) none) = bs.drop k := by rw [cut_drop _ _ (by omega), Int.toNat_natCast]
      have tk : (bs.take k).length ≤ 20 := by rw [List.length_take]; omega
      have dk : (bs.drop k).length ≤ 20 := by rw [List.length_drop]; omega
      rw [bo ez, ct, cd, bo (at_cat (by rw [List.length_map]; omega)), bo (at_cat (by rw [List.length_append, List.length_map, List.length_map]; omega))]
      refine rt_some.mpr ⟨S2, ?_⟩
      show f_are_boxes_D (eL eI rooms, .list (List.map eD (List.map (eT3 eS eI eI) (bs.take k) ++ zs ++ List.map (eT3 eS eI eI) (bs.drop k)))) = some false
      have id_ : ∀ xs : List PyData, List.map eD xs = xs := fun xs => List.map_id' xs
      rw [id_]
      rcases hz with ⟨z, rfl, hz⟩ | rfl
      · refine bx_odd (fun x hx => ?_) (by omega) hz
        rw [List.take_append_drop] at hx
        exact ⟨BN.nm x hx, BN.ba x hx, BN.bt x hx⟩
      · have e : (List.map (eT3 eS eI eI) (bs.take k) ++ [PyData.tuple [.str "zz", .int 0, .int 0], .tuple [.str "zz", .int 0, .int 0]] ++ List.map (eT3 eS eI eI) (bs.drop k)) = List.map (eT3 eS eI eI) (bs.take k ++ [(("zz" : Str), (0 : Int), (0 : Int)), ("zz", 0, 0)] ++ bs.drop k) := by
          rw [List.map_append, List.map_append]; rfl
        rw [e]
        have two : BxN rooms [(("zz" : Str), (0 : Int), (0 : Int)), ("zz", 0, 0)] := by
          refine ⟨fun x hx => ?_, fun x hx => ?_, fun x hx => ?_⟩ <;> simp only [List.mem_cons, List.not_mem_nil, or_false, or_self] at hx <;> subst hx
          · exact nm_zz
          · dsimp only; omega
          · dsimp only; omega
        have sub : ∀ l : List Bx, (∀ x ∈ l, x ∈ bs) → BxN rooms l := fun l hl => ⟨fun x hx => BN.nm x (hl x hx), fun x hx => BN.ba x (hl x hx), fun x hx => BN.bt x (hl x hx)⟩
        refine bx_more (((sub _ fun x hx => List.mem_of_mem_take hx).app two).app (sub _ fun x hx => List.mem_of_mem_drop hx)) (by simp; omega) (.inl fun nd => ?_)
        rw [List.map_append, List.map_append] at nd
        have := (List.nodup_append.mp (List.nodup_append.mp nd).1).2.1
        simp at this
/-! the parts -/
theorem step_ok {f : Int} {src : List Int} {made : List PyData} {p : Int} {t : PyData} (hS : Src2 src) (h0 : 0 ≤ p) (h1 : p < made.length) : Rt (f_spoilt_b165 f (src, made) (p, t)) fun r => Src2 r.1 ∧ ((f ≤ p ∧ r.2 = made.set p.toNat t) ∨ (f ≠ p ∧ r.2 = made)) := by
  unfold f_spoilt_b165
  dsimp only
  by_cases q : p = f
  · rw [if_pos (decide_eq_true q), bo rfl]
    dsimp only
    rw [if_pos rfl, bo (setM_ok t h0 h1)]
    exact rt_some.mpr ⟨hS, .inl ⟨by omega, rfl⟩⟩
  · rw [if_neg (by simpa using q)]
    by_cases q2 : f < p
    · obtain ⟨x, s', e, _, _, S'⟩ := draw_ok hS 3 (by decide) (by decide)
      rw [if_pos (decide_eq_true q2), bo e]
      dsimp only
      rw [bo rfl]
      dsimp only
      rw [bo rfl]
      dsimp only
      by_cases q3 : x = 0
      · rw [if_pos (decide_eq_true q3), bo (setM_ok t h0 h1)]
        exact rt_some.mpr ⟨S', .inl ⟨by omega, rfl⟩⟩
      · rw [if_neg (by simpa using q3)]
        exact rt_some.mpr ⟨S', .inr ⟨fun z => q z.symm, rfl⟩⟩
    · rw [if_neg (by simpa using q2), bo rfl]
      dsimp only
      rw [bo rfl]
      dsimp only
      rw [if_neg (by decide)]
      exact rt_some.mpr ⟨hS, .inr ⟨fun z => q z.symm, rfl⟩⟩
theorem fold_ok {f : Int} {src : List Int} {gr gg gm gb br bg bm bb : PyData} (hS : Src2 src) : Rt ((enumM [br, bg, bm, bb]).foldlM (f_spoilt_b165 f) (src, [gr, gg, gm, gb])) fun r => Src2 r.1 ∧ ∃ a b c d, r.2 = [a, b, c, d] ∧ Pt 0 4 f a gr br ∧ Pt 1 4 f b gg bg ∧ Pt 2 4 f c gm bm ∧ Pt 3 4 f d gb bb := by
  have p0 : ∀ (i : Nat) (g b : PyData), Pt i 0 f g g b := fun i g b => ⟨.inl rfl, fun h => absurd h (Nat.not_lt_zero _)⟩
  refine rt_fold (fun k (r : List Int × List PyData) => Src2 r.1 ∧ ∃ a b c d, r.2 = [a, b, c, d] ∧ Pt 0 k f a gr br ∧ Pt 1 k f b gg bg ∧ Pt 2 k f c gm bm ∧ Pt 3 k f d gb bb) ⟨hS, _, _, _, _, rfl, p0 _ _ _, p0 _ _ _, p0 _ _ _, p0 _ _ _⟩ (fun k x s hx hJ => ?_) fun s hJ => hJ
  obtain ⟨src, made⟩ := s
  obtain ⟨hS, a, b, c, d, e, A, B, C, D⟩ := hJ
  dsimp only at e hS
  subst e
  have hk := (List.getElem?_eq_some_iff.mp hx).1
  rw [enumM_len] at hk
  have hk4 : k < 4 := hk
  have cs : k = 0 ∨ k = 1 ∨ k = 2 ∨ k = 3 := by omega
  rcases cs with rfl | rfl | rfl | rfl
  · obtain rfl : x = ((0 : Int), br) := (Option.some.inj hx).symm
    refine (step_ok hS (by decide) (by simp)).mono fun r hr => ⟨hr.1, ?_⟩
    rcases hr.2 with ⟨h1, h2⟩ | ⟨h1, h2⟩
    · exact ⟨br, b, c, d, h2, Pt.set h1, B.stay (by decide), C.stay (by decide), D.stay (by decide)⟩
    · exact ⟨a, b, c, d, h2, A.keep h1, B.stay (by decide), C.stay (by decide), D.stay (by decide)⟩
  · obtain rfl : x = ((1 : Int), bg) := (Option.some.inj hx).symm
    refine (step_ok hS (by decide) (by simp)).mono fun r hr => ⟨hr.1, ?_⟩
    rcases hr.2 with ⟨h1, h2⟩ | ⟨h1, h2⟩
    · exact ⟨a, bg, c, d, h2, A.stay (by decide), Pt.set h1, C.stay (by decide), D.stay (by decide)⟩
    · exact ⟨a, b, c, d, h2, A.stay (by decide), B.keep h1, C.stay (by decide), D.stay (by decide)⟩
  · obtain rfl : x = ((2 : Int), bm) := (Option.some.inj hx).symm
    refine (step_ok hS (by decide) (by simp)).mono fun r hr => ⟨hr.1, ?_⟩
    rcases hr.2 with ⟨h1, h2⟩ | ⟨h1, h2⟩
    · exact ⟨a, b, bm, d, h2, A.stay (by decide), B.stay (by decide), Pt.set h1, D.stay (by decide)⟩
    · exact ⟨a, b, c, d, h2, A.stay (by decide), B.stay (by decide), C.keep h1, D.stay (by decide)⟩
  · obtain rfl : x = ((3 : Int), bb) := (Option.some.inj hx).symm
    refine (step_ok hS (by decide) (by simp)).mono fun r hr => ⟨hr.1, ?_⟩
    rcases hr.2 with ⟨h1, h2⟩ | ⟨h1, h2⟩
    · exact ⟨a, b, c, bb, h2, A.stay (by decide), B.stay (by decide), C.stay (by decide), Pt.set h1⟩
    · exact ⟨a, b, c, d, h2, A.stay (by decide), B.stay (by decide), C.stay (by decide), D.keep h1⟩
theorem min5 {x : Int} (h0 : 0 ≤ x) : 0 ≤ minI x 5 ∧ minI x 5 < 6 := by unfold minI; split <;> omega
theorem spoilt_ok {s : Sto} (S : SOk s) {src : List Int} (hS : Src2 src) (hl : s.2.2.2.length ≤ 20) : Rt (f_spoilt (s, src)) fun r => Ref r.1.2 r.1.1 ∧ PN r.1.2 ∧ Src2 r.2 := by
  obtain ⟨x, s1, e1, x0, x1, S1⟩ := draw_ok hS 5 (by decide) (by decide)
  unfold f_spoilt
  dsimp only
  rw [bo e1]
  dsimp only
  by_cases q : x = 0
  · rw [if_pos (decide_eq_true q), letM_eq]
    obtain ⟨y, s2, e2, y0, y1, S2⟩ := draw_ok S1 9 (by decide) (by decide)
    rw [bo e2]
    dsimp only
    obtain ⟨z, ez, hz⟩ := pick (P := fun d => ∀ a b c e, d ≠ .tuple [a, b, c, e]) (i := y) (xs := [(eN ()), (eI (5 : Int)), (eS ("store" : Str)), ((eL eD) ([(eL eI) s.1, (eL eI) s.2.1, eI s.2.2.1, (eL (eT3 eS eI eI)) s.2.2.2] : (List PyData))), ((eT3 (eL eI) (eL eI) eI) (s.1, s.2.1, s.2.2.1)), ((eT5 (eL eI) (eL eI) eI (eL (eT3 eS eI eI)) eI) (s.1, s.2.1, s.2.2.1, s.2.2.2, (0 : Int))), (eT0 ()), (PyData.dict []), ((eT1 (eT4 (eL eI) (eL eI) eI (eL (eT3 eS eI eI)))) (s))]) y0 (by simpa using y1) (by
      intro d hd a b c e h
      simp only [List.mem_cons, List.not_mem_nil, or_false] at hd
      rcases hd with rfl | rfl | rfl | rfl | rfl | rfl | rfl | rfl | rfl <;> first | cases h | (injection h with h; cases h))
    rw [bo ez]
    exact rt_some.mpr ⟨look_no hz, .inl rfl, S2⟩
  · rw [if_neg (by simpa using q)]
    obtain ⟨rooms, gaps, most, bs⟩ := s
    have n2 := S.n2; have n16 := S.n16; have gl := S.gl
    dsimp only at n2 n16 gl hl ⊢
    obtain ⟨bay, s2, e2, b0, b1, S2⟩ := draw_ok S1 (rooms.length : Int) (by omega) (by omega)
    rw [bo e2]
    dsimp only
    obtain ⟨gap, s3, e3, g0, g1, S3⟩ := draw_ok S2 (gaps.length : Int) (by omega) (by omega)
    rw [bo e3]
    dsimp only
    obtain ⟨w, s4, e4, w0, w1, S4⟩ := draw_ok S3 8 (by decide) (by decide)
    rw [bo e4]
    dsimp only
    obtain ⟨bad1, eb1, hb1⟩ := pick (P := fun d => wi 1 40 d = false) (i := w) (xs := [(eI (0 : Int)), (eI (41 : Int)), (eI (-(1 : Int))), (eB true), (eN ()), (eS ("1" : Str)), ((eL eI) ([(1 : Int)] : (List Int))), ((eT1 eI) ((1 : Int)))]) w0 (by simpa using w1) (by
      intro d hd
      simp only [List.mem_cons, List.not_mem_nil, or_false] at hd
      rcases hd with rfl | rfl | rfl | rfl | rfl | rfl | rfl | rfl <;> rfl)
    rw [bo eb1]
    have r9 : repM rooms 9 = some (List.replicate 9 rooms).flatten := by unfold repM; rw [if_pos ⟨by decide, by decide, by show rooms.length * 9 ≤ 100000; omega⟩]; rfl
    have r9l : (List.replicate 9 rooms).flatten.length = 9 * rooms.length := by simp; omega
    obtain ⟨mx, em, ml, ma⟩ := mix_ok (xs := rooms) (i := bay) (z := bad1) (by omega) b0
    rw [bo r9, bnd2, bo em, letM_eq]
    obtain ⟨x5, s5, e5, x50, x51, S5⟩ := draw_ok S4 9 (by decide) (by decide)
    rw [bo e5]
    dsimp only
    obtain ⟨br, ebr, hbr, hbrl⟩ := pick (P := fun d => okR d = false ∧ lenL d ≤ 1000) (i := minI x5 5) (xs := [(eN ()), (PyData.tuple (rooms.map eI)), (PyData.list []), ((eL eI) (cutL rooms none (some (1 : Int)))), ((eL eI) (cutL (List.replicate 9 rooms).flatten none (some (17 : Int)))), ((eL eD) mx)]) (min5 x50).1 (by simpa using (min5 x50).2) (by
      intro d hd
      simp only [List.mem_cons, List.not_mem_nil, or_false] at hd
      rcases hd with rfl | rfl | rfl | rfl | rfl | rfl
      · exact ⟨rfl, Nat.zero_le _⟩
      · exact ⟨rfl, Nat.zero_le _⟩
      · exact ⟨rfl, Nat.zero_le _⟩
      · rw [cut_take _ _ (by decide), lenL_L]
        refine ⟨?_, by rw [List.length_take]; omega⟩
        show (decide _ && _) = false
        rw [List.length_map, List.length_take, decide_eq_false (fun z => by have := z.1; simp at this; omega), Bool.false_and]
      · rw [cut_take _ _ (by decide), lenL_L]
        refine ⟨?_, by rw [List.length_take]; omega⟩
        show (decide _ && _) = false
        rw [List.length_map, List.length_take, r9l, decide_eq_false (fun z => by have := z.2; simp at this; omega), Bool.false_and]
      · refine ⟨?_, by rw [lenL_L]; exact ml⟩
        show (decide _ && (mx.map eD).all (wi 1 40)) = false
        rw [show mx.map eD = mx from List.map_id' mx, ma _ hb1, Bool.and_false])
    rw [bo ebr]
    obtain ⟨x6, s6, e6, x60, x61, S6⟩ := draw_ok S5 8 (by decide) (by decide)
    rw [bo e6]
    dsimp only
    obtain ⟨bad2, eb2, hb2⟩ := pick (P := fun d => wi 1 1000000000 d = false) (i := x6) (xs := [(eI (0 : Int)), (eI (-(1 : Int))), (eI ((1000000000 : Int) + (1 : Int))), (eI (1000000000000000000000000000000 : Int)), (eB true), (eN ()), (eS ("1" : Str)), ((eL eI) ([(1 : Int)] : (List Int)))]) x60 (by simpa using x61) (by
      intro d hd
      simp only [List.mem_cons, List.not_mem_nil, or_false] at hd
      rcases hd with rfl | rfl | rfl | rfl | rfl | rfl | rfl | rfl <;> first | rfl | decide)
    rw [bo eb2]
    obtain ⟨my, ey, yl, ya⟩ := mix_ok (xs := gaps) (i := gap) (z := bad2) (by omega) g0
    rw [bo (at_cat (by simp; omega)), bnd2, bo ey, letM_eq]
    obtain ⟨x7, s7, e7, x70, x71, S7⟩ := draw_ok S6 9 (by decide) (by decide)
    rw [bo e7]
    dsimp only
    obtain ⟨bg, ebg, hbg, hbgl⟩ := pick (P := fun d => okG rooms.length d = false ∧ lenL d ≤ 1000) (i := minI x7 5) (xs := [(eN ()), (PyData.tuple (gaps.map eI)), (PyData.list []), ((eL eI) (gaps ++ [1])), ((eL eI) (cutL gaps (some (1 : Int)) none)), ((eL eD) my)]) (min5 x70).1 (by simpa using (min5 x70).2) (by
      intro d hd
      simp only [List.mem_cons, List.not_mem_nil, or_false] at hd
      rcases hd with rfl | rfl | rfl | rfl | rfl | rfl
      · exact ⟨rfl, Nat.zero_le _⟩
      · exact ⟨rfl, Nat.zero_le _⟩
      · refine ⟨?_, Nat.zero_le _⟩
        show (decide (0 + 1 = rooms.length) && _) = false
        rw [decide_eq_false (by omega), Bool.false_and]
      · rw [lenL_L]
        refine ⟨?_, by simp; omega⟩
        show (decide _ && _) = false
        rw [decide_eq_false (by simp; omega), Bool.false_and]
      · rw [cut_drop _ _ (by decide), lenL_L]
        refine ⟨?_, by rw [List.length_drop]; omega⟩
        show (decide _ && _) = false
        rw [decide_eq_false (by simp; omega), Bool.false_and]
      · refine ⟨?_, by rw [lenL_L]; exact yl⟩
        show (decide _ && (my.map eD).all (wi 1 1000000000)) = false
        rw [show my.map eD = my from List.map_id' my, ya _ hb2, Bool.and_false])
    rw [bo ebg]
    obtain ⟨x8, s8, e8, x80, x81, S8⟩ := draw_ok S7 8 (by decide) (by decide)
    rw [bo e8]
    dsimp only
    obtain ⟨bm, ebm, hbm⟩ := pick (P := fun d => wi 1 20 d = false) (i := x8) (xs := [(eI (0 : Int)), (eI (21 : Int)), (eI (-(1 : Int))), (eB true), (eN ()), (eS ("1" : Str)), ((eL eI) ([(1 : Int)] : (List Int))), (eI (100000000000000000000 : Int))]) x80 (by simpa using x81) (by
      intro d hd
      simp only [List.mem_cons, List.not_mem_nil, or_false] at hd
      rcases hd with rfl | rfl | rfl | rfl | rfl | rfl | rfl | rfl <;> rfl)
    rw [bo ebm]
    obtain ⟨f, s9, e9, f0, f1, S9⟩ := draw_ok S8 4 (by decide) (by decide)
    rw [bo e9]
    dsimp only
    rw [letM_eq]
    obtain ⟨⟨bb, s10⟩, e10, S10, hbb⟩ := bad_boxes_ok S S9 hl
    rw [bo e10]
    dsimp only at S10 hbb ⊢
    obtain ⟨⟨s11, made⟩, e11, S11, a, b, c, d, hm, A, B, C, D⟩ := fold_ok (f := f) (gr := eL eI rooms) (gg := eL eI gaps) (gm := eI most) (gb := eL (eT3 eS eI eI) bs) (br := br) (bg := bg) (bm := bm) (bb := bb) S10
    rw [bo e11]
    dsimp only at hm S11 ⊢
    subst hm
    have gR : okR (eL eI rooms) = true := okR_good n2 n16 S.rm
    have lR : lenL (eL eI rooms) = rooms.length := lenL_L _ _
    have gG : okG (lenL (eL eI rooms)) (eL eI gaps) = true := by rw [lR]; exact okG_good gl S.gm
    have gM : wi 1 20 (eI most) = true := by
      have := S.mo
      dsimp only at this
      show (decide _ && decide _) = true
      rw [decide_eq_true this.1, decide_eq_true this.2]; rfl
    have la : lenL a ≤ 1000 := by
      rcases A.1 with h | ⟨h, _⟩ <;> rw [h]
      · rw [lR]; omega
      · exact hbrl
    have lb : lenL b ≤ 1000 := by
      rcases B.1 with h | ⟨h, _⟩ <;> rw [h]
      · rw [lenL_L]; omega
      · exact hbgl
    have em4 : PyData.tuple ([a, b, c, d].map eD) = .tuple [a, b, c, d] := rfl
    have cs : f = 0 ∨ f = 1 ∨ f = 2 ∨ f = 3 := by omega
    have low : ∀ {i : Nat} {v g b : PyData}, Pt i 4 f v g b → (i : Int) < f → v = g := fun h hi => h.1.elim (fun z => z) fun z => by have := z.2; omega
    rcases cs with rfl | rfl | rfl | rfl
    · obtain rfl := A.2 (by decide) rfl
      rw [bo (show atI [("rooms" : Str), "gaps", "most", "boxes"] 0 = some "rooms" from rfl), em4]
      exact rt_some.mpr ⟨Ref.of la lb (.inl ⟨rfl, hbr⟩), .inr (.inl rfl), S11⟩
    · obtain rfl := low A (by decide)
      obtain rfl := B.2 (by decide) rfl
      rw [bo (show atI [("rooms" : Str), "gaps", "most", "boxes"] 1 = some "gaps" from rfl), em4]
      exact rt_some.mpr ⟨Ref.of la lb (.inr (.inl ⟨rfl, gR, by rw [lR]; exact hbg⟩)), .inr (.inr (.inl rfl)), S11⟩
    · obtain rfl := low A (by decide)
      obtain rfl := low B (by decide)
      obtain rfl := C.2 (by decide) rfl
      rw [bo (show atI [("rooms" : Str), "gaps", "most", "boxes"] 2 = some "most" from rfl), em4]
      exact rt_some.mpr ⟨Ref.of la lb (.inr (.inr (.inl ⟨rfl, gR, gG, hbm⟩))), .inr (.inr (.inr (.inl rfl))), S11⟩
    · obtain rfl := low A (by decide)
      obtain rfl := low B (by decide)
      obtain rfl := low C (by decide)
      obtain rfl := D.2 (by decide) rfl
      rw [bo (show atI [("rooms" : Str), "gaps", "most", "boxes"] 3 = some "boxes" from rfl), em4]
      exact rt_some.mpr ⟨Ref.of la lb (.inr (.inr (.inr ⟨rfl, gR, gG, gM, hbb⟩))), .inr (.inr (.inr (.inr rfl))), S11⟩
end Bw

namespace Bw
open PySem L2 TL
/-! dicts of unlike keys -/
theorem putKV_new {κ ν : Type} [DecidableEq κ] {d : List (κ × ν)} {k : κ} {v : ν} (h : k ∉ d.map (·.1)) : putKV d k v = d ++ [(k, v)] := by
  unfold putKV
  rw [if_neg]
  intro q
  obtain ⟨p, hp, e⟩ := List.any_eq_true.mp q
  exact h (List.mem_map.mpr ⟨p, hp, of_decide_eq_true e⟩)
theorem mkD_nd {κ ν : Type} [DecidableEq κ] {xs : List (κ × ν)} (h : (xs.map (·.1)).Nodup) : mkD xs = xs := by
  have key : ∀ (xs d : List (κ × ν)), ((d ++ xs).map (·.1)).Nodup → xs.foldl (fun d p => putKV d p.1 p.2) d = d ++ xs := by
    intro xs
    induction xs with
    | nil => intro d _; simp
    | cons x xs ih =>
      intro d h
      rw [List.foldl_cons, putKV_new, ih]
      · simp
      · simpa using h
      · rw [List.map_append, List.map_cons] at h
        have := (List.nodup_append.mp h).2.2
        exact fun m => this x.1 m x.1 List.mem_cons_self rfl
  have := key xs [] (by simpa using h)
  simpa [mkD] using this
/-- where the boxes are, and where they want to be -/
def spot0 (s : Sto) : List (Str × Int) := s.2.2.2.map fun x => (x.1, x.2.1)
def home0 (s : Sto) : List (Str × Int) := s.2.2.2.map fun x => (x.1, x.2.2)
theorem mkD_spot {s : Sto} (h : SOk s) : mkD (spot0 s) = spot0 s := mkD_nd (by unfold spot0; rw [List.map_map]; exact h.bx.nd)
theorem mkD_home {s : Sto} (h : SOk s) : mkD (home0 s) = home0 s := mkD_nd (by unfold home0; rw [List.map_map]; exact h.bx.nd)
/-- the names at a bay, at the beginning -/
def nm0 (s : Sto) (b : Int) : List Str := (s.2.2.2.filter fun x => decide (x.2.1 = b)).map fun x => x.1
theorem nm0_len {s : Sto} (h : SOk s) (b : Int) : (nm0 s b).length ≤ 60 := by
  unfold nm0; rw [List.length_map]; exact Nat.le_trans (List.length_filter_le _ _) h.bx.len
theorem nm0_ok {s : Sto} (h : SOk s) (b : Int) : ∀ x ∈ nm0 s b, NmOk x := fun x hx => by
  obtain ⟨y, hy, rfl⟩ := List.mem_map.mp hx
  exact h.bx.nm y (List.mem_filter.mp hy).1
theorem shp_nms {zs : List Str} (h : ∀ x ∈ zs, NmOk x) : Shp 1 (eL eS zs) := shp_list fun d hd => by
  obtain ⟨x, hx, rfl⟩ := List.mem_map.mp hd
  exact shp_str fun c hc => by have := (h x hx).2.2 c hc; omega
theorem srtM_ok {xs : List Str} (h : xs.length ≤ 60) : srtM xs = some (srtS xs) := by unfold srtM; rw [if_pos (by omega)]
theorem fil_spot (s : Sto) (b : Int) : ((spot0 s).filter fun x => decide (x.2 = b)).map (fun x => x.1) = nm0 s b := by
  unfold spot0 nm0
  rw [List.filter_map, List.map_map]
  rfl
end Bw

namespace Bw
open PySem L2 TL
theorem part_ok (p : Str) : f_part_of (some ("NoStore", .str p)) = some (.str p) := by
  have h1 : isX (some ("NoStore", .str p)) "NoStore" = true := show subX "NoStore" "NoStore" = true by decide
  have h2 : anyX (some ("NoStore", .str p)) ["NoText", "NoBay", "NoBox", "NoRoom", "NoFork", "NoWants", "NoAisle", "NoOrders", "NoRow", "NoPlan", "NoPaper"] = false :=
    show (["NoText", "NoBay", "NoBox", "NoRoom", "NoFork", "NoWants", "NoAisle", "NoOrders", "NoRow", "NoPlan", "NoPaper"] : List Str).any (fun d => subX "NoStore" d) = false by decide
  have h3 : anyX (some ("NoStore", .str p)) ["TooMany", "Unknown"] = false := show (["TooMany", "Unknown"] : List Str).any (fun d => subX "NoStore" d) = false by decide
  have h4 : partM "part" (some ("NoStore", .str p)) = some (.str p) := show (if fld "NoStore" = some "part" then some (PyData.str p) else none) = _ from if_pos (by decide)
  have h0 : (!true || !(some (("NoStore", .str p) : Xe)).isSome) = false := rfl
  unfold f_part_of
  rw [h1, h0, if_neg (by decide), h2, if_neg (by decide), h3, if_neg (by decide), bo h4]
theorem inx (p : Str) : (("NoStore", PyData.str p) : Xe).1 ∈ xcl := show ("NoStore" : Str) ∈ xcl by decide
theorem sixty_ok : ∃ bs : List Bx, f_sixty_one () = some ([40, 40], [1], 1, bs) ∧ bs.length = 61 := by
  have r : rngM 0 61 = some (rngL 0 61) := rngM_ok (by decide) (by decide) (by decide) (by decide)
  have k : Rt (lcC (fun j_9 => (((ixS ("abcdefghijklmnopqrstuvwxyz" : Str) (j_9 % (26 : Int)))).bind fun x20 => ((scatM ("z" : Str) x20)).bind fun x22 => ((ixS ("abcdefghijklmnopqrstuvwxyz" : Str) (j_9 / (26 : Int)))).bind fun x24 => ((scatM x22 x24)).bind fun x26 => some (some (x26, (j_9 % (2 : Int)), (j_9 % (2 : Int)))))) (rngL 0 61)) fun bs => bs.length = 61 := by
    rw [rt_lcC]
    refine ⟨by rw [rngL_len]; decide, rt_lc (R := fun _ _ => True) (fun j hj => ?_) fun ys hl _ => by rw [hl, rngL_len]; decide⟩
    obtain ⟨n, hn⟩ := List.mem_iff_getElem?.mp hj
    obtain ⟨rfl, hn2⟩ := rngL_get hn
    have m0 : 0 ≤ (0 + (n : Int)) % 26 ∧ (0 + (n : Int)) % 26 < 26 := by omega
    have d0 : 0 ≤ (0 + (n : Int)) / 26 ∧ (0 + (n : Int)) / 26 < 26 := by omega
    rw [bo (abc_at _ m0.1 m0.2), bo (scatM_ok _ _ (by simp [tl]; decide)), bo (abc_at _ d0.1 d0.2), bo (scatM_ok _ _ (by simp [tl]; decide))]
    exact rt_some.mpr ⟨_, rfl, trivial⟩
  obtain ⟨bs, e, h⟩ := k
  refine ⟨bs, ?_, h⟩
  unfold f_sixty_one
  rw [letM_eq, bo r, bo e]
theorem ref61 {bs : List Bx} (h : bs.length = 61) : Ref "boxes" (eT4 (eL eI) (eL eI) eI (eL (eT3 eS eI eI)) ([40, 40], [1], 1, bs)) := by
  have a : f_are_boxes_D (eL eI [40, 40], eL (eT3 eS eI eI) bs) = some false := by
    unfold f_are_boxes_D
    dsimp only
    rw [isl_list, if_neg (by decide), bo (lenD_L _ _), h]
    rfl
  show Ref "boxes" (.tuple [eL eI [40, 40], eL eI [1], eI 1, eL (eT3 eS eI eI) bs])
  exact Ref.of (by decide) (by decide) (.inr (.inr (.inr ⟨rfl, by decide, by decide, by decide, a⟩)))
theorem eqD_str (a b : Str) (ha : Shp 0 (.str a)) (hb : Shp 0 (.str b)) : eqDM (.str a) (.str b) = some (decide (a = b)) := by
  unfold eqDM
  rw [if_pos ⟨ha.ok (by decide), hb.ok (by decide)⟩]
  refine congrArg some ?_
  show (a == b) = decide (a = b)
  rfl
theorem shp_p {p : Str} (h : PN p) : Shp 0 (.str p) := by
  refine shp_str ?_
  rcases h with rfl | rfl | rfl | rfl | rfl <;> decide
theorem refusedD_ok {p : Str} {d : PyData} (h : Ref p d) : f_refused_D d = some (.str p) := by
  have e1 : f_Cart_D d = some (.ex ("NoStore", .str p)) := by unfold f_Cart_D; rw [bo h]
  unfold f_refused_D
  rw [bo e1]
  dsimp only
  rw [if_pos (inx p), bo rfl, bo (part_ok p)]
theorem okM_ok {β : Type} (y : β) : okM (Rs.ok y) = some y := rfl
theorem cart_ok {s : Sto} (h : SOk s) : f_Cart_2 s = some (s.1, s.2.1, s.2.2.1, spot0 s, home0 s, 0, 0) := by
  have hl := h.bx.len
  have e1 : mapC (fun (x : Bx) => (x.1, x.2.1)) s.2.2.2 = some (spot0 s) := mapC_ok (by omega)
  have e2 : mapC (fun (x : Bx) => (x.1, x.2.2)) s.2.2.2 = some (home0 s) := mapC_ok (by omega)
  unfold f_Cart_2
  rw [bo (look_ok h), bo (okM_ok _), letM_eq, letM_eq, letM_eq]
  refine Eq.trans (bo e1 _) ?_
  rw [letM_eq]
  refine Eq.trans (bo e2 _) ?_
  rw [letM_eq, mkD_spot h, mkD_home h]
theorem names_ok {s : Sto} (h : SOk s) (b : Int) (g : Int) (t : T_Cart) (ht : t.2.2.2.1 = spot0 s) : f_Cart_names_at (t, b) = some (srtS (nm0 s b)) := by
  have hl := h.bx.len
  unfold f_Cart_names_at
  dsimp only
  rw [ht]
  have e : filC (fun (x : Str × Int) => decide (x.2 = b)) (fun (x : Str × Int) => x.1) (spot0 s) = some (nm0 s b) := by
    rw [filC_ok (by unfold spot0; rw [List.length_map]; omega), fil_spot]
  refine Eq.trans (bo e _) ?_
  rw [bo (srtM_ok (nm0_len h b))]
theorem law_true (ns : List Int) (h : ns.length ≤ 63) : f_law ns = some true := by
  obtain ⟨s, hs, S, hl⟩ := store_ok ns 0 (by decide)
  obtain ⟨b61, e61, l61⟩ := sixty_ok
  have bl := S.bx.len
  have n2 := S.n2
  have pb : PN "boxes" := .inr (.inr (.inr (.inr rfl)))
  have eqb : eqDM (.str "boxes") (eS ("boxes" : Str)) = some true := by rw [eqD_str _ _ (shp_p pb) (shp_p pb)]; rfl
  have ef : filC (fun (x : Bx) => decide (x.2.1 = (0 : Int))) (fun (x : Bx) => x.1) s.2.2.2 = some (nm0 s 0) := filC_ok (by omega)
  unfold f_law
  rw [bo hs, bo e61, bo (refusedD_ok (ref61 l61)), bo eqb, if_neg (by decide)]
  refine Eq.trans (bo ef _) ?_
  rw [bo (srtM_ok (nm0_len S 0))]
  have hm : 11 ≤ maxI 11 (minI (ns.length : Int) 63) ∧ maxI 11 (minI (ns.length : Int) 63) ≤ 63 := by unfold maxI minI; (repeat' split) <;> omega
  rw [bo (rngM_ok (by omega) (by omega) (by omega) (by omega))]
  refine Rt.eq ?_
  rw [rt_bind]
  refine rt_for (fun _ => True) trivial (fun k hk u _ => ?_) fun u _ => rt_some.mpr rfl
  obtain ⟨n, hn⟩ := List.mem_iff_getElem?.mp hk
  obtain ⟨rfl, hn2⟩ := rngL_get hn
  obtain ⟨c, hc⟩ := cell_ok ns (3 + (n : Int)) (by omega)
  obtain ⟨src, hsrc, Sr⟩ := source_ok c (3 + (n : Int))
  obtain ⟨⟨⟨d, p⟩, s'⟩, esp, R, P, _⟩ := spoilt_ok S Sr hl
  dsimp only at R P
  unfold f_law_b63
  have e1 : isiD "str" (.str p) = true := rfl
  have e2 : eqDM (.str p) (eS p) = some true := by rw [eqD_str _ _ (shp_p P) (shp_p P), decide_eq_true rfl]
  have ly : f_Cart_lying ((s.1, s.2.1, s.2.2.1, spot0 s, home0 s, 0, 0), 0) = some (srtS (nm0 s 0)) := by
    unfold f_Cart_lying
    dsimp only
    have hb : f_Cart_has_bay ((s.1, s.2.1, s.2.2.1, spot0 s, home0 s, 0, 0), 0) = some true := by
      unfold f_Cart_has_bay
      dsimp only
      rw [bo (show f_is_whole 0 = some true from rfl), decide_eq_true (Int.le_refl 0), decide_eq_true (show (0 : Int) < s.1.length by omega)]
      rfl
    rw [bo hb, if_neg (by decide), bo (names_ok S 0 0 _ rfl)]
  have ho : f_Cart_holding (s.1, s.2.1, s.2.2.1, spot0 s, home0 s, 0, 0) = some [] := by
    unfold f_Cart_holding f_Cart_names_at_2
    dsimp only
    have e : filC (fun (x : Str × Int) => decide ((some x.2) = (none : Option Int))) (fun (x : Str × Int) => x.1) (spot0 s) = some [] := by
      rw [filC_ok (by unfold spot0; rw [List.length_map]; omega), List.filter_eq_nil_iff.mpr fun x _ => by simp]; rfl
    refine Eq.trans (bo (x := []) ?_ _) rfl
    refine Eq.trans (bo e _) ?_
    rfl
  have sh := shp_nms fun x hx => nm0_ok S 0 x ((srtS_perm _).mem_iff.mp hx)
  have q1 : eqTM (eL eS) (srtS (nm0 s 0)) (srtS (nm0 s 0)) = some true := eqT_self sh (by decide)
  have q2 : eqTM (eL eS) ([] : List Str) [] = some true := eqT_self (n := 1) (shp_nms fun x hx => by cases hx) (by decide)
  rw [bo hc, bo hsrc, bo esp]
  dsimp only
  rw [letM_eq, bo (refusedD_ok R), e1, if_neg (by decide), bo e2, bo rfl, if_neg (by decide), bo (cart_ok S), bo (show f_Cart_where (s.1, s.2.1, s.2.2.1, spot0 s, home0 s, 0, 0) = some 0 from rfl), decide_eq_true rfl, if_neg (by decide), bo ly, bo q1, if_neg (by decide), bo ho, bo q2]
  exact rt_some.mpr ⟨(), rfl, trivial⟩
end Bw

set_option maxHeartbeats 0
namespace Bw
open PySem L2
def de0 : He.DefD := ⟨("is_whole", none), "is_whole", "is_whole", defArgs s_is_whole_D, defBody s_is_whole_D, defScope s_is_whole_D, [], []⟩
def de1 : He.DefD := ⟨("is_within", none), "is_within", "is_within", defArgs s_is_within_D, defBody s_is_within_D, defScope s_is_within_D, [], []⟩
def de2 : He.DefD := ⟨("is_name", none), "is_name", "is_name", defArgs s_is_name_D, defBody s_is_name_D, defScope s_is_name_D, [], []⟩
def de3 : He.DefD := ⟨("are_within", none), "are_within", "are_within", defArgs s_are_within_D, defBody s_are_within_D, defScope s_are_within_D, [], []⟩
def de4 : He.DefD := ⟨("is_box", none), "is_box", "is_box", defArgs s_is_box_D, defBody s_is_box_D, defScope s_is_box_D, [], []⟩
def de5 : He.DefD := ⟨("has_names_twice", none), "has_names_twice", "has_names_twice", defArgs s_has_names_twice_D, defBody s_has_names_twice_D, defScope s_has_names_twice_D, [], []⟩
def de6 : He.DefD := ⟨("has_room", none), "has_room", "has_room", defArgs s_has_room_D, defBody s_has_room_D, defScope s_has_room_D, [], []⟩
def de7 : He.DefD := ⟨("are_boxes", none), "are_boxes", "are_boxes", defArgs s_are_boxes_D, defBody s_are_boxes_D, defScope s_are_boxes_D, [], []⟩
def de8 : He.DefD := ⟨("look_at_store", none), "look_at_store", "look_at_store", defArgs s_look_at_store_D, defBody s_look_at_store_D, defScope s_look_at_store_D, [], []⟩
def de9 : He.DefD := ⟨("_law_cell", none), "_law_cell", "_law_cell", defArgs s_cell, defBody s_cell, defScope s_cell, [], []⟩
def de10 : He.DefD := ⟨("_law_source", none), "_law_source", "_law_source", defArgs s_source, defBody s_source, defScope s_source, [], []⟩
def de11 : He.DefD := ⟨("_law_draw", none), "_law_draw", "_law_draw", defArgs s_draw, defBody s_draw, defScope s_draw, [], []⟩
def de12 : He.DefD := ⟨("_law_name", none), "_law_name", "_law_name", defArgs s_name, defBody s_name, defScope s_name, [], []⟩
def de13 : He.DefD := ⟨("_law_box", none), "_law_box", "_law_box", defArgs s_box, defBody s_box, defScope s_box, [], []⟩
def de14 : He.DefD := ⟨("_law_store", none), "_law_store", "_law_store", defArgs s_store, defBody s_store, defScope s_store, [], []⟩
def de15 : He.DefD := ⟨("_law_crowd", none), "_law_crowd", "_law_crowd", defArgs s_crowd, defBody s_crowd, defScope s_crowd, [], []⟩
def de16 : He.DefD := ⟨("_law_sixty_one", none), "_law_sixty_one", "_law_sixty_one", defArgs s_sixty_one, defBody s_sixty_one, defScope s_sixty_one, [], []⟩
def de17 : He.DefD := ⟨("_law_bad_boxes", none), "_law_bad_boxes", "_law_bad_boxes", defArgs s_bad_boxes, defBody s_bad_boxes, defScope s_bad_boxes, [], []⟩
def de18 : He.DefD := ⟨("_law_spoilt", none), "_law_spoilt", "_law_spoilt", defArgs s_spoilt, defBody s_spoilt, defScope s_spoilt, [], []⟩
def de19 : He.DefD := ⟨("_law_part_of", none), "_law_part_of", "_law_part_of", defArgs s_part_of, defBody s_part_of, defScope s_part_of, [], []⟩
def de20 : He.DefD := ⟨("_law_refused", none), "_law_refused", "_law_refused", defArgs s_refused_D, defBody s_refused_D, defScope s_refused_D, [], []⟩
def de21 : He.DefD := ⟨("law", none), "law", "law", defArgs s_law, defBody s_law, defScope s_law, [], []⟩
def de22 : He.DefD := ⟨("NoStore", some "__init__"), "__init__", "NoStore.__init__", defArgs s_NoStore_i, defBody s_NoStore_i, defScope s_NoStore_i, [], []⟩
def de23 : He.DefD := ⟨("Cart", some "__init__"), "__init__", "Cart.__init__", defArgs s_Cart_D, defBody s_Cart_D, defScope s_Cart_D, [], []⟩
def de24 : He.DefD := ⟨("Cart", some "has_bay"), "has_bay", "Cart.has_bay", defArgs s_Cart_has_bay, defBody s_Cart_has_bay, defScope s_Cart_has_bay, [], []⟩
def de25 : He.DefD := ⟨("Cart", some "holding"), "holding", "Cart.holding", defArgs s_Cart_holding, defBody s_Cart_holding, defScope s_Cart_holding, [], []⟩
def de26 : He.DefD := ⟨("Cart", some "lying"), "lying", "Cart.lying", defArgs s_Cart_lying, defBody s_Cart_lying, defScope s_Cart_lying, [], []⟩
def de27 : He.DefD := ⟨("Cart", some "names_at"), "names_at", "Cart.names_at", defArgs s_Cart_names_at, defBody s_Cart_names_at, defScope s_Cart_names_at, [], []⟩
def de28 : He.DefD := ⟨("Cart", some "where"), "where", "Cart.where", defArgs s_Cart_where, defBody s_Cart_where, defScope s_Cart_where, [], []⟩
def fnL : List He.DefD := [de0, de1, de2, de3, de4, de5, de6, de7, de8, de9, de10, de11, de12, de13, de14, de15, de16, de17, de18, de19, de20, de21, de22, de23, de24, de25, de26, de27, de28]
def faL : List He.Fa := [.glo "is_whole", .glo "is_within", .glo "is_name", .glo "are_within", .glo "is_box", .glo "has_names_twice", .glo "has_room", .glo "are_boxes", .glo "look_at_store", .glo "_law_cell", .glo "_law_source", .glo "_law_draw", .glo "_law_name", .glo "_law_box", .glo "_law_store", .glo "_law_crowd", .glo "_law_sixty_one", .glo "_law_bad_boxes", .glo "_law_spoilt", .glo "_law_part_of", .glo "_law_refused", .glo "law", .free "ValueError", .free "abs", .free "all", .free "bool", .free "dict", .free "enumerate", .free "int", .free "isinstance", .free "len", .free "list", .free "max", .free "min", .free "range", .free "set", .free "sorted", .free "str", .free "tuple", .int "FARTHEST" 1000000000, .int "FEWEST_BAYS" 2, .str "LETTERS" "abcdefghijklmnopqrstuvwxyz", .int "LONGEST" 8, .int "MOST_BAYS" 16, .int "MOST_BOXES" 60, .int "MOST_LOAD" 20, .int "MOST_ROOM" 40, .glo "CartError", .glo "NoAisle", .glo "NoBay", .glo "NoBox", .glo "NoFork", .glo "NoOrders", .glo "NoPaper", .glo "NoPlan", .glo "NoRoom", .glo "NoRow", .glo "NoStore", .glo "NoText", .glo "NoWants", .glo "TooMany", .glo "Unknown", .glo "Cart", .mkr "Cart", .cls "Cart", .noat "Cart" "bay", .noat "Cart" "gaps", .noat "Cart" "gone", .noat "Cart" "homes", .noat "Cart" "most", .noat "Cart" "rooms", .noat "Cart" "spots", .meth "Cart" "has_bay", .meth "Cart" "holding", .meth "Cart" "lying", .meth "Cart" "names_at", .meth "Cart" "where"]
def lo0 : List Str := ["_wall", "CartError", "NoText", "NoBay", "NoBox", "NoRoom", "NoFork", "NoWants", "NoAisle", "NoOrders", "NoRow", "Unknown", "TooMany", "NoStore", "NoPlan", "NoPaper", "LETTERS", "LONGEST", "is_whole", "is_within", "is_name", "FEWEST_BAYS", "MOST_BAYS", "MOST_ROOM", "FARTHEST", "MOST_LOAD", "MOST_BOXES", "are_within", "is_box", "has_names_twice"]
def lo1 : List Str := ["has_room", "are_boxes", "look_at_store", "Cart", "_law_cell", "_law_source", "_law_draw", "_law_name", "_law_box", "_law_store", "_law_crowd", "_law_sixty_one", "_law_bad_boxes", "_law_spoilt", "_law_part_of", "_law_refused"]
def looseL : List Str := lo0 ++ lo1
abbrev RowL : PySem.W.OpenRow := PySem.W.OpenLaw.row PySem.Challenge.rw_baycart_k14_no_store_no_cart
abbrev hkL : PySem.W.Hook := hookB 4 faL fnL (xfcB xcl xts)
def obL (s : PySem.W.SharedT) : He.AlD × Bool := obsB 4 faL fnL (xfcB xcl xts) (HandSHeadRun.getT s)
theorem obL_eq (s : PySem.W.SharedT) : obL s = hkL.obs s.abs := obsB_eq (HandSHeadRun.getT_eq s)
theorem runL (w : World) : HandSHeadRun.RunEq RowL (PySem.W.view RowL.prog [51]) hkL obL 20000 looseL w := by
  intro os
  kernel_rfl
theorem all_ok {P : Program} {w : World} {K : PySem.W.Frag} {h : Heap} {mg : Str → Option Value} {base : Heap} (X : K.In h) (G : h.Ns mainGlobals mg) (c : He.SaysD faL fnL K) (cx : xfcB xcl xts K = true) : Ok P w K mg base 9 "law" ["_law_script"] (sp_law K) := by
  have m_ValueError : mg "ValueError" = none := He.free_ok X G (c.fact 22 (f := .free "ValueError") rfl)
  have m_abs : mg "abs" = none := He.free_ok X G (c.fact 23 (f := .free "abs") rfl)
  have m_all : mg "all" = none := He.free_ok X G (c.fact 24 (f := .free "all") rfl)
  have m_bool : mg "bool" = none := He.free_ok X G (c.fact 25 (f := .free "bool") rfl)
  have m_dict : mg "dict" = none := He.free_ok X G (c.fact 26 (f := .free "dict") rfl)
  have m_enumerate : mg "enumerate" = none := He.free_ok X G (c.fact 27 (f := .free "enumerate") rfl)
  have m_int : mg "int" = none := He.free_ok X G (c.fact 28 (f := .free "int") rfl)
  have m_isinstance : mg "isinstance" = none := He.free_ok X G (c.fact 29 (f := .free "isinstance") rfl)
  have m_len : mg "len" = none := He.free_ok X G (c.fact 30 (f := .free "len") rfl)
  have m_list : mg "list" = none := He.free_ok X G (c.fact 31 (f := .free "list") rfl)
  have m_max : mg "max" = none := He.free_ok X G (c.fact 32 (f := .free "max") rfl)
  have m_min : mg "min" = none := He.free_ok X G (c.fact 33 (f := .free "min") rfl)
  have m_range : mg "range" = none := He.free_ok X G (c.fact 34 (f := .free "range") rfl)
  have m_set : mg "set" = none := He.free_ok X G (c.fact 35 (f := .free "set") rfl)
  have m_sorted : mg "sorted" = none := He.free_ok X G (c.fact 36 (f := .free "sorted") rfl)
  have m_str : mg "str" = none := He.free_ok X G (c.fact 37 (f := .free "str") rfl)
  have m_tuple : mg "tuple" = none := He.free_ok X G (c.fact 38 (f := .free "tuple") rfl)
  have c_FARTHEST : ∃ t, mg "FARTHEST" = some (.int 1000000000 t) := He.int_ok X G (c.fact 39 (f := .int "FARTHEST" 1000000000) rfl)
  have c_FEWEST_BAYS : ∃ t, mg "FEWEST_BAYS" = some (.int 2 t) := He.int_ok X G (c.fact 40 (f := .int "FEWEST_BAYS" 2) rfl)
  have c_LETTERS : ∃ t, mg "LETTERS" = some (.str "abcdefghijklmnopqrstuvwxyz" t) := He.str_ok X G (c.fact 41 (f := .str "LETTERS" "abcdefghijklmnopqrstuvwxyz") rfl)
  have c_LONGEST : ∃ t, mg "LONGEST" = some (.int 8 t) := He.int_ok X G (c.fact 42 (f := .int "LONGEST" 8) rfl)
  have c_MOST_BAYS : ∃ t, mg "MOST_BAYS" = some (.int 16 t) := He.int_ok X G (c.fact 43 (f := .int "MOST_BAYS" 16) rfl)
  have c_MOST_BOXES : ∃ t, mg "MOST_BOXES" = some (.int 60 t) := He.int_ok X G (c.fact 44 (f := .int "MOST_BOXES" 60) rfl)
  have c_MOST_LOAD : ∃ t, mg "MOST_LOAD" = some (.int 20 t) := He.int_ok X G (c.fact 45 (f := .int "MOST_LOAD" 20) rfl)
  have c_MOST_ROOM : ∃ t, mg "MOST_ROOM" = some (.int 40 t) := He.int_ok X G (c.fact 46 (f := .int "MOST_ROOM" 40) rfl)
  have g_CartError : mg "CartError" = some (.ref (He.ga K "CartError")) := He.glo_ok X G (c.fact 47 (f := .glo "CartError") rfl)
  have g_NoAisle : mg "NoAisle" = some (.ref (He.ga K "NoAisle")) := He.glo_ok X G (c.fact 48 (f := .glo "NoAisle") rfl)
  have g_NoBay : mg "NoBay" = some (.ref (He.ga K "NoBay")) := He.glo_ok X G (c.fact 49 (f := .glo "NoBay") rfl)
  have g_NoBox : mg "NoBox" = some (.ref (He.ga K "NoBox")) := He.glo_ok X G (c.fact 50 (f := .glo "NoBox") rfl)
  have g_NoFork : mg "NoFork" = some (.ref (He.ga K "NoFork")) := He.glo_ok X G (c.fact 51 (f := .glo "NoFork") rfl)
  have g_NoOrders : mg "NoOrders" = some (.ref (He.ga K "NoOrders")) := He.glo_ok X G (c.fact 52 (f := .glo "NoOrders") rfl)
  have g_NoPaper : mg "NoPaper" = some (.ref (He.ga K "NoPaper")) := He.glo_ok X G (c.fact 53 (f := .glo "NoPaper") rfl)
  have g_NoPlan : mg "NoPlan" = some (.ref (He.ga K "NoPlan")) := He.glo_ok X G (c.fact 54 (f := .glo "NoPlan") rfl)
  have g_NoRoom : mg "NoRoom" = some (.ref (He.ga K "NoRoom")) := He.glo_ok X G (c.fact 55 (f := .glo "NoRoom") rfl)
  have g_NoRow : mg "NoRow" = some (.ref (He.ga K "NoRow")) := He.glo_ok X G (c.fact 56 (f := .glo "NoRow") rfl)
  have g_NoStore : mg "NoStore" = some (.ref (He.ga K "NoStore")) := He.glo_ok X G (c.fact 57 (f := .glo "NoStore") rfl)
  have g_NoText : mg "NoText" = some (.ref (He.ga K "NoText")) := He.glo_ok X G (c.fact 58 (f := .glo "NoText") rfl)
  have g_NoWants : mg "NoWants" = some (.ref (He.ga K "NoWants")) := He.glo_ok X G (c.fact 59 (f := .glo "NoWants") rfl)
  have g_TooMany : mg "TooMany" = some (.ref (He.ga K "TooMany")) := He.glo_ok X G (c.fact 60 (f := .glo "TooMany") rfl)
  have g_Unknown : mg "Unknown" = some (.ref (He.ga K "Unknown")) := He.glo_ok X G (c.fact 61 (f := .glo "Unknown") rfl)
  have XC := xfc_of cx
  have i_NoStore : OkI P w K mg base "NoStore" "part" := ok_NoStore_i (c.def_ 22 (d := de22) rfl) g_NoStore g_CartError (ce_of cx) (oxf_of cx (by decide) (by decide))
  have d_is_whole_D : Df K mg "is_whole" s_is_whole_D := ⟨c.def_ 0 (d := de0) rfl, He.glo_ok X G (c.fact 0 (f := .glo "is_whole") rfl)⟩
  have d_is_within_D : Df K mg "is_within" s_is_within_D := ⟨c.def_ 1 (d := de1) rfl, He.glo_ok X G (c.fact 1 (f := .glo "is_within") rfl)⟩
  have d_is_name_D : Df K mg "is_name" s_is_name_D := ⟨c.def_ 2 (d := de2) rfl, He.glo_ok X G (c.fact 2 (f := .glo "is_name") rfl)⟩
  have d_are_within_D : Df K mg "are_within" s_are_within_D := ⟨c.def_ 3 (d := de3) rfl, He.glo_ok X G (c.fact 3 (f := .glo "are_within") rfl)⟩
  have d_is_box_D : Df K mg "is_box" s_is_box_D := ⟨c.def_ 4 (d := de4) rfl, He.glo_ok X G (c.fact 4 (f := .glo "is_box") rfl)⟩
  have d_has_names_twice_D : Df K mg "has_names_twice" s_has_names_twice_D := ⟨c.def_ 5 (d := de5) rfl, He.glo_ok X G (c.fact 5 (f := .glo "has_names_twice") rfl)⟩
  have d_has_room_D : Df K mg "has_room" s_has_room_D := ⟨c.def_ 6 (d := de6) rfl, He.glo_ok X G (c.fact 6 (f := .glo "has_room") rfl)⟩
  have d_are_boxes_D : Df K mg "are_boxes" s_are_boxes_D := ⟨c.def_ 7 (d := de7) rfl, He.glo_ok X G (c.fact 7 (f := .glo "are_boxes") rfl)⟩
  have d_look_at_store_D : Df K mg "look_at_store" s_look_at_store_D := ⟨c.def_ 8 (d := de8) rfl, He.glo_ok X G (c.fact 8 (f := .glo "look_at_store") rfl)⟩
  have d_cell : Df K mg "_law_cell" s_cell := ⟨c.def_ 9 (d := de9) rfl, He.glo_ok X G (c.fact 9 (f := .glo "_law_cell") rfl)⟩
  have d_source : Df K mg "_law_source" s_source := ⟨c.def_ 10 (d := de10) rfl, He.glo_ok X G (c.fact 10 (f := .glo "_law_source") rfl)⟩
  have d_draw : Df K mg "_law_draw" s_draw := ⟨c.def_ 11 (d := de11) rfl, He.glo_ok X G (c.fact 11 (f := .glo "_law_draw") rfl)⟩
  have d_name : Df K mg "_law_name" s_name := ⟨c.def_ 12 (d := de12) rfl, He.glo_ok X G (c.fact 12 (f := .glo "_law_name") rfl)⟩
  have d_box : Df K mg "_law_box" s_box := ⟨c.def_ 13 (d := de13) rfl, He.glo_ok X G (c.fact 13 (f := .glo "_law_box") rfl)⟩
  have d_store : Df K mg "_law_store" s_store := ⟨c.def_ 14 (d := de14) rfl, He.glo_ok X G (c.fact 14 (f := .glo "_law_store") rfl)⟩
  have d_crowd : Df K mg "_law_crowd" s_crowd := ⟨c.def_ 15 (d := de15) rfl, He.glo_ok X G (c.fact 15 (f := .glo "_law_crowd") rfl)⟩
  have d_sixty_one : Df K mg "_law_sixty_one" s_sixty_one := ⟨c.def_ 16 (d := de16) rfl, He.glo_ok X G (c.fact 16 (f := .glo "_law_sixty_one") rfl)⟩
  have d_bad_boxes : Df K mg "_law_bad_boxes" s_bad_boxes := ⟨c.def_ 17 (d := de17) rfl, He.glo_ok X G (c.fact 17 (f := .glo "_law_bad_boxes") rfl)⟩
  have d_spoilt : Df K mg "_law_spoilt" s_spoilt := ⟨c.def_ 18 (d := de18) rfl, He.glo_ok X G (c.fact 18 (f := .glo "_law_spoilt") rfl)⟩
  have d_part_of : Df K mg "_law_part_of" s_part_of := ⟨c.def_ 19 (d := de19) rfl, He.glo_ok X G (c.fact 19 (f := .glo "_law_part_of") rfl)⟩
  have d_refused_D : Df K mg "_law_refused" s_refused_D := ⟨c.def_ 20 (d := de20) rfl, He.glo_ok X G (c.fact 20 (f := .glo "_law_refused") rfl)⟩
  have d_law : Df K mg "law" s_law := ⟨c.def_ 21 (d := de21) rfl, He.glo_ok X G (c.fact 21 (f := .glo "law") rfl)⟩
  have d_Cart_D : DfM K "Cart" "__init__" "Cart.__init__" s_Cart_D := c.def_ 23 (d := de23) rfl
  have gc_Cart : mg "Cart" = some (.ref (He.ga K "Cart")) := He.glo_ok X G (c.fact 62 (f := .glo "Cart") rfl)
  have mkr_Cart := He.mkr_ok (K := K) (c.fact 63 (f := .mkr "Cart") rfl)
  have cl_Cart := He.cls_ok (K := K) (c.fact 64 (f := .cls "Cart") rfl)
  have na_Cart_bay := He.noat_ok (K := K) (c.fact 65 (f := .noat "Cart" "bay") rfl)
  have na_Cart_gaps := He.noat_ok (K := K) (c.fact 66 (f := .noat "Cart" "gaps") rfl)
  have na_Cart_gone := He.noat_ok (K := K) (c.fact 67 (f := .noat "Cart" "gone") rfl)
  have na_Cart_homes := He.noat_ok (K := K) (c.fact 68 (f := .noat "Cart" "homes") rfl)
  have na_Cart_most := He.noat_ok (K := K) (c.fact 69 (f := .noat "Cart" "most") rfl)
  have na_Cart_rooms := He.noat_ok (K := K) (c.fact 70 (f := .noat "Cart" "rooms") rfl)
  have na_Cart_spots := He.noat_ok (K := K) (c.fact 71 (f := .noat "Cart" "spots") rfl)
  have d_Cart_has_bay : DfM K "Cart" "has_bay" "Cart.has_bay" s_Cart_has_bay := c.def_ 24 (d := de24) rfl
  have me_Cart_has_bay := He.meth_ok (K := K) (c.fact 72 (f := .meth "Cart" "has_bay") rfl)
  have d_Cart_holding : DfM K "Cart" "holding" "Cart.holding" s_Cart_holding := c.def_ 25 (d := de25) rfl
  have me_Cart_holding := He.meth_ok (K := K) (c.fact 73 (f := .meth "Cart" "holding") rfl)
  have d_Cart_lying : DfM K "Cart" "lying" "Cart.lying" s_Cart_lying := c.def_ 26 (d := de26) rfl
  have me_Cart_lying := He.meth_ok (K := K) (c.fact 74 (f := .meth "Cart" "lying") rfl)
  have d_Cart_names_at : DfM K "Cart" "names_at" "Cart.names_at" s_Cart_names_at := c.def_ 27 (d := de27) rfl
  have me_Cart_names_at := He.meth_ok (K := K) (c.fact 75 (f := .meth "Cart" "names_at") rfl)
  have d_Cart_where : DfM K "Cart" "where" "Cart.where" s_Cart_where := c.def_ 28 (d := de28) rfl
  have me_Cart_where := He.meth_ok (K := K) (c.fact 76 (f := .meth "Cart" "where") rfl)
  have o_source := ok_source (P := P) (w := w) (mg := mg) (base := base) d_source m_abs m_int
  have o_draw := ok_draw (P := P) (w := w) (mg := mg) (base := base) d_draw 
  have o_cell := ok_cell (P := P) (w := w) (mg := mg) (base := base) d_cell m_len
  have o_name := ok_name (P := P) (w := w) (mg := mg) (base := base) d_name 
  have o_box := ok_box (P := P) (w := w) (mg := mg) (base := base) d_box m_len m_range o_name o_draw
  have o_store := ok_store (P := P) (w := w) (mg := mg) (base := base) d_store m_list m_range o_draw o_box o_source o_cell
  have o_part_of := ok_part_of (P := P) (w := w) (mg := mg) (base := base) d_part_of m_ValueError m_isinstance XC g_CartError g_NoAisle g_NoBay g_NoBox g_NoFork g_NoOrders g_NoPaper g_NoPlan g_NoRoom g_NoRow g_NoStore g_NoText g_NoWants g_TooMany g_Unknown
  have o_is_whole_D := ok_is_whole_D (P := P) (w := w) (mg := mg) (base := base) d_is_whole_D m_bool m_int m_isinstance
  have o_is_whole := ok_is_whole (P := P) (w := w) (mg := mg) (base := base) d_is_whole_D m_bool m_int m_isinstance
  have o_is_within_D := ok_is_within_D (P := P) (w := w) (mg := mg) (base := base) d_is_within_D o_is_whole_D
  have o_is_within := ok_is_within (P := P) (w := w) (mg := mg) (base := base) d_is_within_D o_is_whole
  have o_has_names_twice_D := ok_has_names_twice_D (P := P) (w := w) (mg := mg) (base := base) d_has_names_twice_D m_len m_set
  have o_has_names_twice := ok_has_names_twice (P := P) (w := w) (mg := mg) (base := base) d_has_names_twice_D m_len m_set
  have o_has_room_D := ok_has_room_D (P := P) (w := w) (mg := mg) (base := base) d_has_room_D m_enumerate m_len
  have o_has_room := ok_has_room (P := P) (w := w) (mg := mg) (base := base) d_has_room_D m_enumerate m_len
  have o_is_name_D := ok_is_name_D (P := P) (w := w) (mg := mg) (base := base) d_is_name_D m_all m_isinstance m_len m_str c_LETTERS c_LONGEST
  have o_is_name := ok_is_name (P := P) (w := w) (mg := mg) (base := base) d_is_name_D m_all m_isinstance m_len m_str c_LETTERS c_LONGEST
  have o_is_box_D := ok_is_box_D (P := P) (w := w) (mg := mg) (base := base) d_is_box_D m_isinstance m_len m_tuple o_is_within_D o_is_name_D
  have o_is_box := ok_is_box (P := P) (w := w) (mg := mg) (base := base) d_is_box_D m_isinstance m_len m_tuple o_is_within o_is_name
  have o_are_boxes_D := ok_are_boxes_D (P := P) (w := w) (mg := mg) (base := base) d_are_boxes_D m_all m_isinstance m_len m_list c_MOST_BOXES o_has_room_D o_is_box_D o_has_names_twice_D
  have o_are_boxes := ok_are_boxes (P := P) (w := w) (mg := mg) (base := base) d_are_boxes_D m_all m_isinstance m_len m_list c_MOST_BOXES o_has_room o_is_box o_has_names_twice
  have o_are_within_D := ok_are_within_D (P := P) (w := w) (mg := mg) (base := base) d_are_within_D m_all m_isinstance m_list o_is_within_D
  have o_are_within := ok_are_within (P := P) (w := w) (mg := mg) (base := base) d_are_within_D m_all m_isinstance m_list o_is_within
  have o_look_at_store_D := ok_look_at_store_D (P := P) (w := w) (mg := mg) (base := base) d_look_at_store_D m_isinstance m_len m_tuple c_FARTHEST c_FEWEST_BAYS c_MOST_BAYS c_MOST_LOAD c_MOST_ROOM o_are_boxes_D o_is_within_D o_are_within_D i_NoStore
  have o_look_at_store := ok_look_at_store (P := P) (w := w) (mg := mg) (base := base) d_look_at_store_D m_isinstance m_len m_tuple c_FARTHEST c_FEWEST_BAYS c_MOST_BAYS c_MOST_LOAD c_MOST_ROOM o_are_boxes o_is_within o_are_within i_NoStore
  have o_Cart_D := ok_Cart_D (P := P) (w := w) (mg := mg) (base := base) d_Cart_D gc_Cart mkr_Cart o_look_at_store_D
  have o_Cart_2 := ok_Cart_2 (P := P) (w := w) (mg := mg) (base := base) d_Cart_D gc_Cart mkr_Cart m_dict m_list o_look_at_store cl_Cart na_Cart_bay na_Cart_gaps na_Cart_gone na_Cart_homes na_Cart_most na_Cart_rooms na_Cart_spots
  have o_refused_D := ok_refused_D (P := P) (w := w) (mg := mg) (base := base) d_refused_D o_part_of o_Cart_D XC g_CartError
  have o_crowd := ok_crowd (P := P) (w := w) (mg := mg) (base := base) d_crowd m_len m_range
  have o_bad_boxes := ok_bad_boxes (P := P) (w := w) (mg := mg) (base := base) d_bad_boxes m_len m_tuple o_draw o_crowd
  have o_spoilt := ok_spoilt (P := P) (w := w) (mg := mg) (base := base) d_spoilt m_enumerate m_len m_list m_min m_tuple o_bad_boxes o_draw
  have o_sixty_one := ok_sixty_one (P := P) (w := w) (mg := mg) (base := base) d_sixty_one m_range
  have o_Cart_where := ok_Cart_where (P := P) (w := w) (mg := mg) (base := base) d_Cart_where cl_Cart me_Cart_where cl_Cart na_Cart_bay
  have o_Cart_names_at := ok_Cart_names_at (P := P) (w := w) (mg := mg) (base := base) d_Cart_names_at cl_Cart me_Cart_names_at m_sorted cl_Cart na_Cart_spots
  have o_Cart_names_at_2 := ok_Cart_names_at_2 (P := P) (w := w) (mg := mg) (base := base) d_Cart_names_at cl_Cart me_Cart_names_at m_sorted cl_Cart na_Cart_spots
  have o_Cart_has_bay := ok_Cart_has_bay (P := P) (w := w) (mg := mg) (base := base) d_Cart_has_bay cl_Cart me_Cart_has_bay m_len o_is_whole cl_Cart na_Cart_rooms
  have o_Cart_lying := ok_Cart_lying (P := P) (w := w) (mg := mg) (base := base) d_Cart_lying cl_Cart me_Cart_lying o_Cart_names_at o_Cart_has_bay
  have o_Cart_holding := ok_Cart_holding (P := P) (w := w) (mg := mg) (base := base) d_Cart_holding cl_Cart me_Cart_holding o_Cart_names_at_2
  have o_law := ok_law (P := P) (w := w) (mg := mg) (base := base) d_law m_isinstance m_len m_max m_min m_range m_sorted m_str o_Cart_where o_Cart_lying o_Cart_holding o_Cart_2 o_refused_D o_spoilt o_source o_cell o_sixty_one o_store
  exact o_law
end Bw
open PySem PySem.W PySem.Calls PyProof.Rows
abbrev Bw.qL : Program := view Bw.RowL.prog [51]
abbrev Bw.dL : DefRec := HandSHeadRun.topDef Bw.RowL.prog 51
theorem Bw.o_e : opening Bw.RowL.prog = plainProg Bw.RowL.prog.main.scope.names := by kernel_rfl
theorem Bw.o_f : ∀ s, fenceModules? Bw.RowL.prog s = some s := fun s => by kernel_rfl
theorem Bw.o_def : defOf Bw.qL Bw.RowL.name = some (Bw.dL, []) := by kernel_rfl
theorem Bw.o_the : Bw.RowL.prog.theDef Bw.RowL.name = some (Bw.dL.params, Bw.dL.body, Bw.dL.scope) := by kernel_rfl
theorem Bw.o_kw : kwWritten? Bw.dL.params.kwonlyargs Bw.dL.params.kw_defaults = some [] := by kernel_rfl
theorem Bw.o_1 : chainsOk Bw.qL = true := by decide +kernel
theorem Bw.o_2 : opensWell Bw.RowL.prog = true := by decide +kernel
theorem Bw.o_3 : frees Bw.RowL.toRowW = true := by decide +kernel
theorem Bw.o_4 : Bw.RowL.within.isEmpty = true := by decide +kernel
theorem Bw.o_ok : (chainsOk Bw.qL && opensWell Bw.RowL.prog && (frees Bw.RowL.toRowW && Bw.RowL.within.isEmpty)) = true := by rw [Bw.o_1, Bw.o_2, Bw.o_3, Bw.o_4]; rfl
theorem Bw.o_bare : Bw.RowL.prog.bare := ⟨rfl, rfl, rfl, rfl, rfl, by decide +kernel⟩
theorem Bw.o_hw : Bw.RowL.toRowW.promised := by w_witness2
theorem PySem.Challenge.cw_baycart_k14_no_store_no_cart_holds : PySem.Challenge.rw_baycart_k14_no_store_no_cart.Holds := by
  w_on; o_law
  refine HandSHeadRun.head_any (r := Bw.RowL) (q := Bw.qL) (H := Bw.hkL) (ob := Bw.obL) (M := 20000) (loose := Bw.looseL) (d := Bw.dL) (kwd := []) Bw.obL_eq
    Bw.o_e Bw.o_f Bw.runL Bw.o_def Bw.o_the Bw.o_kw (by rfl) (by first | assumption | decide +kernel) Bw.o_ok Bw.o_bare Bw.o_hw ?hc
  case hc =>
    refine L2.walk_ofE (l := PySem.Challenge.rw_baycart_k14_no_store_no_cart) (n := 63) (k := 9) (x := "_law_script") (CX := L2.CX0) rfl (by decide) (by kernel_rfl) ⟨rfl, by decide, by decide⟩ ?F (fun _ _ _ _ z => z)
    intro w mg fa h Y G hmg0
    obtain ⟨K, KX, c, cx⟩ := Y
    have hmg : mg ("law" : PySem.Str) = some (.ref fa) := by
      have e : (HandSHeadRun.topDef Bw.RowL.prog 51).name = ("law" : PySem.Str) := by kernel_rfl
      rw [← e]
      exact hmg0
    have ok0 : ∀ base : Heap, Bw.Ok (PySem.Challenge.rw_baycart_k14_no_store_no_cart).prog w K mg base 9 "law" ["_law_script"] (Bw.sp_law K) := fun base => Bw.all_ok KX G c cx
    have ef : fa = He.ga K "law" := Bw.ref_inj (hmg.symm.trans (ok0 h).gm)
    obtain ⟨fd, FF⟩ := c.def_ 21 (d := Bw.de21) rfl
    have bnd : ∀ (s : Shared) (u : Value), BindsTo s fd ⟨[u], []⟩ [("_law_script", u)] := fun s u => (L2.FunD.bindsA (ps := ["_law_script"]) FF fun _ _ _ _ _ _ us hl => match us, hl with | [_], _ => rfl) s [u] rfl
    refine ⟨K, fd, Bw.sp_law K, KX, bnd, fun H a ns hl _ hS => ⟨H, [], ns, true, .cons (.lst hS (Bw.Dts.of_ints ns)) .nil, Bw.sta0, Bw.law_true ns hl, fun v F2 H2 _ _ hv => hv.toBl⟩, fun base hb1 hb2 => ?_⟩
    obtain ⟨⟨fd2, F2, _, lk⟩, _, _⟩ := ok0 base
    rw [ef, (Bw.lk_of FF).one lk]
    exact F2
