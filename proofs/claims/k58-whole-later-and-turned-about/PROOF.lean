import PyProof.Rows.All
import KE.KTupTabMore
import HandS.SortKw
import Wide.All
import OpenK.AllK
import Wide.FinOn
import HandS.ForMost
import HandS.IsInst
import HandS.Zip
import HandS.FStr
import HandS.Flow
import HandS.Style
import HandS.Defaults
import HandS.HeadHook2
import HandS.Strs
import HandS.SetFor
import KE.KStateDown
import HandS.Head0
import HandS.Head1
import HandS.Head2
import HandS.TupAny
import HandS.Sort
import HandS.SortInts
import HandS.TryOnly
import KE.KDictItemsList
import KE.KDictZip
import HandS.ExcValue
import HandS.ExcInit
import HandS.TryElse
import KE.KExcIs
import KE.KTryMore
import HandS.HeadEnd
import HandS.HeadHook1
import HandS.ExcField
import HandS.Walk
import HandS.Conv
import HandS.Deep
import PySem.Challenge.RW_baycart_k58_whole_later_and_turned_about
set_option Elab.async false
set_option linter.all false
set_option maxRecDepth 100000
set_option maxHeartbeats 8000000
set_option synthInstance.maxHeartbeats 400000
set_option synthInstance.maxSize 2000

namespace Bw
open PySem L2

/-! the state: F what stands for good, cs the objects that may change -/
abbrev Cs := List (Addr × HO)
def Gr (F F' : Hp) : Prop := ∀ a o, F a = some o → F' a = some o
theorem Gr.rfl {F : Hp} : Gr F F := fun _ _ h => h
theorem Gr.tr {F F1 F2 : Hp} (a : Gr F F1) (b : Gr F1 F2) : Gr F F2 := fun x o h => b x o (a x o h)
theorem Gr.new {F : Hp} {p : Addr} {o : HO} (h : F p = none) : Gr F (upd F p o) := fun a u e => by
  rw [upd_ne (ne_of_none e h)]; exact e
structure Sta (F : Hp) (cs : Cs) (H : Hp) : Prop where
  fr : Gr F H
  sep : ∀ p ∈ cs, F p.1 = none
  has : ∀ p ∈ cs, H p.1 = some p.2
  nd : (cs.map (·.1)).Nodup
theorem Gr.back {F F' : Hp} {p : Addr} (e : Gr F F') (h : F' p = none) : F p = none := by
  cases h1 : F p with
  | none => rfl
  | some o => rw [e p o h1] at h; cases h
/-- a new thing that stays -/
theorem Sta.lay {F : Hp} {cs : Cs} {H : Hp} {p : Addr} {o : HO} (s : Sta F cs H) (h : H p = none) : Sta (upd F p o) cs (upd H p o) where
  fr := fun a u e => by
    by_cases q : a = p
    · subst q; rw [upd_same] at e ⊢; exact e
    · rw [upd_ne q] at e ⊢; exact s.fr a u e
  sep := fun c hc => by
    have q : c.1 ≠ p := fun z => by have := s.has c hc; rw [z, h] at this; cases this
    rw [upd_ne q]; exact s.sep c hc
  has := fun c hc => by
    have q : c.1 ≠ p := fun z => by have := s.has c hc; rw [z, h] at this; cases this
    rw [upd_ne q]; exact s.has c hc
  nd := s.nd
/-- a new thing that may change -/
theorem Sta.cell {F : Hp} {cs : Cs} {H : Hp} {p : Addr} {o : HO} (s : Sta F cs H) (h : H p = none) : Sta F ((p, o) :: cs) (upd H p o) where
  fr := fun a u e => by
    have q : a ≠ p := ne_of_none (s.fr a u e) h
    rw [upd_ne q]; exact s.fr a u e
  sep := fun c hc => by
    rcases List.mem_cons.mp hc with rfl | hc
    · exact s.fr.back h
    · exact s.sep c hc
  has := fun c hc => by
    rcases List.mem_cons.mp hc with rfl | hc
    · exact upd_same
    · have q : c.1 ≠ p := fun z => by have := s.has c hc; rw [z, h] at this; cases this
      rw [upd_ne q]; exact s.has c hc
  nd := by
    rw [List.map_cons, List.nodup_cons]
    refine ⟨fun hm => ?_, s.nd⟩
    obtain ⟨c, hc, e⟩ := List.mem_map.mp hm
    have := s.has c hc
    rw [e, h] at this; cases this
/-- the first changing thing is changed -/
theorem Sta.put {F : Hp} {cs : Cs} {H : Hp} {p : Addr} {o o' : HO} (s : Sta F ((p, o) :: cs) H) : Sta F ((p, o') :: cs) (upd H p o') where
  fr := fun a u e => by
    have q : a ≠ p := fun z => by have := s.sep (p, o) List.mem_cons_self; subst z; rw [e] at this; cases this
    rw [upd_ne q]; exact s.fr a u e
  sep := fun c hc => by
    rcases List.mem_cons.mp hc with rfl | hc
    · exact s.sep (p, o) List.mem_cons_self
    · exact s.sep c (List.mem_cons_of_mem _ hc)
  has := fun c hc => by
    rcases List.mem_cons.mp hc with rfl | hc
    · exact upd_same
    · have nd := s.nd
      rw [List.map_cons, List.nodup_cons] at nd
      have q : c.1 ≠ p := fun z => nd.1 (List.mem_map.mpr ⟨c, hc, z⟩)
      rw [upd_ne q]; exact s.has c (List.mem_cons_of_mem _ hc)
  nd := s.nd
/-- the order of the changing things is free -/
theorem Sta.perm {F : Hp} {cs cs' : Cs} {H : Hp} (s : Sta F cs H) (p : cs.Perm cs') : Sta F cs' H where
  fr := s.fr
  sep := fun c hc => s.sep c (p.mem_iff.mpr hc)
  has := fun c hc => s.has c (p.mem_iff.mpr hc)
  nd := (p.map (·.1)).nodup_iff.mp s.nd
theorem Sta.at {F : Hp} {cs : Cs} {H : Hp} {p : Addr} {o : HO} (s : Sta F cs H) (m : (p, o) ∈ cs) : H p = some o := s.has _ m
/-- the first changing thing changes no more -/
theorem Sta.froze {F : Hp} {cs : Cs} {H : Hp} {p : Addr} {o : HO} (s : Sta F ((p, o) :: cs) H) : Sta (upd F p o) cs H where
  fr := fun a u e => by
    by_cases q : a = p
    · subst q; rw [upd_same] at e; rw [← e]; exact s.has (a, o) List.mem_cons_self
    · rw [upd_ne q] at e; exact s.fr a u e
  sep := fun c hc => by
    have nd := s.nd
    rw [List.map_cons, List.nodup_cons] at nd
    have q : c.1 ≠ p := fun z => nd.1 (List.mem_map.mpr ⟨c, hc, z⟩)
    rw [upd_ne q]; exact s.sep c (List.mem_cons_of_mem _ hc)
  has := fun c hc => s.has c (List.mem_cons_of_mem _ hc)
  nd := by
    have nd := s.nd
    rw [List.map_cons, List.nodup_cons] at nd
    exact nd.2
theorem Sta.free {F : Hp} {cs : Cs} {H : Hp} {p : Addr} {o : HO} (s : Sta F ((p, o) :: cs) H) : F p = none := s.sep (p, o) List.mem_cons_self
theorem Sta.gfr {F : Hp} {cs : Cs} {H : Hp} {p : Addr} {o : HO} (s : Sta F ((p, o) :: cs) H) : Gr F (upd F p o) := Gr.new s.free


theorem mem_mid {α : Type} {l1 l2 : List α} {a : α} : a ∈ l1 ++ a :: l2 := by simp
/-- a changing thing is changed -/
theorem Sta.putAt {F : Hp} {l1 l2 : Cs} {H : Hp} {p : Addr} {o o' : HO} (s : Sta F (l1 ++ (p, o) :: l2) H) : Sta F (l1 ++ (p, o') :: l2) (upd H p o') :=
  ((s.perm List.perm_middle).put (o' := o')).perm List.perm_middle.symm
theorem Sta.frozeAt {F : Hp} {l1 l2 : Cs} {H : Hp} {p : Addr} {o : HO} (s : Sta F (l1 ++ (p, o) :: l2) H) : Sta (upd F p o) (l1 ++ l2) H := (s.perm List.perm_middle).froze
theorem Sta.freeAt {F : Hp} {l1 l2 : Cs} {H : Hp} {p : Addr} {o : HO} (s : Sta F (l1 ++ (p, o) :: l2) H) : F p = none := s.sep (p, o) mem_mid
theorem Sta.getAt {F : Hp} {l1 l2 : Cs} {H : Hp} {p : Addr} {o : HO} (s : Sta F (l1 ++ (p, o) :: l2) H) : H p = some o := s.has (p, o) mem_mid
theorem Gr.upd2 {F F' : Hp} {p : Addr} {o : HO} (g : Gr F F') : Gr (upd F p o) (upd F' p o) := fun a u e => by
  by_cases q : a = p
  · subst q; rw [upd_same] at e ⊢; exact e
  · rw [upd_ne q] at e ⊢; exact g a u e
def cut (F : Hp) (p : Addr) : Hp := fun a => if a = p then none else F a
theorem cut_same {F : Hp} {p : Addr} : cut F p p = none := by unfold cut; rw [if_pos rfl]
theorem cut_ne {F : Hp} {p a : Addr} (h : a ≠ p) : cut F p a = F a := by unfold cut; rw [if_neg h]
/-- what was lent comes back -/
theorem Sta.lent {F F2 : Hp} {l1 l2 : Cs} {H2 : Hp} {p : Addr} {o : HO} (g : Gr (upd F p o) F2) (s : Sta F2 (l1 ++ l2) H2) : Sta (cut F2 p) (l1 ++ (p, o) :: l2) H2 := by
  have hp : F2 p = some o := g p o upd_same
  have hn : ∀ c ∈ l1 ++ l2, c.1 ≠ p := fun c hc z => by
    have := s.sep c hc
    rw [z, hp] at this; cases this
  refine Sta.perm (cs := (p, o) :: (l1 ++ l2)) ⟨fun a u e => ?_, fun c hc => ?_, fun c hc => ?_, ?_⟩ List.perm_middle.symm
  · have q : a ≠ p := fun z => by rw [z, cut_same] at e; cases e
    rw [cut_ne q] at e; exact s.fr a u e
  · rcases List.mem_cons.mp hc with rfl | hc
    · exact cut_same
    · rw [cut_ne (hn c hc)]; exact s.sep c hc
  · rcases List.mem_cons.mp hc with rfl | hc
    · exact s.fr p o hp
    · exact s.has c hc
  · rw [List.map_cons, List.nodup_cons]
    refine ⟨fun hm => ?_, s.nd⟩
    obtain ⟨c, hc, e⟩ := List.mem_map.mp hm
    exact hn c hc e
theorem gr_cut {F F2 : Hp} {p : Addr} {o : HO} (h : F p = none) (g : Gr (upd F p o) F2) : Gr F (cut F2 p) := fun a u e => by
  have q : a ≠ p := ne_of_none e h
  rw [cut_ne q]
  exact g a u (by rw [upd_ne q]; exact e)

/-! data -/
mutual
inductive Dt (K : PySem.W.Frag) (F : Hp) : V → PyData → Prop
  | non : Dt K F .non .none
  | bl (b : Bool) : Dt K F (.bl b) (.bool b)
  | int (i : Int) : Dt K F (.int i) (.int i)
  | str (x : Str) : Dt K F (.str x) (.str x)
  | lst {a : Addr} {xs : List V} {ds : List PyData} : SqL K F a xs → Dts K F xs ds → Dt K F (.ref a) (.list ds)
  | tup {a : Addr} {xs : List V} {ds : List PyData} : SqT K F a xs → Dts K F xs ds → Dt K F (.ref a) (.tuple ds)
  | dct {a : Addr} {kvs : List (Key × V)} : F a = some (.dK kvs) → Dt K F (.ref a) (.dict [])
inductive Dts (K : PySem.W.Frag) (F : Hp) : List V → List PyData → Prop
  | nil : Dts K F [] []
  | cons {v : V} {vs : List V} {d : PyData} {ds : List PyData} : Dt K F v d → Dts K F vs ds → Dts K F (v :: vs) (d :: ds)
end
section
variable {K : PySem.W.Frag} {F F' H : Hp}
theorem gr_R {a : Addr} {u : HO} (e : Gr F F') (h : Rd F a u) : Rd F' a u := by
  rcases h with h | ⟨o, h⟩
  · exact .inl (e a _ h)
  · exact .inr ⟨o, e a _ h⟩
theorem gr_T {a : Addr} {xs : List V} (e : Gr F F') (h : SqT K F a xs) : SqT K F' a xs := by
  rcases h with h | h
  · exact .inl (gr_R e h)
  · exact .inr h
theorem gr_L {a : Addr} {xs : List V} (e : Gr F F') (h : SqL K F a xs) : SqL K F' a xs := by
  rcases h with h | h
  · exact .inl (gr_R e h)
  · exact .inr h
theorem rd_L {a : Addr} {xs : List V} (h : Rd F a (.lst xs)) : SqL K F a xs := .inl h
mutual
theorem Dt.gr (e : Gr F F') : ∀ {v : V} {d : PyData}, Dt K F v d → Dt K F' v d
  | _, _, .non => .non
  | _, _, .bl b => .bl b
  | _, _, .int i => .int i
  | _, _, .str x => .str x
  | _, _, .lst h a => .lst (gr_L e h) (Dts.gr e a)
  | _, _, .tup h a => .tup (gr_T e h) (Dts.gr e a)
  | _, _, .dct h => .dct (e _ _ h)
theorem Dts.gr (e : Gr F F') : ∀ {vs : List V} {ds : List PyData}, Dts K F vs ds → Dts K F' vs ds
  | _, _, .nil => .nil
  | _, _, .cons h t => .cons (Dt.gr e h) (Dts.gr e t)
end
theorem Dt.toInt {v : V} {i : Int} (h : Dt K F v (.int i)) : v = .int i := by cases h; rfl
theorem Dt.toStr {v : V} {x : Str} (h : Dt K F v (.str x)) : v = .str x := by cases h; rfl
theorem Dt.toBl {v : V} {b : Bool} (h : Dt K F v (.bool b)) : v = .bl b := by cases h; rfl
theorem Dt.toNon {v : V} (h : Dt K F v .none) : v = .non := by cases h; rfl
theorem Dt.toLst {v : V} {ds : List PyData} (h : Dt K F v (.list ds)) : ∃ a vs, v = .ref a ∧ SqL K F a vs ∧ Dts K F vs ds := by
  cases h with | lst h a => exact ⟨_, _, rfl, h, a⟩
theorem Dt.toTup {v : V} {ds : List PyData} (h : Dt K F v (.tuple ds)) : ∃ a vs, v = .ref a ∧ SqT K F a vs ∧ Dts K F vs ds := by
  cases h with | tup h a => exact ⟨_, _, rfl, h, a⟩
theorem Dts.len : ∀ {vs : List V} {ds : List PyData}, Dts K F vs ds → vs.length = ds.length
  | _, _, .nil => rfl
  | _, _, .cons _ t => by simp [Dts.len t]
theorem Dts.get : ∀ {vs : List V} {ds : List PyData} {i : Nat} {v : V}, Dts K F vs ds → vs[i]? = some v → ∃ d, ds[i]? = some d ∧ Dt K F v d
  | _, _, _, _, .nil, e => by simp at e
  | _, _, 0, _, .cons h _, e => by simp at e; subst e; exact ⟨_, rfl, h⟩
  | _, _, i + 1, v, .cons _ t, e => by
    obtain ⟨d, h1, h2⟩ := Dts.get (i := i) (v := v) t (by simpa using e)
    exact ⟨d, by simpa using h1, h2⟩
theorem Dts.get2 : ∀ {vs : List V} {ds : List PyData} {i : Nat} {d : PyData}, Dts K F vs ds → ds[i]? = some d → ∃ v, vs[i]? = some v ∧ Dt K F v d
  | _, _, _, _, .nil, e => by simp at e
  | _, _, 0, _, .cons h _, e => by simp at e; subst e; exact ⟨_, rfl, h⟩
  | _, _, i + 1, d, .cons _ t, e => by
    obtain ⟨v, h1, h2⟩ := Dts.get2 (i := i) (d := d) t (by simpa using e)
    exact ⟨v, by simpa using h1, h2⟩
theorem Dts.app : ∀ {vs ws : List V} {ds es : List PyData}, Dts K F vs ds → Dts K F ws es → Dts K F (vs ++ ws) (ds ++ es)
  | _, _, _, _, .nil, s => s
  | _, _, _, _, .cons h t, s => .cons h (Dts.app t s)
theorem Dts.drop : ∀ {vs : List V} {ds : List PyData} (n : Nat), Dts K F vs ds → Dts K F (vs.drop n) (ds.drop n)
  | _, _, 0, h => h
  | _, _, _ + 1, .nil => .nil
  | _, _, n + 1, .cons _ t => Dts.drop n t
theorem Dts.take : ∀ {vs : List V} {ds : List PyData} (n : Nat), Dts K F vs ds → Dts K F (vs.take n) (ds.take n)
  | _, _, 0, _ => .nil
  | _, _, _ + 1, .nil => .nil
  | _, _, n + 1, .cons h t => .cons h (Dts.take n t)
theorem Dts.setAt : ∀ {vs : List V} {ds : List PyData} {v : V} {d : PyData} (n : Nat), Dts K F vs ds → Dt K F v d → Dts K F (vs.set n v) (ds.set n d)
  | _, _, _, _, _, .nil, _ => .nil
  | _, _, _, _, 0, .cons _ t, k => .cons k t
  | _, _, _, _, n + 1, .cons h t, k => .cons h (Dts.setAt n t k)
theorem Dts.rep {vs : List V} {ds : List PyData} (h : Dts K F vs ds) : ∀ n : Nat, Dts K F (List.replicate n vs).flatten (List.replicate n ds).flatten
  | 0 => .nil
  | n + 1 => by rw [List.replicate_succ, List.replicate_succ, List.flatten_cons, List.flatten_cons]; exact h.app (Dts.rep h n)
theorem Dts.hd {vs : List V} {d : PyData} {ds : List PyData} (h : Dts K F vs (d :: ds)) : ∃ v ws, vs = v :: ws ∧ Dt K F v d ∧ Dts K F ws ds := by
  cases h with | cons h t => exact ⟨_, _, rfl, h, t⟩
theorem Dts.no {vs : List V} (h : Dts K F vs []) : vs = [] := by cases h; rfl
theorem Dts.one {vs : List V} {d : PyData} (h : Dts K F vs [d]) : ∃ v, vs = [v] ∧ Dt K F v d := by
  cases h with | cons h t => cases t; exact ⟨_, rfl, h⟩
theorem Dts.two {vs : List V} {d e : PyData} (h : Dts K F vs [d, e]) : ∃ v w, vs = [v, w] ∧ Dt K F v d ∧ Dt K F w e := by
  cases h with | cons h t => obtain ⟨w, rfl, k⟩ := t.one; exact ⟨_, _, rfl, h, k⟩
theorem Dts.three {vs : List V} {d e f : PyData} (h : Dts K F vs [d, e, f]) : ∃ v w z, vs = [v, w, z] ∧ Dt K F v d ∧ Dt K F w e ∧ Dt K F z f := by
  cases h with | cons h t => obtain ⟨w, z, rfl, k, l⟩ := t.two; exact ⟨_, _, _, rfl, h, k, l⟩
theorem Dts.four {vs : List V} {d e f g : PyData} (h : Dts K F vs [d, e, f, g]) : ∃ v w z y, vs = [v, w, z, y] ∧ Dt K F v d ∧ Dt K F w e ∧ Dt K F z f ∧ Dt K F y g := by
  cases h with | cons h t => obtain ⟨w, z, y, rfl, k, l, m⟩ := t.three; exact ⟨_, _, _, _, rfl, h, k, l, m⟩
theorem Dts.ints : ∀ {xs : List Int} {vs : List V}, Dts K F vs (xs.map .int) → vs = xs.map V.int
  | [], _, h => by cases h; rfl
  | x :: xs, _, h => by
    cases h with | cons h t => rw [h.toInt, Dts.ints t]; rfl
theorem Dts.bls : ∀ {xs : List Bool} {vs : List V}, Dts K F vs (xs.map .bool) → vs = xs.map V.bl
  | [], _, h => by cases h; rfl
  | x :: xs, _, h => by
    cases h with | cons h t => rw [h.toBl, Dts.bls t]; rfl
theorem Dts.strs : ∀ {xs : List Str} {vs : List V}, Dts K F vs (xs.map .str) → vs = xs.map V.str
  | [], _, h => by cases h; rfl
  | x :: xs, _, h => by
    cases h with | cons h t => rw [h.toStr, Dts.strs t]; rfl
theorem Dts.of_ints : ∀ xs : List Int, Dts K F (xs.map V.int) (xs.map .int)
  | [] => .nil
  | x :: xs => .cons (.int x) (Dts.of_ints xs)
theorem Dts.of_strs : ∀ xs : List Str, Dts K F (xs.map V.str) (xs.map .str)
  | [] => .nil
  | x :: xs => .cons (.str x) (Dts.of_strs xs)
theorem Dts.of_bls : ∀ xs : List Bool, Dts K F (xs.map V.bl) (xs.map .bool)
  | [] => .nil
  | x :: xs => .cons (.bl x) (Dts.of_bls xs)
mutual
theorem Dt.dp : ∀ {v : V} {d : PyData}, Dt K F v d → d.canLay0 = true → Dp K F v d
  | _, _, .non, _ => .non
  | _, _, .bl b, _ => .bl b
  | _, _, .int i, _ => .int i
  | _, _, .str x, _ => .str x
  | _, _, .lst h a, z => .lst h (Dts.dp a (by simpa [PyData.canLay0] using z))
  | _, _, .tup h a, z => .tup h (Dts.dp a (by simpa [PyData.canLay0] using z))
  | _, _, .dct h, z => by simp [PyData.canLay0] at z
theorem Dts.dp : ∀ {vs : List V} {ds : List PyData}, Dts K F vs ds → PyData.canLayAll0 ds = true → DpAll K F vs ds
  | _, _, .nil, _ => .nil
  | _, _, .cons h t, z => by
    rw [PyData.canLayAll0, Bool.and_eq_true] at z
    exact .cons (Dt.dp h z.1) (Dts.dp t z.2)
end
end
end Bw

namespace Bw
open PySem L2
/-! codes -/
abbrev eI : Int → PyData := PyData.int
abbrev eB : Bool → PyData := PyData.bool
abbrev eS : Str → PyData := PyData.str
abbrev eN : Unit → PyData := fun _ => PyData.none
abbrev eD : PyData → PyData := fun d => d
abbrev eL {α : Type} (e : α → PyData) (xs : List α) : PyData := .list (xs.map e)
abbrev eT1 {α : Type} (e : α → PyData) (x : α) : PyData := .tuple [e x]
abbrev eT2 {α β : Type} (e : α → PyData) (f : β → PyData) (x : α × β) : PyData := .tuple [e x.1, f x.2]
abbrev eT3 {α β γ : Type} (e : α → PyData) (f : β → PyData) (g : γ → PyData) (x : α × β × γ) : PyData := .tuple [e x.1, f x.2.1, g x.2.2]
abbrev eT4 {α β γ δ : Type} (e : α → PyData) (f : β → PyData) (g : γ → PyData) (h : δ → PyData) (x : α × β × γ × δ) : PyData := .tuple [e x.1, f x.2.1, g x.2.2.1, h x.2.2.2]
def eO {α : Type} (e : α → PyData) : Option α → PyData
  | none => .none
  | some x => e x
def oV {α : Type} (f : α → V) : Option α → V
  | none => .non
  | some x => f x
/-! what may fail -/
def mulM (a b : Int) : Option Int := if (-(2 ^ 64) < a ∧ a < 2 ^ 64) ∨ (-(2 ^ 64) < b ∧ b < 2 ^ 64) then some (a * b) else none
def modM (a b : Int) : Option Int := if 0 < b then some (a % b) else none
def fdivM (a b : Int) : Option Int := if 0 < b ∧ b < 1073741824 then some (a / b) else none
def powM (a b : Int) : Option Int := if 0 ≤ b ∧ b ≤ 1000000 ∧ a.natAbs < 2 ^ 64 then some (a ^ b.toNat) else none
def appM {α : Type} (xs : List α) (x : α) : Option (List α) := if xs.length < 100000 then some (xs ++ [x]) else none
def catM {α : Type} (xs ys : List α) : Option (List α) := if xs.length + ys.length ≤ 100000 then some (xs ++ ys) else none
def repM {α : Type} (xs : List α) (k : Int) : Option (List α) := if -(2 ^ 63) ≤ k ∧ k < 2 ^ 63 ∧ xs.length * k.toNat ≤ 100000 then some (List.replicate k.toNat xs).flatten else none
def scatM (x y : Str) : Option Str := if x.length + y.length ≤ 100000 then some (x ++ y) else none
def lenS (x : Str) : Option Int := if x.length ≤ 100000 then some (x.length : Int) else none
def ixS (x : Str) (i : Int) : Option Str := if x.length ≤ 100000 then (atI x.cps.toList i).map (fun c => ⟨#[c]⟩) else none
def cutL {α : Type} (xs : List α) (lo hi : Option Int) : List α := (xs.drop (HT.sIx xs.length 0 lo)).take (HT.sIx xs.length xs.length hi - HT.sIx xs.length 0 lo)
def rngL (a b : Int) : List Int := (List.range (b - a).toNat).map fun (i : Nat) => a + ((i : Nat) : Int)
def rngM (a b : Int) : Option (List Int) := if -(2 ^ 62) ≤ a ∧ a < 2 ^ 62 ∧ -(2 ^ 62) ≤ b ∧ b < 2 ^ 62 then some (rngL a b) else none
def setM {α : Type} (xs : List α) (i : Int) (x : α) : Option (List α) := (ixN xs.length i).map fun j => xs.set j x
def strM (n : Int) : Option Str := if n.natAbs.log2 < 1920 then some (toString n) else none
def b2I (b : Bool) : Int := if b then 1 else 0
def absI (i : Int) : Int := if i < 0 then -i else i
def maxI (i j : Int) : Int := if j > i then j else i
def minI (i j : Int) : Int := if j < i then j else i
def signs (x : Str) : List Str := x.cps.toList.map fun c => ⟨#[c]⟩
def enumM {α : Type} (xs : List α) : List (Int × α) := xs.mapIdx fun i x => ((i : Int), x)
def inS (x y : Str) : Bool := !(Builtin.Str.occurrences y x 0 y.length 1).isEmpty
def letM {α β : Type} (x : α) (f : α → β) : β := f x
theorem sz {n : Nat} (h : n ≤ 100000) : n ≤ sizeLine := Nat.le_trans h (by decide)
theorem szl {n : Nat} (h : n < 100000) : n < sizeLine := Nat.lt_of_lt_of_le h (by decide)
theorem mulM_some {a b c : Int} (h : mulM a b = some c) : CMul a b ∧ a * b = c := by
  unfold mulM at h; split at h
  · rename_i q; exact ⟨q, Option.some.inj h⟩
  · cases h
theorem modM_some {a b c : Int} (h : modM a b = some c) : 0 < b ∧ a % b = c := by
  unfold modM at h; split at h
  · rename_i q; exact ⟨q, Option.some.inj h⟩
  · cases h
theorem fdivM_some {a b c : Int} (h : fdivM a b = some c) : CDiv a b ∧ a / b = c := by
  unfold fdivM at h; split at h
  · rename_i q; exact ⟨q, Option.some.inj h⟩
  · cases h
theorem powM_some {a b c : Int} (h : powM a b = some c) : CPow a b ∧ a ^ b.toNat = c := by
  unfold powM at h; split at h
  · rename_i q; exact ⟨q, Option.some.inj h⟩
  · cases h
theorem appM_some {α : Type} {xs ys : List α} {x : α} (h : appM xs x = some ys) : xs.length < 100000 ∧ xs ++ [x] = ys := by
  unfold appM at h; split at h
  · rename_i q; exact ⟨q, Option.some.inj h⟩
  · cases h
theorem catM_some {α : Type} {xs ys zs : List α} (h : catM xs ys = some zs) : xs.length + ys.length ≤ 100000 ∧ xs ++ ys = zs := by
  unfold catM at h; split at h
  · rename_i q; exact ⟨q, Option.some.inj h⟩
  · cases h
theorem repM_some {α : Type} {xs zs : List α} {k : Int} (h : repM xs k = some zs) : (-(2 ^ 63) ≤ k ∧ k < 2 ^ 63 ∧ xs.length * k.toNat ≤ 100000) ∧ (List.replicate k.toNat xs).flatten = zs := by
  unfold repM at h; split at h
  · rename_i q; exact ⟨q, Option.some.inj h⟩
  · cases h
theorem scatM_some {x y z : Str} (h : scatM x y = some z) : x.length + y.length ≤ 100000 ∧ x ++ y = z := by
  unfold scatM at h; split at h
  · rename_i q; exact ⟨q, Option.some.inj h⟩
  · cases h
theorem lenS_some {x : Str} {n : Int} (h : lenS x = some n) : x.length ≤ 100000 ∧ (x.length : Int) = n := by
  unfold lenS at h; split at h
  · rename_i q; exact ⟨q, Option.some.inj h⟩
  · cases h
theorem strM_some {x : Int} {n : Str} (h : strM x = some n) : x.natAbs.log2 < 1920 ∧ toString x = n := by
  unfold strM at h; split at h
  · rename_i q; exact ⟨q, Option.some.inj h⟩
  · cases h
theorem ixS_some {x z : Str} {i : Int} (h : ixS x i = some z) : x.length ≤ 100000 ∧ ∃ c, atI x.cps.toList i = some c ∧ z = ⟨#[c]⟩ := by
  unfold ixS at h; split at h
  · rename_i q
    refine ⟨q, ?_⟩
    cases e : atI x.cps.toList i with
    | none => rw [e] at h; cases h
    | some c => rw [e] at h; exact ⟨c, rfl, (Option.some.inj h).symm⟩
  · cases h
theorem rngM_some {a b : Int} {xs : List Int} (h : rngM a b = some xs) : (-(2 ^ 62) ≤ a ∧ a < 2 ^ 62 ∧ -(2 ^ 62) ≤ b ∧ b < 2 ^ 62) ∧ rngL a b = xs := by
  unfold rngM at h; split at h
  · rename_i q; exact ⟨q, Option.some.inj h⟩
  · cases h
theorem setM_some {α : Type} {xs ys : List α} {i : Int} {x : α} (h : setM xs i x = some ys) : ∃ j, ixN xs.length i = some j ∧ ys = xs.set j x := by
  unfold setM at h
  cases e : ixN xs.length i with
  | none => rw [e] at h; cases h
  | some j => rw [e] at h; exact ⟨j, rfl, (Option.some.inj h).symm⟩
theorem atI_map {α β : Type} (f : α → β) (xs : List α) (i : Int) : atI (xs.map f) i = (atI xs i).map f := by
  unfold atI
  rw [List.length_map]
  cases ixN xs.length i with
  | none => rfl
  | some j => simp
theorem cutL_map {α β : Type} (f : α → β) (xs : List α) (lo hi : Option Int) : cutL (xs.map f) lo hi = (cutL xs lo hi).map f := by
  unfold cutL
  simp [List.map_take, List.map_drop]
theorem bnd {α β : Type} {a : Option α} {f : α → Option β} {r : β} (h : a.bind f = some r) : ∃ x, a = some x ∧ f x = some r := by
  cases a with
  | none => cases h
  | some x => exact ⟨x, rfl, h⟩
theorem lt {α β : Type} {a : α} {f : α → Option β} {r : β} (h : letM a f = some r) : ∃ x, a = x ∧ f x = some r := ⟨a, rfl, h⟩
theorem sm {α : Type} {x y : α} (h : some x = some y) : x = y := Option.some.inj h

/-! triples -/
def Ev (te : TE) (σ : St) (F : Hp) (cs : Cs) (Φ : V → Hp → Prop) (cs' : Cs) : Prop :=
  ∀ F1 H1, Gr F F1 → Sta F1 cs H1 → ∀ Q : VK, (∀ v F2 H2, Gr F1 F2 → Sta F2 cs' H2 → Φ v F2 → Q v H2) → te σ H1 Q
def EvT (tt : TT) (σ : St) (F : Hp) (cs : Cs) (b : Bool) (cs' : Cs) : Prop :=
  ∀ F1 H1, Gr F F1 → Sta F1 cs H1 → ∀ Q : Bool → Hp → Prop, (∀ F2 H2, Gr F1 F2 → Sta F2 cs' H2 → Q b H2) → tt σ H1 Q
def EvA (ta : TA) (σ : St) (F : Hp) (cs : Cs) (Φ : List V → Hp → Prop) (cs' : Cs) : Prop :=
  ∀ F1 H1, Gr F F1 → Sta F1 cs H1 → ∀ Q : List V → Hp → Prop, (∀ vs F2 H2, Gr F1 F2 → Sta F2 cs' H2 → Φ vs F2 → Q vs H2) → ta σ H1 Q
def EvO (to : TO) (σ : St) (F : Hp) (cs : Cs) (o : Option Int) (cs' : Cs) : Prop :=
  ∀ F1 H1, Gr F F1 → Sta F1 cs H1 → ∀ Q : Option Int → Hp → Prop, (∀ F2 H2, Gr F1 F2 → Sta F2 cs' H2 → Q o H2) → to σ H1 Q
abbrev EvD (K : PySem.W.Frag) (te : TE) (σ : St) (F : Hp) (cs : Cs) (d : PyData) (cs' : Cs) : Prop := Ev te σ F cs (fun v F' => Dt K F' v d) cs'
abbrev EvDs (K : PySem.W.Frag) (ta : TA) (σ : St) (F : Hp) (cs : Cs) (ds : List PyData) (cs' : Cs) : Prop := EvA ta σ F cs (fun vs F' => Dts K F' vs ds) cs'
def Src (K : PySem.W.Frag) (J : It) (F : Hp) (ds : List PyData) : Prop := ∀ F1 c1 H1, Gr F F1 → Sta F1 c1 H1 →
  (∀ i, i < ds.length → J.go i H1) ∧ J.stop ds.length H1 ∧ ∀ i v H2 d, ds[i]? = some d → J.yld i H1 v H2 → ∃ F2, Gr F1 F2 ∧ Sta F2 c1 H2 ∧ Dt K F2 v d
def EvI (K : PySem.W.Frag) (wi : TI) (σ : St) (F : Hp) (cs : Cs) (ds : List PyData) (cs' : Cs) : Prop :=
  ∀ F1 H1, Gr F F1 → Sta F1 cs H1 → ∀ R : It → Hp → Prop, (∀ J F2 H2, Gr F1 F2 → Sta F2 cs' H2 → Src K J F2 ds → R J H2) → wi σ H1 R
section
variable {K : PySem.W.Frag} {σ : St} {F F' : Hp} {cs cs1 cs2 cs3 : Cs} {ta tb tc te : TE} {d e : PyData} {as : TA}
theorem Ev.gr {Φ : V → Hp → Prop} (g : Gr F F') (h : Ev te σ F cs Φ cs1) : Ev te σ F' cs Φ cs1 := fun F1 H1 g1 s Q q => h F1 H1 (g.tr g1) s Q q
theorem d_is (h : EvD K te σ F cs d cs1) (q : d = e) : EvD K te σ F cs e cs1 := q ▸ h
theorem d_var {i : Nat} {v : V} (h : σ[i]? = some (some v)) (hd : Dt K F v d) : EvD K (tVar i) σ F cs d cs := fun F1 H1 g s Q q => ⟨v, h, q v F1 H1 .rfl s (Dt.gr g hd)⟩
theorem d_int {i : Int} : EvD K (tC (.int i)) σ F cs (.int i) cs := fun F1 H1 g s Q q => q _ F1 H1 .rfl s (.int i)
theorem d_bl {b : Bool} : EvD K (tC (.bl b)) σ F cs (.bool b) cs := fun F1 H1 g s Q q => q _ F1 H1 .rfl s (.bl b)
theorem d_str {x : Str} : EvD K (tC (.str x)) σ F cs (.str x) cs := fun F1 H1 g s Q q => q _ F1 H1 .rfl s (.str x)
theorem d_non : EvD K (tC .non) σ F cs .none cs := fun F1 H1 g s Q q => q _ F1 H1 .rfl s .non
/-- two operands -/
theorem d_op {r : R2} {z : PyData} (ha : EvD K ta σ F cs d cs1) (hb : EvD K tb σ F cs1 e cs2) (hr : ∀ x y F2 H2, Dt K F2 x d → Dt K F2 y e → Sta F2 cs2 H2 → Gr F F2 → ∀ Q : VK, (∀ v F3 H3, Gr F2 F3 → Sta F3 cs3 H3 → Dt K F3 v z → Q v H3) → r x y H2 Q) : EvD K (tOp r ta tb) σ F cs z cs3 := fun F1 H1 g1 s Q q =>
  ha F1 H1 g1 s _ fun v F2 H2 g2 s2 h2 => hb F2 H2 (g1.tr g2) s2 _ fun w F3 H3 g3 s3 h3 => hr v w F3 H3 (Dt.gr g3 h2) h3 s3 ((g1.tr g2).tr g3) Q fun v F4 H4 g4 s4 h4 => q v F4 H4 ((g2.tr g3).tr g4) s4 h4
theorem d_I0 {g : Int → Int → V} {a b : Int} {z : PyData} (ha : EvD K ta σ F cs (.int a) cs1) (hb : EvD K tb σ F cs1 (.int b) cs2) (hz : ∀ F, Dt K F (g a b) z) : EvD K (tOp (rI0 g) ta tb) σ F cs z cs2 :=
  d_op ha hb fun x y F2 H2 hx hy s _ Q q => by
    cases hx.toInt; cases hy.toInt
    exact ⟨a, b, rfl, rfl, q _ F2 H2 .rfl s (hz _)⟩
theorem d_I {C : Int → Int → Prop} {g : Int → Int → V} {a b : Int} {z : PyData} (ha : EvD K ta σ F cs (.int a) cs1) (hb : EvD K tb σ F cs1 (.int b) cs2) (hc : C a b) (hz : ∀ F, Dt K F (g a b) z) : EvD K (tOp (rI C g) ta tb) σ F cs z cs2 :=
  d_op ha hb fun x y F2 H2 hx hy s _ Q q => by
    cases hx.toInt; cases hy.toInt
    exact ⟨a, b, rfl, rfl, hc, q _ F2 H2 .rfl s (hz _)⟩
variable {a b c : Int}
theorem d_add (ha : EvD K ta σ F cs (.int a) cs1) (hb : EvD K tb σ F cs1 (.int b) cs2) : EvD K (tOp (rI0 fun i j => .int (i + j)) ta tb) σ F cs (.int (a + b)) cs2 := d_I0 ha hb fun _ => .int _
theorem d_sub (ha : EvD K ta σ F cs (.int a) cs1) (hb : EvD K tb σ F cs1 (.int b) cs2) : EvD K (tOp (rI0 fun i j => .int (i - j)) ta tb) σ F cs (.int (a - b)) cs2 := d_I0 ha hb fun _ => .int _
theorem d_lt (ha : EvD K ta σ F cs (.int a) cs1) (hb : EvD K tb σ F cs1 (.int b) cs2) : EvD K (tOp (rI0 fun i j => .bl (decide (i < j))) ta tb) σ F cs (.bool (decide (a < b))) cs2 := d_I0 ha hb fun _ => .bl _
theorem d_le (ha : EvD K ta σ F cs (.int a) cs1) (hb : EvD K tb σ F cs1 (.int b) cs2) : EvD K (tOp (rI0 fun i j => .bl (decide (i ≤ j))) ta tb) σ F cs (.bool (decide (a ≤ b))) cs2 := d_I0 ha hb fun _ => .bl _
theorem d_gt (ha : EvD K ta σ F cs (.int a) cs1) (hb : EvD K tb σ F cs1 (.int b) cs2) : EvD K (tOp (rI0 fun i j => .bl (decide (j < i))) ta tb) σ F cs (.bool (decide (b < a))) cs2 := d_I0 ha hb fun _ => .bl _
theorem d_ge (ha : EvD K ta σ F cs (.int a) cs1) (hb : EvD K tb σ F cs1 (.int b) cs2) : EvD K (tOp (rI0 fun i j => .bl (decide (j ≤ i))) ta tb) σ F cs (.bool (decide (b ≤ a))) cs2 := d_I0 ha hb fun _ => .bl _
theorem d_mul (ha : EvD K ta σ F cs (.int a) cs1) (hb : EvD K tb σ F cs1 (.int b) cs2) (hc : mulM a b = some c) : EvD K (tOp (rI CMul fun i j => .int (i * j)) ta tb) σ F cs (.int c) cs2 := (mulM_some hc).2 ▸ d_I ha hb (mulM_some hc).1 fun _ => .int _
theorem d_mod (ha : EvD K ta σ F cs (.int a) cs1) (hb : EvD K tb σ F cs1 (.int b) cs2) (hc : modM a b = some c) : EvD K (tOp (rI (fun _ j => 0 < j) fun i j => .int (i % j)) ta tb) σ F cs (.int c) cs2 := (modM_some hc).2 ▸ d_I (C := fun _ j => 0 < j) ha hb (modM_some hc).1 fun _ => .int _
theorem d_fdiv (ha : EvD K ta σ F cs (.int a) cs1) (hb : EvD K tb σ F cs1 (.int b) cs2) (hc : fdivM a b = some c) : EvD K (tOp (rI CDiv fun i j => .int (i / j)) ta tb) σ F cs (.int c) cs2 := (fdivM_some hc).2 ▸ d_I ha hb (fdivM_some hc).1 fun _ => .int _
theorem d_pow (ha : EvD K ta σ F cs (.int a) cs1) (hb : EvD K tb σ F cs1 (.int b) cs2) (hc : powM a b = some c) : EvD K (tOp (rI CPow fun i j => .int (i ^ j.toNat)) ta tb) σ F cs (.int c) cs2 := (powM_some hc).2 ▸ d_I ha hb (powM_some hc).1 fun _ => .int _
theorem d_neg (ha : EvD K ta σ F cs (.int a) cs1) : EvD K (tUn (rU fun i => .int (-i)) ta) σ F cs (.int (-a)) cs1 := fun F1 H1 g1 s Q q =>
  ha F1 H1 g1 s _ fun v F2 H2 g2 s2 h2 => ⟨a, h2.toInt, q _ F2 H2 g2 s2 (.int _)⟩
/-- arguments -/
theorem a_nil : EvDs K tNil σ F cs [] cs := fun F1 H1 g s Q q => q [] F1 H1 .rfl s .nil
theorem a_cons {tr : TA} {ds : List PyData} (h : EvD K ta σ F cs d cs1) (hr : EvDs K tr σ F cs1 ds cs2) : EvDs K (tCons ta tr) σ F cs (d :: ds) cs2 := fun F1 H1 g1 s Q q =>
  h F1 H1 g1 s _ fun v F2 H2 g2 s2 h2 => hr F2 H2 (g1.tr g2) s2 _ fun vs F3 H3 g3 s3 h3 => q (v :: vs) F3 H3 (g2.tr g3) s3 (.cons (Dt.gr g3 h2) h3)
/-- a built-in's call -/
theorem d_cb {r : List V → Hp → VK → Prop} {ds : List PyData} {z : PyData} (ha : EvDs K as σ F cs ds cs1) (hr : ∀ vs F2 H2, Dts K F2 vs ds → Sta F2 cs1 H2 → ∀ Q : VK, (∀ v F3 H3, Gr F2 F3 → Sta F3 cs1 H3 → Dt K F3 v z → Q v H3) → r vs H2 Q) : EvD K (tCB r as) σ F cs z cs1 := fun F1 H1 g1 s Q q =>
  ha F1 H1 g1 s _ fun vs F2 H2 g2 s2 h2 => hr vs F2 H2 h2 s2 Q fun v F3 H3 g3 s3 h3 => q v F3 H3 (g2.tr g3) s3 h3
theorem d_abs (ha : EvDs K as σ F cs [.int a] cs1) : EvD K (tCB (fun xs H Q => ∃ i, xs = [.int i] ∧ Q (.int (if i < 0 then -i else i)) H) as) σ F cs (.int (absI a)) cs1 := d_cb ha fun vs F2 H2 h s Q q => by
  obtain ⟨v, rfl, k1⟩ := h.one; cases k1.toInt
  exact ⟨a, rfl, q _ F2 H2 .rfl s (.int _)⟩
theorem d_max2 (ha : EvDs K as σ F cs [.int a, .int b] cs1) : EvD K (tCB (fun xs H Q => ∃ i j, xs = [.int i, .int j] ∧ Q (.int (if j > i then j else i)) H) as) σ F cs (.int (maxI a b)) cs1 := d_cb ha fun vs F2 H2 h s Q q => by
  obtain ⟨v, w, rfl, k1, k2⟩ := h.two; cases k1.toInt; cases k2.toInt
  exact ⟨a, b, rfl, q _ F2 H2 .rfl s (.int _)⟩
theorem d_min2 (ha : EvDs K as σ F cs [.int a, .int b] cs1) : EvD K (tCB (fun xs H Q => ∃ i j, xs = [.int i, .int j] ∧ Q (.int (if j < i then j else i)) H) as) σ F cs (.int (minI a b)) cs1 := d_cb ha fun vs F2 H2 h s Q q => by
  obtain ⟨v, w, rfl, k1, k2⟩ := h.two; cases k1.toInt; cases k2.toInt
  exact ⟨a, b, rfl, q _ F2 H2 .rfl s (.int _)⟩
theorem d_lenL {ds : List PyData} (ha : EvDs K as σ F cs [.list ds] cs1) : EvD K (tCB (fun xs H Q => ∃ p ys, xs = [.ref p] ∧ (SqL K H p ys ∨ SqT K H p ys) ∧ Q (.int ys.length) H) as) σ F cs (.int ds.length) cs1 := d_cb ha fun vs F2 H2 h s Q q => by
  obtain ⟨v, rfl, k1⟩ := h.one
  obtain ⟨p, ys, rfl, hl, hd⟩ := k1.toLst
  exact ⟨p, ys, rfl, .inl (gr_L s.fr hl), q _ F2 H2 .rfl s (by rw [hd.len]; exact .int _)⟩
theorem d_len {α : Type} {e : α → PyData} {xs : List α} (ha : EvDs K as σ F cs [eL e xs] cs1) : EvD K (tCB (fun xs H Q => ∃ p ys, xs = [.ref p] ∧ (SqL K H p ys ∨ SqT K H p ys) ∧ Q (.int ys.length) H) as) σ F cs (.int xs.length) cs1 := by
  have := d_lenL ha
  rw [List.length_map] at this
  exact this
theorem d_lenT {ds : List PyData} (ha : EvDs K as σ F cs [.tuple ds] cs1) : EvD K (tCB (fun xs H Q => ∃ p ys, xs = [.ref p] ∧ (SqL K H p ys ∨ SqT K H p ys) ∧ Q (.int ys.length) H) as) σ F cs (.int ds.length) cs1 := d_cb ha fun vs F2 H2 h s Q q => by
  obtain ⟨v, rfl, k1⟩ := h.one
  obtain ⟨p, ys, rfl, hl, hd⟩ := k1.toTup
  exact ⟨p, ys, rfl, .inr (gr_T s.fr hl), q _ F2 H2 .rfl s (by rw [hd.len]; exact .int _)⟩
theorem d_lenS {x : Str} {n : Int} (ha : EvDs K as σ F cs [.str x] cs1) (hn : lenS x = some n) : EvD K (tCB (fun xs H Q => ∃ z, xs = [.str z] ∧ z.length ≤ sizeLine ∧ Q (.int z.length) H) as) σ F cs (.int n) cs1 := d_cb ha fun vs F2 H2 h s Q q => by
  obtain ⟨v, rfl, k1⟩ := h.one; cases k1.toStr
  obtain ⟨h1, rfl⟩ := lenS_some hn
  exact ⟨x, rfl, sz h1, q _ F2 H2 .rfl s (.int _)⟩
theorem d_intB {b : Bool} (ha : EvDs K as σ F cs [.bool b] cs1) : EvD K (tCB (fun xs H Q => (∃ i, xs = [.int i] ∧ Q (.int i) H) ∨ ∃ k, xs = [.bl k] ∧ Q (.int (if k then 1 else 0)) H) as) σ F cs (.int (b2I b)) cs1 := d_cb ha fun vs F2 H2 h s Q q => by
  obtain ⟨v, rfl, k1⟩ := h.one; cases k1.toBl
  exact .inr ⟨b, rfl, q _ F2 H2 .rfl s (.int _)⟩
theorem d_strI {x : Str} (ha : EvDs K as σ F cs [.int a] cs1) (hn : strM a = some x) : EvD K (tCB (fun xs H Q => ∃ i, xs = [.int i] ∧ i.natAbs.log2 < 1920 ∧ Q (.str (toString i)) H) as) σ F cs (.str x) cs1 := d_cb ha fun vs F2 H2 h s Q q => by
  obtain ⟨v, rfl, k1⟩ := h.one; cases k1.toInt
  obtain ⟨h1, rfl⟩ := strM_some hn
  exact ⟨a, rfl, h1, q _ F2 H2 .rfl s (.str _)⟩
theorem d_sum {xs : List Int} (ha : EvDs K as σ F cs [eL eI xs] cs1) : EvD K (tCB (rSum K) as) σ F cs (.int xs.sum) cs1 := d_cb ha fun vs F2 H2 h s Q q => by
  obtain ⟨v, rfl, k1⟩ := h.one
  obtain ⟨p, ys, rfl, hl, hd⟩ := k1.toLst
  cases hd.ints
  exact ⟨p, xs, rfl, gr_L s.fr hl, q _ F2 H2 .rfl s (.int _)⟩
theorem d_all {xs : List Bool} (ha : EvDs K as σ F cs [eL eB xs] cs1) : EvD K (tCB (rAll K) as) σ F cs (.bool (xs.all id)) cs1 := d_cb ha fun vs F2 H2 h s Q q => by
  obtain ⟨v, rfl, k1⟩ := h.one
  obtain ⟨p, ys, rfl, hl, hd⟩ := k1.toLst
  cases hd.bls
  exact ⟨p, xs, rfl, gr_L s.fr hl, q _ F2 H2 .rfl s (.bl _)⟩
theorem d_any {xs : List Bool} (ha : EvDs K as σ F cs [eL eB xs] cs1) : EvD K (tCB (rAny K) as) σ F cs (.bool (xs.any id)) cs1 := d_cb ha fun vs F2 H2 h s Q q => by
  obtain ⟨v, rfl, k1⟩ := h.one
  obtain ⟨p, ys, rfl, hl, hd⟩ := k1.toLst
  cases hd.bls
  exact ⟨p, xs, rfl, gr_L s.fr hl, q _ F2 H2 .rfl s (.bl _)⟩
theorem d_listL {ds : List PyData} (ha : EvDs K as σ F cs [.list ds] cs1) : EvD K (tCB (fun xs H Q => ∃ p ys, xs = [.ref p] ∧ (SqL K H p ys ∨ SqT K H p ys) ∧ ∀ l, H l = none → Q (.ref l) (upd H l (.lst ys))) as) σ F cs (.list ds) cs1 := d_cb ha fun vs F2 H2 h s Q q => by
  obtain ⟨v, rfl, k1⟩ := h.one
  obtain ⟨p, ys, rfl, hl, hd⟩ := k1.toLst
  exact ⟨p, ys, rfl, .inl (gr_L s.fr hl), fun l nl => q _ _ _ (Gr.new (s.fr.back nl)) (s.lay nl) (.lst (.inl (.inl upd_same)) (hd.gr (Gr.new (s.fr.back nl))))⟩
/-- a new list, a new tuple -/
theorem d_lst {ds : List PyData} (h : EvDs K as σ F cs ds cs1) (hl : ds.length ≤ 100000) : EvD K (tLst as) σ F cs (.list ds) cs1 := fun F1 H1 g1 s Q q =>
  h F1 H1 g1 s _ fun vs F2 H2 g2 s2 h2 => ⟨h2.len.symm ▸ sz hl, fun p hp => q _ _ _ (g2.tr (Gr.new (s2.fr.back hp))) (s2.lay hp) (.lst (.inl (.inl upd_same)) (h2.gr (Gr.new (s2.fr.back hp))))⟩
theorem d_tup {ds : List PyData} (h : EvDs K as σ F cs ds cs1) (hl : ds.length ≤ 100000) : EvD K (tTup as) σ F cs (.tuple ds) cs1 := fun F1 H1 g1 s Q q =>
  h F1 H1 g1 s _ fun vs F2 H2 g2 s2 h2 => ⟨h2.len.symm ▸ sz hl, fun p hp => q _ _ _ (g2.tr (Gr.new (s2.fr.back hp))) (s2.lay hp) (.tup (.inl (.inl upd_same)) (h2.gr (Gr.new (s2.fr.back hp))))⟩
/-- items -/
theorem d_ixLs {ds : List PyData} {z : PyData} (ha : EvD K ta σ F cs (.list ds) cs1) (hb : EvD K tb σ F cs1 (.int b) cs2) (hz : atI ds b = some z) : EvD K (tOp (rIxL K) ta tb) σ F cs z cs2 :=
  d_op ha hb fun x y F2 H2 hx hy s _ Q q => by
    obtain ⟨p, vs, rfl, hl, hd⟩ := hx.toLst; cases hy.toInt
    unfold atI at hz
    rw [← hd.len] at hz
    cases e : ixN vs.length b with
    | none => rw [e] at hz; cases hz
    | some j =>
      rw [e] at hz
      obtain ⟨v, h1, h2⟩ := hd.get2 (show ds[j]? = some z from hz)
      exact ⟨p, vs, b, v, rfl, rfl, gr_L s.fr hl, by unfold atI; rw [e]; exact h1, q v F2 H2 .rfl s h2⟩
theorem d_ix {α : Type} {e : α → PyData} {xs : List α} {x : α} (ha : EvD K ta σ F cs (eL e xs) cs1) (hb : EvD K tb σ F cs1 (.int b) cs2) (hz : atI xs b = some x) : EvD K (tOp (rIxL K) ta tb) σ F cs (e x) cs2 :=
  d_ixLs ha hb (by rw [atI_map, hz]; rfl)
theorem d_ixT {ds : List PyData} {z : PyData} (ha : EvD K ta σ F cs (.tuple ds) cs1) (hb : EvD K tb σ F cs1 (.int b) cs2) (hz : atI ds b = some z) : EvD K (tOp (rIxT K) ta tb) σ F cs z cs2 :=
  d_op ha hb fun x y F2 H2 hx hy s _ Q q => by
    obtain ⟨p, vs, rfl, hl, hd⟩ := hx.toTup; cases hy.toInt
    unfold atI at hz
    rw [← hd.len] at hz
    cases e : ixN vs.length b with
    | none => rw [e] at hz; cases hz
    | some j =>
      rw [e] at hz
      obtain ⟨v, h1, h2⟩ := hd.get2 (show ds[j]? = some z from hz)
      exact ⟨p, vs, b, v, rfl, rfl, gr_T s.fr hl, by unfold atI; rw [e]; exact h1, q v F2 H2 .rfl s h2⟩
theorem d_ixS {x z : Str} (ha : EvD K ta σ F cs (.str x) cs1) (hb : EvD K tb σ F cs1 (.int b) cs2) (hz : ixS x b = some z) : EvD K (tOp rIxS ta tb) σ F cs (.str z) cs2 :=
  d_op ha hb fun v y F2 H2 hx hy s _ Q q => by
    cases hx.toStr; cases hy.toInt
    obtain ⟨h1, c, h2, rfl⟩ := ixS_some hz
    exact ⟨x, b, c, rfl, rfl, sz h1, h2, q _ F2 H2 .rfl s (.str _)⟩
/-- slices -/
theorem o_none : EvO tNoPart σ F cs none cs := fun F1 H1 g s Q q => q F1 H1 .rfl s
theorem o_some (h : EvD K te σ F cs (.int a) cs1) : EvO (tPart te) σ F cs (some a) cs1 := fun F1 H1 g1 s Q q => h F1 H1 g1 s _ fun v F2 H2 g2 s2 h2 => ⟨a, h2.toInt, q F2 H2 g2 s2⟩
theorem d_sl {α : Type} {e : α → PyData} {xs : List α} {tl th : TO} {lo hi : Option Int} (h : EvD K te σ F cs (eL e xs) cs1) (h1 : EvO tl σ F cs1 lo cs2) (h2 : EvO th σ F cs2 hi cs3) : EvD K (tSl (rSlL K) te tl th) σ F cs (eL e (cutL xs lo hi)) cs3 := fun F1 H1 g1 s Q q =>
  h F1 H1 g1 s _ fun v F2 H2 g2 s2 hv => h1 F2 H2 (g1.tr g2) s2 _ fun F3 H3 g3 s3 => h2 F3 H3 ((g1.tr g2).tr g3) s3 _ fun F4 H4 g4 s4 => by
    obtain ⟨p, vs, rfl, hl, hd⟩ := hv.toLst
    have hd' := hd.gr (g3.tr g4)
    refine ⟨p, vs, rfl, gr_L s4.fr (gr_L (g3.tr g4) hl), fun l nl => q _ _ _ ((g2.tr (g3.tr g4)).tr (Gr.new (s4.fr.back nl))) (s4.lay nl) (.lst (.inl (.inl upd_same)) ?_)⟩
    rw [← cutL_map]
    unfold cutV cutL
    rw [hd.len]
    exact ((hd'.gr (Gr.new (s4.fr.back nl))).drop _).take _
/-- == of flat things -/
theorem dec_V {α : Type} [DecidableEq α] {f : α → V} (hf : ∀ x y, f x = f y → x = y) (x y : α) : decide (f x = f y) = decide (x = y) := by
  by_cases h : x = y
  · subst h; simp
  · rw [decide_eq_false h, decide_eq_false (fun q => h (hf x y q))]
theorem d_eqI (ha : EvD K ta σ F cs (.int a) cs1) (hb : EvD K tb σ F cs1 (.int b) cs2) : EvD K (tOp rEq ta tb) σ F cs (.bool (decide (a = b))) cs2 :=
  d_op ha hb fun x y F2 H2 hx hy s _ Q q => by
    cases hx.toInt; cases hy.toInt
    exact ⟨rfl, q _ F2 H2 .rfl s (by rw [dec_V (f := V.int) (fun _ _ h => V.int.inj h)]; exact .bl _)⟩
theorem d_neI (ha : EvD K ta σ F cs (.int a) cs1) (hb : EvD K tb σ F cs1 (.int b) cs2) : EvD K (tOp rNe ta tb) σ F cs (.bool (!decide (a = b))) cs2 :=
  d_op ha hb fun x y F2 H2 hx hy s _ Q q => by
    cases hx.toInt; cases hy.toInt
    exact ⟨rfl, q _ F2 H2 .rfl s (by rw [dec_V (f := V.int) (fun _ _ h => V.int.inj h)]; exact .bl _)⟩
theorem d_eqS {x y : Str} (ha : EvD K ta σ F cs (.str x) cs1) (hb : EvD K tb σ F cs1 (.str y) cs2) : EvD K (tOp rEq ta tb) σ F cs (.bool (decide (x = y))) cs2 :=
  d_op ha hb fun _ _ F2 H2 hx hy s _ Q q => by
    cases hx.toStr; cases hy.toStr
    exact ⟨rfl, q _ F2 H2 .rfl s (by rw [dec_V (f := V.str) (fun _ _ h => V.str.inj h)]; exact .bl _)⟩
theorem d_neS {x y : Str} (ha : EvD K ta σ F cs (.str x) cs1) (hb : EvD K tb σ F cs1 (.str y) cs2) : EvD K (tOp rNe ta tb) σ F cs (.bool (!decide (x = y))) cs2 :=
  d_op ha hb fun _ _ F2 H2 hx hy s _ Q q => by
    cases hx.toStr; cases hy.toStr
    exact ⟨rfl, q _ F2 H2 .rfl s (by rw [dec_V (f := V.str) (fun _ _ h => V.str.inj h)]; exact .bl _)⟩
theorem d_eqB {x y : Bool} (ha : EvD K ta σ F cs (.bool x) cs1) (hb : EvD K tb σ F cs1 (.bool y) cs2) : EvD K (tOp rEq ta tb) σ F cs (.bool (decide (x = y))) cs2 :=
  d_op ha hb fun _ _ F2 H2 hx hy s _ Q q => by
    cases hx.toBl; cases hy.toBl
    exact ⟨rfl, q _ F2 H2 .rfl s (by rw [dec_V (f := V.bl) (fun _ _ h => V.bl.inj h)]; exact .bl _)⟩
theorem d_neB {x y : Bool} (ha : EvD K ta σ F cs (.bool x) cs1) (hb : EvD K tb σ F cs1 (.bool y) cs2) : EvD K (tOp rNe ta tb) σ F cs (.bool (!decide (x = y))) cs2 :=
  d_op ha hb fun _ _ F2 H2 hx hy s _ Q q => by
    cases hx.toBl; cases hy.toBl
    exact ⟨rfl, q _ F2 H2 .rfl s (by rw [dec_V (f := V.bl) (fun _ _ h => V.bl.inj h)]; exact .bl _)⟩
/-- == of data -/
theorem d_eqD (ha : EvD K ta σ F cs d cs1) (hb : EvD K tb σ F cs1 e cs2) (h1 : SeqAt.shaped d = true) (h2 : SeqAt.shaped e = true) : EvD K (tOp (rEqD K) ta tb) σ F cs (.bool (PyData.eqv d e)) cs2 :=
  d_op ha hb fun x y F2 H2 hx hy s _ Q q => ⟨d, e, (hx.gr s.fr).dp (SeqAt.canLay_of_shaped h1), (hy.gr s.fr).dp (SeqAt.canLay_of_shaped h2), h1, h2, q _ F2 H2 .rfl s (.bl _)⟩
theorem d_neD (ha : EvD K ta σ F cs d cs1) (hb : EvD K tb σ F cs1 e cs2) (h1 : SeqAt.shaped d = true) (h2 : SeqAt.shaped e = true) : EvD K (tOp (rNeD K) ta tb) σ F cs (.bool (!PyData.eqv d e)) cs2 :=
  d_op ha hb fun x y F2 H2 hx hy s _ Q q => ⟨d, e, (hx.gr s.fr).dp (SeqAt.canLay_of_shaped h1), (hy.gr s.fr).dp (SeqAt.canLay_of_shaped h2), h1, h2, q _ F2 H2 .rfl s (.bl _)⟩
/-- texts -/
theorem d_scat {x y z : Str} (ha : EvD K ta σ F cs (.str x) cs1) (hb : EvD K tb σ F cs1 (.str y) cs2) (hz : scatM x y = some z) : EvD K (tOp (fun x y H Q => ∃ i j, x = .str i ∧ y = .str j ∧ i.length + j.length ≤ sizeLine ∧ Q (.str (i ++ j)) H) ta tb) σ F cs (.str z) cs2 :=
  d_op ha hb fun _ _ F2 H2 hx hy s _ Q q => by
    cases hx.toStr; cases hy.toStr
    obtain ⟨h1, rfl⟩ := scatM_some hz
    exact ⟨x, y, rfl, rfl, sz h1, q _ F2 H2 .rfl s (.str _)⟩
theorem d_inS {x y : Str} (ha : EvD K ta σ F cs (.str x) cs1) (hb : EvD K tb σ F cs1 (.str y) cs2) : EvD K (tOp (fun x y H Q => ∃ i j, x = .str i ∧ y = .str j ∧ Q (.bl (!(Builtin.Str.occurrences j i 0 j.length 1).isEmpty)) H) ta tb) σ F cs (.bool (inS x y)) cs2 :=
  d_op ha hb fun _ _ F2 H2 hx hy s _ Q q => by
    cases hx.toStr; cases hy.toStr
    exact ⟨x, y, rfl, rfl, q _ F2 H2 .rfl s (.bl _)⟩
theorem d_notinS {x y : Str} (ha : EvD K ta σ F cs (.str x) cs1) (hb : EvD K tb σ F cs1 (.str y) cs2) : EvD K (tOp (fun x y H Q => ∃ i j, x = .str i ∧ y = .str j ∧ Q (.bl (!(!(Builtin.Str.occurrences j i 0 j.length 1).isEmpty))) H) ta tb) σ F cs (.bool (!inS x y)) cs2 :=
  d_op ha hb fun _ _ F2 H2 hx hy s _ Q q => by
    cases hx.toStr; cases hy.toStr
    exact ⟨x, y, rfl, rfl, q _ F2 H2 .rfl s (.bl _)⟩
/-- tests -/
theorem t_test {b : Bool} (h : EvD K te σ F cs (.bool b) cs1) : EvT (tTest te) σ F cs b cs1 := fun F1 H1 g1 s Q q =>
  h F1 H1 g1 s _ fun v F2 H2 g2 s2 h2 => ⟨b, h2.toBl, q F2 H2 g2 s2⟩
theorem t_B {b : Bool} (h : EvD K te σ F cs (.bool b) cs1) : EvT (tB te) σ F cs b cs1 := fun F1 H1 g1 s Q q =>
  h F1 H1 g1 s _ fun v F2 H2 g2 s2 h2 => ⟨b, h2.toBl, q F2 H2 g2 s2⟩
theorem t_not {t : TT} {b : Bool} (h : EvT t σ F cs b cs1) : EvT (tNot t) σ F cs (!b) cs1 := fun F1 H1 g1 s Q q => h F1 H1 g1 s _ fun F2 H2 g2 s2 => q F2 H2 g2 s2
theorem t_and {t u : TT} {a b r : Bool} (h1 : EvT t σ F cs a cs1) (h2 : a = true → EvT u σ F cs1 b cs1) (h3 : a = true → r = b) (h4 : a = false → r = false) : EvT (tAnd t u) σ F cs r cs1 := fun F1 H1 g1 s Q q => h1 F1 H1 g1 s _ fun F2 H2 g2 s2 => by
  cases a with
  | true => rw [h3 rfl] at q; exact h2 rfl F2 H2 (g1.tr g2) s2 Q fun F3 H3 g3 s3 => q F3 H3 (g2.tr g3) s3
  | false => rw [h4 rfl] at q; exact q F2 H2 g2 s2
theorem t_or {t u : TT} {a b r : Bool} (h1 : EvT t σ F cs a cs1) (h2 : a = false → EvT u σ F cs1 b cs1) (h3 : a = false → r = b) (h4 : a = true → r = true) : EvT (tOr t u) σ F cs r cs1 := fun F1 H1 g1 s Q q => h1 F1 H1 g1 s _ fun F2 H2 g2 s2 => by
  cases a with
  | false => rw [h3 rfl] at q; exact h2 rfl F2 H2 (g1.tr g2) s2 Q fun F3 H3 g3 s3 => q F3 H3 (g2.tr g3) s3
  | true => rw [h4 rfl] at q; exact q F2 H2 g2 s2
theorem d_andV {a b r : Bool} (h1 : EvD K ta σ F cs (.bool a) cs1) (h2 : a = true → EvD K tb σ F cs1 (.bool b) cs1) (h3 : a = true → r = b) (h4 : a = false → r = false) : EvD K (tAndV ta tb) σ F cs (.bool r) cs1 := fun F1 H1 g1 s Q q => h1 F1 H1 g1 s _ fun v F2 H2 g2 s2 hv => ⟨a, hv.toBl, by
  cases a with
  | true => rw [h3 rfl] at q; exact h2 rfl F2 H2 (g1.tr g2) s2 Q fun v F3 H3 g3 s3 k => q v F3 H3 (g2.tr g3) s3 k
  | false => rw [h4 rfl] at q; exact q _ F2 H2 g2 s2 (.bl _)⟩
theorem d_orV {a b r : Bool} (h1 : EvD K ta σ F cs (.bool a) cs1) (h2 : a = false → EvD K tb σ F cs1 (.bool b) cs1) (h3 : a = false → r = b) (h4 : a = true → r = true) : EvD K (tOrV ta tb) σ F cs (.bool r) cs1 := fun F1 H1 g1 s Q q => h1 F1 H1 g1 s _ fun v F2 H2 g2 s2 hv => ⟨a, hv.toBl, by
  cases a with
  | false => rw [h3 rfl] at q; exact h2 rfl F2 H2 (g1.tr g2) s2 Q fun v F3 H3 g3 s3 k => q v F3 H3 (g2.tr g3) s3 k
  | true => rw [h4 rfl] at q; exact q _ F2 H2 g2 s2 (.bl _)⟩
theorem d_notV {a : Bool} (h : EvD K ta σ F cs (.bool a) cs1) : EvD K (tNotV ta) σ F cs (.bool (!a)) cs1 := fun F1 H1 g1 s Q q => h F1 H1 g1 s _ fun v F2 H2 g2 s2 hv => ⟨a, hv.toBl, q _ F2 H2 g2 s2 (.bl _)⟩
theorem d_ifE {t : TT} {a : Bool} (h : EvT t σ F cs a cs1) (h1 : a = true → EvD K ta σ F cs1 d cs2) (h2 : a = false → EvD K tb σ F cs1 d cs2) : EvD K (tIf t ta tb) σ F cs d cs2 := fun F1 H1 g1 s Q q => h F1 H1 g1 s _ fun F2 H2 g2 s2 => by
  cases a with
  | true => exact h1 rfl F2 H2 (g1.tr g2) s2 Q fun v F3 H3 g3 s3 k => q v F3 H3 (g2.tr g3) s3 k
  | false => exact h2 rfl F2 H2 (g1.tr g2) s2 Q fun v F3 H3 g3 s3 k => q v F3 H3 (g2.tr g3) s3 k
end
end Bw

namespace Bw
open PySem L2
/-- a new list, which may change -/
def EvC (K : PySem.W.Frag) (te : TE) (σ : St) (F : Hp) (cs : Cs) (ds : List PyData) (cs' : Cs) : Prop :=
  ∀ F1 H1, Gr F F1 → Sta F1 cs H1 → ∀ Q : VK, (∀ p vs F2 H2, Gr F1 F2 → Sta F2 ((p, .lst vs) :: cs') H2 → Dts K F2 vs ds → Q (.ref p) H2) → te σ H1 Q
section
variable {K : PySem.W.Frag} {σ : St} {F F' : Hp} {cs cs1 cs2 cs3 : Cs} {ta tb tc te : TE} {d e : PyData} {as : TA} {a b c : Int}
theorem EvC.dd {ds : List PyData} (h : EvC K te σ F cs ds cs1) : EvD K te σ F cs (.list ds) cs1 := fun F1 H1 g1 s Q q => h F1 H1 g1 s Q fun p vs F2 H2 g2 s2 h2 => q _ _ H2 (g2.tr s2.gfr) s2.froze (.lst (.inl (.inl upd_same)) (h2.gr s2.gfr))
theorem c_is {ds es : List PyData} (h : EvC K te σ F cs ds cs1) (q : ds = es) : EvC K te σ F cs es cs1 := q ▸ h
theorem c_lst {ds : List PyData} (h : EvDs K as σ F cs ds cs1) (hl : ds.length ≤ 100000) : EvC K (tLst as) σ F cs ds cs1 := fun F1 H1 g1 s Q q =>
  h F1 H1 g1 s _ fun vs F2 H2 g2 s2 h2 => ⟨h2.len.symm ▸ sz hl, fun p hp => q p vs F2 _ g2 (s2.cell hp) h2⟩
theorem c_list {ds : List PyData} (ha : EvDs K as σ F cs [.list ds] cs1) : EvC K (tCB (fun xs H Q => ∃ p ys, xs = [.ref p] ∧ (SqL K H p ys ∨ SqT K H p ys) ∧ ∀ l, H l = none → Q (.ref l) (upd H l (.lst ys))) as) σ F cs ds cs1 := fun F1 H1 g1 s Q q => ha F1 H1 g1 s _ fun vs F2 H2 g2 s2 h2 => by
  obtain ⟨v, rfl, k⟩ := h2.one
  obtain ⟨p, ys, rfl, hl, hd⟩ := k.toLst
  exact ⟨p, ys, rfl, .inl (gr_L s2.fr hl), fun l nl => q _ _ _ _ g2 (s2.cell nl) hd⟩
theorem c_sl {α : Type} {e : α → PyData} {xs : List α} {tl th : TO} {lo hi : Option Int} (h : EvD K te σ F cs (eL e xs) cs1) (h1 : EvO tl σ F cs1 lo cs2) (h2 : EvO th σ F cs2 hi cs3) : EvC K (tSl (rSlL K) te tl th) σ F cs ((cutL xs lo hi).map e) cs3 := fun F1 H1 g1 s Q q =>
  h F1 H1 g1 s _ fun v F2 H2 g2 s2 hv => h1 F2 H2 (g1.tr g2) s2 _ fun F3 H3 g3 s3 => h2 F3 H3 ((g1.tr g2).tr g3) s3 _ fun F4 H4 g4 s4 => by
    obtain ⟨p, vs, rfl, hl, hd⟩ := hv.toLst
    have hd' := hd.gr (g3.tr g4)
    refine ⟨p, vs, rfl, gr_L s4.fr (gr_L (g3.tr g4) hl), fun l nl => q _ _ _ _ (g2.tr (g3.tr g4)) (s4.cell nl) ?_⟩
    rw [← cutL_map]
    unfold cutV cutL
    rw [hd.len]
    exact (hd'.drop _).take _
/-- list + list, list * int -/
def rCatS (K : PySem.W.Frag) : R2 := fun x y H Q => ∃ l b xs zs, x = .ref l ∧ y = .ref b ∧ SqL K H l xs ∧ SqL K H b zs ∧ xs.length + zs.length ≤ sizeLine ∧ ∀ p, H p = none → Q (.ref p) (upd H p (.lst (xs ++ zs)))
theorem op_catS {X : Cx} : OpR X (binaryOp .Add) (rCatS X.K) := by
  intro pins s σ H x y v u Q I rx ry h
  obtain ⟨l, b, xs, zs, rfl, rfl, hH, hB, hz, q⟩ := h
  cases rx
  cases ry
  obtain ⟨its, r, pl, _⟩ := I.list hH
  obtain ⟨its2, r2, pl2, _⟩ := I.list hB
  have e1 := r.length
  have e2 := r2.length
  obtain ⟨⟨cls, dd, data, sl⟩, ho, hc, n, hd⟩ := pl.isList
  obtain ⟨⟨cls2, dd2, data2, sl2⟩, ho2, hc2, n2, hd2⟩ := pl2.isList
  simp only at hc hd hc2 hd2
  subst hc hd hc2 hd2
  refine PySem.concat_meets ⟨_, ho, rfl⟩ ⟨_, ho2, rfl⟩ PySem.noFill_list_add PySem.seq_list_add PySem.F.slot_list_add PySem.F.entry_list_add (PySem.F.args_list_add_2 _ _)
    (PyProof.Rows.list_addW l b its.toArray its2.toArray n n2 dd dd2 sl sl2 (by simp only [List.size_toArray]; omega)) ⟨ho, ho2, ?_⟩
  rw [show its.toArray ++ its2.toArray = (its ++ its2).toArray by simp]
  exact ⟨.ref _, _, I.lnew (t' := s.toks) (r.append r2) (by rw [List.length_append]; omega), rfl, q _ I.fresh⟩
theorem c_cat {α : Type} {en : α → PyData} {xs ys zs : List α} (ha : EvD K ta σ F cs (eL en xs) cs1) (hb : EvD K tb σ F cs1 (eL en ys) cs2) (hz : catM xs ys = some zs) : EvC K (tOp (rCatS K) ta tb) σ F cs (zs.map en) cs2 := fun F1 H1 g1 s Q q =>
  ha F1 H1 g1 s _ fun v F2 H2 g2 s2 h2 => hb F2 H2 (g1.tr g2) s2 _ fun w F3 H3 g3 s3 h3 => by
    obtain ⟨p, vs, rfl, hl, hd⟩ := (h2.gr g3).toLst
    obtain ⟨p', ws, rfl, hl', hd'⟩ := h3.toLst
    obtain ⟨h4, rfl⟩ := catM_some hz
    refine ⟨p, p', vs, ws, rfl, rfl, gr_L s3.fr hl, gr_L s3.fr hl', ?_, fun l nl => q _ _ _ _ (g2.tr g3) (s3.cell nl) ?_⟩
    · rw [hd.len, hd'.len, List.length_map, List.length_map]; exact sz h4
    · rw [List.map_append]; exact hd.app hd'
theorem c_rep {α : Type} {en : α → PyData} {xs zs : List α} (ha : EvC K ta σ F cs (xs.map en) cs1) (hb : ∀ cs, EvD K tb σ F cs (.int b) cs) (hz : repM xs b = some zs) : EvC K (tOp rRep ta tb) σ F cs (zs.map en) cs1 := fun F1 H1 g1 s Q q =>
  ha F1 H1 g1 s _ fun p vs F2 H2 g2 s2 h2 => hb _ F2 H2 (g1.tr g2) s2 _ fun w F3 H3 g3 s3 h3 => by
    cases h3.toInt
    obtain ⟨⟨h4, h5, h6⟩, rfl⟩ := repM_some hz
    have s4 := s3.froze
    refine ⟨p, b, vs, rfl, rfl, s3.at List.mem_cons_self, h4, h5, ?_, fun l nl => q _ _ _ _ ((g2.tr g3).tr s3.gfr) (s4.cell nl) ?_⟩
    · rw [h2.len, List.length_map]; exact sz h6
    · have := ((h2.gr g3).gr s3.gfr).rep b.toNat
      rw [List.map_flatten, List.map_replicate]
      exact this
/-- x in a list of ints, of texts -/
theorem inV_int (x : Int) (xs : List Int) : inV (.int x) (xs.map V.int) = xs.any (fun y => y == x) := by
  unfold inV
  rw [List.any_map]
  congr 1
theorem inV_str (x : Str) (xs : List Str) : inV (.str x) (xs.map V.str) = xs.any (fun y => y == x) := by
  unfold inV
  rw [List.any_map]
  congr 1
def inL {α : Type} [BEq α] (x : α) (xs : List α) : Bool := xs.any fun y => y == x
theorem flatI (xs : List Int) : (xs.map V.int).all flatV = true := by rw [List.all_map]; exact List.all_eq_true.mpr fun _ _ => rfl
theorem flatS (xs : List Str) : (xs.map V.str).all flatV = true := by rw [List.all_map]; exact List.all_eq_true.mpr fun _ _ => rfl
theorem d_inI {xs : List Int} (ha : EvD K ta σ F cs (.int a) cs1) (hb : EvD K tb σ F cs1 (eL eI xs) cs2) : EvD K (tOp (rIn K false) ta tb) σ F cs (.bool (inL a xs)) cs2 :=
  d_op ha hb fun x y F2 H2 hx hy s _ Q q => by
    cases hx.toInt
    obtain ⟨p, vs, rfl, hl, hd⟩ := hy.toLst
    cases hd.ints
    refine ⟨p, _, rfl, .inl (gr_L s.fr hl), rfl, flatI xs, q _ F2 H2 .rfl s ?_⟩
    rw [inV_int]; exact .bl _
theorem d_ninI {xs : List Int} (ha : EvD K ta σ F cs (.int a) cs1) (hb : EvD K tb σ F cs1 (eL eI xs) cs2) : EvD K (tOp (rIn K true) ta tb) σ F cs (.bool (!inL a xs)) cs2 :=
  d_op ha hb fun x y F2 H2 hx hy s _ Q q => by
    cases hx.toInt
    obtain ⟨p, vs, rfl, hl, hd⟩ := hy.toLst
    cases hd.ints
    refine ⟨p, _, rfl, .inl (gr_L s.fr hl), rfl, flatI xs, q _ F2 H2 .rfl s ?_⟩
    rw [inV_int]; exact .bl _
theorem d_inSs {x : Str} {xs : List Str} (ha : EvD K ta σ F cs (.str x) cs1) (hb : EvD K tb σ F cs1 (eL eS xs) cs2) : EvD K (tOp (rIn K false) ta tb) σ F cs (.bool (inL x xs)) cs2 :=
  d_op ha hb fun _ y F2 H2 hx hy s _ Q q => by
    cases hx.toStr
    obtain ⟨p, vs, rfl, hl, hd⟩ := hy.toLst
    cases hd.strs
    refine ⟨p, _, rfl, .inl (gr_L s.fr hl), rfl, flatS xs, q _ F2 H2 .rfl s ?_⟩
    rw [inV_str]; exact .bl _
theorem d_ninSs {x : Str} {xs : List Str} (ha : EvD K ta σ F cs (.str x) cs1) (hb : EvD K tb σ F cs1 (eL eS xs) cs2) : EvD K (tOp (rIn K true) ta tb) σ F cs (.bool (!inL x xs)) cs2 :=
  d_op ha hb fun _ y F2 H2 hx hy s _ Q q => by
    cases hx.toStr
    obtain ⟨p, vs, rfl, hl, hd⟩ := hy.toLst
    cases hd.strs
    refine ⟨p, _, rfl, .inl (gr_L s.fr hl), rfl, flatS xs, q _ F2 H2 .rfl s ?_⟩
    rw [inV_str]; exact .bl _
/-- sep.join(xs) -/
def joinM (x : Str) (xs : List Str) : Option Str := if ((xs.map (·.length)).sum + x.length * xs.length) ≤ 100000 then some (Txt.join x xs) else none

/-! walks -/
theorem src_list {p : Addr} {vs : List V} {ds : List PyData} (h : SqL K F p vs) (hd : Dts K F vs ds) : Src K (Itl K p) F ds := fun F1 c1 H1 g s => by
  have q : SqL K H1 p vs := gr_L s.fr (gr_L g h)
  refine ⟨fun i hi => ?_, ⟨vs, q, by rw [hd.len]; exact Nat.le_refl _⟩, fun i v H2 d e y => ?_⟩
  · have hi' : i < vs.length := by rw [hd.len]; exact hi
    exact ⟨vs, vs[i], q, List.getElem?_eq_getElem hi'⟩
  · obtain ⟨rfl, y⟩ := y
    obtain ⟨d', e', h'⟩ := hd.get (y vs q)
    rw [e] at e'; cases e'
    exact ⟨F1, .rfl, s, h'.gr g⟩
theorem src_enum {p : Addr} {vs : List V} {ds : List PyData} (h : SqL K F p vs) (hd : Dts K F vs ds) : Src K (Ite K p) F (ds.mapIdx fun i d => .tuple [.int i, d]) := fun F1 c1 H1 g s => by
  have q : SqL K H1 p vs := gr_L s.fr (gr_L g h)
  refine ⟨fun i hi => ?_, ⟨vs, q, by rw [hd.len]; simp⟩, fun i v H2 d e y => ?_⟩
  · have hi' : i < vs.length := by rw [hd.len]; simpa using hi
    exact ⟨vs, vs[i], q, List.getElem?_eq_getElem hi'⟩
  · obtain ⟨T, x, rfl, nT, rfl, y⟩ := y
    obtain ⟨d', e', h'⟩ := hd.get (y vs q)
    rw [List.getElem?_mapIdx, e'] at e
    cases e
    exact ⟨_, Gr.new (s.fr.back nT), s.lay nT, .tup (.inl (.inl upd_same)) (.cons (.int _) (.cons (h'.gr (g.tr (Gr.new (s.fr.back nT)))) .nil))⟩
theorem src_zip {p p' : Addr} {vs ws : List V} {ds es : List PyData} (h : SqL K F p vs) (hd : Dts K F vs ds) (h' : SqL K F p' ws) (hd' : Dts K F ws es) : Src K (Itz K p p') F (List.zipWith (fun d e => .tuple [d, e]) ds es) := fun F1 c1 H1 g s => by
  have q : SqL K H1 p vs := gr_L s.fr (gr_L g h)
  have q' : SqL K H1 p' ws := gr_L s.fr (gr_L g h')
  refine ⟨fun i hi => ?_, ⟨vs, ws, q, q', by rw [hd.len, hd'.len, List.length_zipWith]; omega⟩, fun i v H2 d e y => ?_⟩
  · rw [List.length_zipWith] at hi
    have h1 : i < vs.length := by rw [hd.len]; omega
    have h2 : i < ws.length := by rw [hd'.len]; omega
    exact ⟨vs, ws, vs[i], ws[i], q, q', List.getElem?_eq_getElem h1, List.getElem?_eq_getElem h2⟩
  · obtain ⟨T, x, z, rfl, nT, rfl, y, y'⟩ := y
    obtain ⟨d1, e1, h1⟩ := hd.get (y vs q)
    obtain ⟨d2, e2, h2⟩ := hd'.get (y' ws q')
    rw [List.getElem?_zipWith, e1, e2] at e
    cases e
    have gg := g.tr (Gr.new (o := .tup [x, z]) (s.fr.back nT))
    exact ⟨_, Gr.new (s.fr.back nT), s.lay nT, .tup (.inl (.inl upd_same)) (.cons (h1.gr gg) (.cons (h2.gr gg) .nil))⟩
theorem i_list {α : Type} {en : α → PyData} {xs : List α} (h : EvD K te σ F cs (eL en xs) cs1) : EvI K (iList K te) σ F cs (xs.map en) cs1 := fun F1 H1 g1 s R q =>
  h F1 H1 g1 s _ fun v F2 H2 g2 s2 h2 => by
    obtain ⟨p, vs, rfl, hs, hd⟩ := h2.toLst
    exact ⟨p, rfl, ⟨vs, gr_L s2.fr hs⟩, q _ F2 H2 g2 s2 (src_list hs hd)⟩
theorem enum_map {α : Type} (en : α → PyData) (xs : List α) : (xs.map en).mapIdx (fun i d => PyData.tuple [.int i, d]) = (enumM xs).map (eT2 eI en) := by
  unfold enumM
  apply List.ext_getElem? 
  intro i
  simp only [List.getElem?_mapIdx, List.getElem?_map]
  cases xs[i]? <;> rfl
theorem i_enum {α : Type} {en : α → PyData} {xs : List α} (h : EvDs K as σ F cs [eL en xs] cs1) : EvI K (iEnum K as) σ F cs ((enumM xs).map (eT2 eI en)) cs1 := fun F1 H1 g1 s R q =>
  h F1 H1 g1 s _ fun v F2 H2 g2 s2 h2 => by
    obtain ⟨v, rfl, k⟩ := h2.one
    obtain ⟨p, vs, rfl, hs, hd⟩ := k.toLst
    refine ⟨p, vs, rfl, gr_L s2.fr hs, q _ F2 H2 g2 s2 ?_⟩
    rw [← enum_map]
    exact src_enum hs hd
theorem zip_map {α β : Type} (en : α → PyData) (em : β → PyData) : ∀ (xs : List α) (ys : List β), List.zipWith (fun d e => PyData.tuple [d, e]) (xs.map en) (ys.map em) = (xs.zip ys).map (eT2 en em)
  | [], _ => rfl
  | _ :: _, [] => rfl
  | x :: xs, y :: ys => by
    simp only [List.map_cons, List.zipWith_cons_cons, List.zip_cons_cons]
    rw [zip_map en em xs ys]
theorem i_zip {α β : Type} {en : α → PyData} {em : β → PyData} {xs : List α} {ys : List β} (h : EvDs K as σ F cs [eL en xs, eL em ys] cs1) : EvI K (iZip K as) σ F cs ((xs.zip ys).map (eT2 en em)) cs1 := fun F1 H1 g1 s R q =>
  h F1 H1 g1 s _ fun v F2 H2 g2 s2 h2 => by
    obtain ⟨v, w, rfl, k1, k2⟩ := h2.two
    obtain ⟨p, vs, rfl, hs, hd⟩ := k1.toLst
    obtain ⟨p', ws, rfl, hs', hd'⟩ := k2.toLst
    refine ⟨p, p', vs, ws, rfl, gr_L s2.fr hs, gr_L s2.fr hs', q _ F2 H2 g2 s2 ?_⟩
    rw [← zip_map]
    exact src_zip hs hd hs' hd'
theorem src_rng {lo : Int} {n : Nat} : Src K (Itr lo n) F ((List.range n).map fun (i : Nat) => PyData.int (lo + (i : Int))) := fun F1 c1 H1 g s => by
  refine ⟨fun i hi => (by simpa using hi : i < n), by show n ≤ _; simp, fun i v H2 d e y => ?_⟩
  obtain ⟨rfl, rfl⟩ := y
  rw [List.getElem?_map] at e
  cases q : (List.range n)[i]? with
  | none => rw [q] at e; cases e
  | some j =>
    rw [q] at e
    have : i = j := by
      obtain ⟨h1, h2⟩ := List.getElem?_eq_some_iff.mp q
      simpa using h2
    subst this
    cases e
    exact ⟨F1, .rfl, s, .int _⟩
theorem i_rng1 {xs : List Int} (h : EvDs K as σ F cs [.int b] cs1) (hx : rngM 0 b = some xs) : EvI K (iRng1 as) σ F cs (xs.map eI) cs1 := fun F1 H1 g1 s R q =>
  h F1 H1 g1 s _ fun v F2 H2 g2 s2 h2 => by
    obtain ⟨v, rfl, k⟩ := h2.one; cases k.toInt
    obtain ⟨⟨_, _, h3, h4⟩, rfl⟩ := rngM_some hx
    refine ⟨b, rfl, h3, h4, q _ F2 H2 g2 s2 ?_⟩
    have := src_rng (K := K) (F := F2) (lo := 0) (n := b.toNat)
    unfold rngL
    rw [List.map_map, Int.sub_zero]
    exact this
theorem i_rng2 {xs : List Int} (h : EvDs K as σ F cs [.int a, .int b] cs1) (hx : rngM a b = some xs) : EvI K (iRng2 as) σ F cs (xs.map eI) cs1 := fun F1 H1 g1 s R q =>
  h F1 H1 g1 s _ fun v F2 H2 g2 s2 h2 => by
    obtain ⟨v, w, rfl, k1, k2⟩ := h2.two; cases k1.toInt; cases k2.toInt
    obtain ⟨h3, rfl⟩ := rngM_some hx
    refine ⟨a, b, rfl, h3, q _ F2 H2 g2 s2 ?_⟩
    have := src_rng (K := K) (F := F2) (lo := a) (n := (b - a).toNat)
    unfold rngL
    rw [List.map_map]
    exact this
theorem i_str {x : Str} (h : EvD K te σ F cs (.str x) cs1) : EvI K (iStr te) σ F cs ((signs x).map eS) cs1 := fun F1 H1 g1 s R q =>
  h F1 H1 g1 s _ fun v F2 H2 g2 s2 h2 => by
    refine ⟨x, h2.toStr, q _ F2 H2 g2 s2 fun F3 c3 H3 g3 s3 => ⟨fun i hi => by simpa [signs, Its] using hi, by simp [signs, Its], fun i v H4 d e y => ?_⟩⟩
    obtain ⟨rfl, c, hc, rfl⟩ := y
    unfold signs at e
    rw [List.map_map, List.getElem?_map, Array.getElem?_toList, hc] at e
    cases e
    exact ⟨F3, .rfl, s3, .str _⟩
end
end Bw

namespace Bw
open PySem L2
/-! what a loop's turn leaves -/
inductive Fl (S R : Type) where
  | nx (s : S) | br (s : S) | rt (r : R)
def forF {α S R : Type} (body : S → α → Option (Fl S R)) : List α → S → Option (Fl S R)
  | [], s => some (.nx s)
  | x :: xs, s => (body s x).bind fun f => match f with
    | .nx s' => forF body xs s'
    | .br s' => some (.br s')
    | .rt r => some (.rt r)
def whileF {S R : Type} (c : S → Option Bool) (body : S → Option (Fl S R)) : Nat → S → Option (Fl S R)
  | 0, _ => none
  | n + 1, s => (c s).bind fun b => if b = true then (body s).bind fun f => match f with
      | .nx s' => whileF c body n s'
      | .br s' => some (.br s')
      | .rt r => some (.rt r)
    else some (.nx s)
def lcM {α β : Type} (f : α → Option (Option β)) : List α → Option (List β)
  | [] => some []
  | x :: xs => (f x).bind fun o => (lcM f xs).bind fun ys => some (match o with
    | some y => y :: ys
    | none => ys)
theorem lcM_len {α β : Type} {f : α → Option (Option β)} : ∀ {xs : List α} {ys : List β}, lcM f xs = some ys → ys.length ≤ xs.length
  | [], ys, h => by cases h; exact Nat.le_refl _
  | x :: xs, ys, h => by
    obtain ⟨o, h1, h⟩ := bnd h
    obtain ⟨zs, h2, h⟩ := bnd h
    have := lcM_len h2
    cases o with
    | none => cases h; exact Nat.le_succ_of_le this
    | some y => cases h; exact Nat.succ_le_succ this
theorem lcM_map {α β : Type} (f : α → β) : ∀ xs : List α, lcM (fun x => some (some (f x))) xs = some (xs.map f)
  | [] => rfl
  | x :: xs => by show (lcM _ xs).bind _ = _; rw [lcM_map f xs]; rfl
theorem lcM_filter {α β : Type} (p : α → Bool) (f : α → β) : ∀ xs : List α, lcM (fun x => some (if p x = true then some (f x) else none)) xs = some ((xs.filter p).map f)
  | [] => rfl
  | x :: xs => by
    show (lcM _ xs).bind _ = _
    rw [lcM_filter p f xs, List.filter_cons]
    by_cases h : p x = true
    · simp [h]
    · simp [h]
section
variable {K : PySem.W.Frag} {σ : St} {F F' : Hp} {cs cs1 cs2 cs3 : Cs} {ta tb tc te : TE} {d e : PyData} {as : TA} {a b c : Int} {nx bk ct : St → Hp → Prop} {rt : VK} {H : Hp} {t u : TS}
/-! statements -/
theorem go {D : Ends} {σ' : St} (e : σ = σ') (h : t D σ' H) : t D σ H := e ▸ h
theorem s_set {i : Nat} {σ' : V → St} (s : Sta F cs H) (h : EvD K te σ F cs d cs1) (hσ : ∀ v, σ.set i (some v) = σ' v) (q : ∀ v F2 H2, Gr F F2 → Sta F2 cs1 H2 → Dt K F2 v d → nx (σ' v) H2) : tAsg te (gName i) ⟨nx, rt, bk, ct⟩ σ H := h F H .rfl s _ fun v F2 H2 g2 s2 h2 => by
  show nx (σ.set i (some v)) H2
  rw [hσ v]; exact q v F2 H2 g2 s2 h2
/-- a flat value -/
theorem s_setV {i : Nat} {σ' : St} {w : V} (hw : ∀ F v, Dt K F v d → v = w) (s : Sta F cs H) (h : EvD K te σ F cs d cs1) (hσ : σ.set i (some w) = σ') (q : ∀ F2 H2, Gr F F2 → Sta F2 cs1 H2 → nx σ' H2) : tAsg te (gName i) ⟨nx, rt, bk, ct⟩ σ H := h F H .rfl s _ fun v F2 H2 g2 s2 h2 => by
  cases hw F2 v h2
  show nx (σ.set i (some w)) H2
  rw [hσ]; exact q F2 H2 g2 s2
theorem s_setC {ds : List PyData} {i : Nat} {σ' : Addr → St} (s : Sta F cs H) (h : EvC K te σ F cs ds cs1) (hσ : ∀ p, σ.set i (some (.ref p)) = σ' p) (q : ∀ p vs F2 H2, Gr F F2 → Sta F2 ((p, .lst vs) :: cs1) H2 → Dts K F2 vs ds → nx (σ' p) H2) : tAsg te (gName i) ⟨nx, rt, bk, ct⟩ σ H := h F H .rfl s _ fun p vs F2 H2 g2 s2 h2 => by
  show nx (σ.set i (some (.ref p))) H2
  rw [hσ p]; exact q p vs F2 H2 g2 s2 h2
theorem s_ret (s : Sta F cs H) (h : EvD K te σ F cs d cs1) (q : ∀ v F2 H2, Gr F F2 → Sta F2 cs1 H2 → Dt K F2 v d → rt v H2) : tRet te ⟨nx, rt, bk, ct⟩ σ H := h F H .rfl s _ q
theorem s_drop (s : Sta F cs H) (h : EvD K te σ F cs d cs1) (q : ∀ F2 H2, Gr F F2 → Sta F2 cs1 H2 → nx σ H2) : tDrop te ⟨nx, rt, bk, ct⟩ σ H := h F H .rfl s _ fun v F2 H2 g2 s2 _ => q F2 H2 g2 s2
theorem s_if {c : TT} {b : Bool} (s : Sta F cs H) (h : EvT c σ F cs b cs1) (qt : b = true → ∀ F2 H2, Gr F F2 → Sta F2 cs1 H2 → t ⟨nx, rt, bk, ct⟩ σ H2) (qf : b = false → ∀ F2 H2, Gr F F2 → Sta F2 cs1 H2 → u ⟨nx, rt, bk, ct⟩ σ H2) : tIfS c t u ⟨nx, rt, bk, ct⟩ σ H :=
  h F H .rfl s _ fun F2 H2 g2 s2 => by
    cases b with
    | true => exact qt rfl F2 H2 g2 s2
    | false => exact qf rfl F2 H2 g2 s2
/-- cells: append, item, pop -/
theorem s_app {l1 l2 : Cs} {i : Nat} {p : Addr} {vs : List V} (s : Sta F (l1 ++ (p, .lst vs) :: l2) H) (hi : σ[i]? = some (some (.ref p))) (h : EvD K te σ F (l1 ++ (p, .lst vs) :: l2) d (l1 ++ (p, .lst vs) :: l2)) (hl : vs.length < 100000)
    (q : ∀ v F2 H2, Gr F F2 → Sta F2 (l1 ++ (p, .lst (vs ++ [v])) :: l2) H2 → Dt K F2 v d → nx σ H2) : tDrop (tBM K "list" rAppend (tVar i) (tCons te tNil)) ⟨nx, rt, bk, ct⟩ σ H :=
  ⟨.ref p, hi, .inl ⟨rfl, _, .inl (.inl s.getAt)⟩, h F H .rfl s _ fun v F2 H2 g2 s2 h2 => ⟨p, vs, v, rfl, rfl, s2.getAt, szl hl, q v F2 _ g2 s2.putAt h2⟩⟩
theorem s_item {l1 l2 : Cs} {i : Nat} {p : Addr} {vs : List V} {ti : TE} {k : Int} {j : Nat} (s : Sta F (l1 ++ (p, .lst vs) :: l2) H) (hi : σ[i]? = some (some (.ref p))) (h : EvD K te σ F (l1 ++ (p, .lst vs) :: l2) d (l1 ++ (p, .lst vs) :: l2))
    (h2 : EvD K ti σ F (l1 ++ (p, .lst vs) :: l2) (.int k) (l1 ++ (p, .lst vs) :: l2)) (hj : ixN vs.length k = some j) (q : ∀ v F2 H2, Gr F F2 → Sta F2 (l1 ++ (p, .lst (vs.set j v)) :: l2) H2 → Dt K F2 v d → nx σ H2) : tAsg te (gSub (tVar i) ti rSetL) ⟨nx, rt, bk, ct⟩ σ H :=
  h F H .rfl s _ fun v F2 H2 g2 s2 hv => ⟨.ref p, hi, h2 F2 H2 g2 s2 _ fun w F3 H3 g3 s3 hw => ⟨p, vs, k, j, rfl, hw.toInt, s3.getAt, hj, q v F3 _ (g2.tr g3) s3.putAt (hv.gr g3)⟩⟩
/-- a cell lent for a flat answer -/
theorem d_lend {l1 l2 : Cs} {p : Addr} {o : HO} {w : V} (hw : ∀ F v, Dt K F v d → v = w) (hd : ∀ F, Dt K F w d) (h : ∀ F1, Gr F F1 → F1 p = none → EvD K te σ (upd F1 p o) (l1 ++ l2) d (l1 ++ l2)) : EvD K te σ F (l1 ++ (p, o) :: l2) d (l1 ++ (p, o) :: l2) := fun F1 H1 g1 s Q q => by
  refine h F1 g1 s.freeAt (upd F1 p o) H1 .rfl s.frozeAt Q fun v F2 H2 g2 s2 h2 => ?_
  cases hw F2 v h2
  exact q w (cut F2 p) H2 (gr_cut s.freeAt g2) (Sta.lent g2 s2) (hd _)
theorem t_lend {l1 l2 : Cs} {p : Addr} {o : HO} {t : TT} {b : Bool} (h : ∀ F1, Gr F F1 → F1 p = none → EvT t σ (upd F1 p o) (l1 ++ l2) b (l1 ++ l2)) : EvT t σ F (l1 ++ (p, o) :: l2) b (l1 ++ (p, o) :: l2) := fun F1 H1 g1 s Q q => by
  refine h F1 g1 s.freeAt (upd F1 p o) H1 .rfl s.frozeAt Q fun F2 H2 g2 s2 => ?_
  exact q (cut F2 p) H2 (gr_cut s.freeAt g2) (Sta.lent g2 s2)
theorem lent_l {p : Addr} {vs : List V} {ds : List PyData} (hn : F p = none) (h : Dts K F vs ds) : Dt K (upd F p (.lst vs)) (.ref p) (.list ds) := .lst (.inl (.inl upd_same)) (h.gr (Gr.new hn))
/-- unpacking -/
theorem u2 {v : V} {d1 d2 : PyData} (h : Dt K F v (.tuple [d1, d2])) : ∃ p v1 v2, v = .ref p ∧ SqT K F p [v1, v2] ∧ Dt K F v1 d1 ∧ Dt K F v2 d2 := by
  obtain ⟨p, vs, rfl, h1, h2⟩ := h.toTup
  obtain ⟨v1, v2, rfl, k1, k2⟩ := h2.two
  exact ⟨p, v1, v2, rfl, h1, k1, k2⟩
theorem u3 {v : V} {d1 d2 d3 : PyData} (h : Dt K F v (.tuple [d1, d2, d3])) : ∃ p v1 v2 v3, v = .ref p ∧ SqT K F p [v1, v2, v3] ∧ Dt K F v1 d1 ∧ Dt K F v2 d2 ∧ Dt K F v3 d3 := by
  obtain ⟨p, vs, rfl, h1, h2⟩ := h.toTup
  obtain ⟨v1, v2, v3, rfl, k1, k2, k3⟩ := h2.three
  exact ⟨p, v1, v2, v3, rfl, h1, k1, k2, k3⟩
theorem u4 {v : V} {d1 d2 d3 d4 : PyData} (h : Dt K F v (.tuple [d1, d2, d3, d4])) : ∃ p v1 v2 v3 v4, v = .ref p ∧ SqT K F p [v1, v2, v3, v4] ∧ Dt K F v1 d1 ∧ Dt K F v2 d2 ∧ Dt K F v3 d3 ∧ Dt K F v4 d4 := by
  obtain ⟨p, vs, rfl, h1, h2⟩ := h.toTup
  obtain ⟨v1, v2, v3, v4, rfl, k1, k2, k3, k4⟩ := h2.four
  exact ⟨p, v1, v2, v3, v4, rfl, h1, k1, k2, k3, k4⟩
/-! loops -/
theorem s_for {α S : Type} {wi : TI} {g : TG} {tb : TS} {xs : List α} {en : α → PyData} (st : S → Hp → St → Cs → Prop) {body : S → α → Option S} {s0 r : S}
    (s : Sta F cs H) (hi : EvI K wi σ F cs (xs.map en) cs1) (h0 : ∀ F', Gr F F' → st s0 F' σ cs1) (hm : xs.foldlM body s0 = some r)
    (turn : ∀ x a b F1 F3 σ1 c1 H3 v (N : St → Hp → Prop), Gr F F1 → st a F1 σ1 c1 → Gr F1 F3 → Sta F3 c1 H3 → Dt K F3 v (en x) → body a x = some b → (∀ F4 σ4 c4 H4, Gr F3 F4 → Sta F4 c4 H4 → st b F4 σ4 c4 → N σ4 H4) →
      g v σ1 H3 fun σ2 H2 => tb ⟨N, rt, nx, N⟩ σ2 H2)
    (done : ∀ F1 σ1 c1 H1, Gr F F1 → Sta F1 c1 H1 → st r F1 σ1 c1 → nx σ1 H1) : tFor wi g tb ⟨nx, rt, bk, ct⟩ σ H :=
  hi F H .rfl s _ fun J F2 H2 g2 s2 hs => by
    refine ⟨fun i m σ1 H1 => m = xs.length - i ∧ i ≤ xs.length ∧ ∃ a F1 c1, Gr F2 F1 ∧ Sta F1 c1 H1 ∧ st a F1 σ1 c1 ∧ (xs.drop i).foldlM body a = some r, ⟨xs.length, by simp, Nat.zero_le _, s0, F2, cs1, .rfl, s2, h0 F2 g2, by simpa using hm⟩, ?_⟩
    rintro i m σ1 H1 ⟨rfl, hi, a, F1, c1, g1, s1, ha, hr⟩
    obtain ⟨hgo, hstop, hy⟩ := hs F1 c1 H1 g1 s1
    by_cases hlt : i < xs.length
    · rw [List.drop_eq_getElem_cons hlt, List.foldlM_cons] at hr
      cases hb : body a xs[i] with
      | none => rw [hb] at hr; cases hr
      | some b =>
        rw [hb] at hr
        refine .inr ⟨hgo i (by simpa using hlt), fun σ2 H2 => ∃ F3 c3, Gr F2 F3 ∧ Sta F3 c3 H2 ∧ st b F3 σ2 c3, fun σ' H' ⟨F3, c3, g3, s3, h3⟩ => ⟨xs.length - (i + 1), by omega, rfl, hlt, b, F3, c3, g3, s3, h3, hr⟩, fun x H' y => ?_⟩
        obtain ⟨F3, g3, s3, d3⟩ := hy i x H' (en xs[i]) (by rw [List.getElem?_map, List.getElem?_eq_getElem hlt]; rfl) y
        exact turn xs[i] a b F1 F3 σ1 c1 H' x _ (g2.tr g1) ha g3 s3 d3 hb fun F4 σ4 c4 H4 g4 s4 h4 => ⟨F4, c4, (g1.tr g3).tr g4, s4, h4⟩
    · have e : i = xs.length := by omega
      subst e
      rw [List.drop_length] at hr
      cases hr
      exact .inl ⟨by simpa using hstop, done F1 σ1 c1 H1 (g2.tr g1) s1 ha⟩
/-- .. that may be left -/
theorem s_forF {α S R : Type} {wi : TI} {g : TG} {tb : TS} {xs : List α} {en : α → PyData} (st : S → Hp → St → Cs → Prop) {body : S → α → Option (Fl S R)} {s0 : S} {r : Fl S R}
    (s : Sta F cs H) (hi : EvI K wi σ F cs (xs.map en) cs1) (h0 : ∀ F', Gr F F' → st s0 F' σ cs1) (hm : forF body xs s0 = some r)
    (done : ∀ z F1 σ1 c1 H1, r = .nx z ∨ r = .br z → Gr F F1 → Sta F1 c1 H1 → st z F1 σ1 c1 → nx σ1 H1)
    (turn : ∀ x a b F1 F3 σ1 c1 H3 v (N B : St → Hp → Prop), Gr F F1 → st a F1 σ1 c1 → Gr F1 F3 → Sta F3 c1 H3 → Dt K F3 v (en x) → body a x = some b → (∀ z F4 σ4 c4 H4, b = .nx z → Gr F3 F4 → Sta F4 c4 H4 → st z F4 σ4 c4 → N σ4 H4) →
      (∀ z F4 σ4 c4 H4, b = .br z → Gr F3 F4 → Sta F4 c4 H4 → st z F4 σ4 c4 → B σ4 H4) → (∀ z, b = .rt z → r = .rt z) →
      g v σ1 H3 fun σ2 H2 => tb ⟨N, rt, B, N⟩ σ2 H2) : tFor wi g tb ⟨nx, rt, bk, ct⟩ σ H :=
  hi F H .rfl s _ fun J F2 H2 g2 s2 hs => by
    refine ⟨fun i m σ1 H1 => m = xs.length - i ∧ i ≤ xs.length ∧ ∃ a F1 c1, Gr F2 F1 ∧ Sta F1 c1 H1 ∧ st a F1 σ1 c1 ∧ forF body (xs.drop i) a = some r, ⟨xs.length, by simp, Nat.zero_le _, s0, F2, cs1, .rfl, s2, h0 F2 g2, by simpa using hm⟩, ?_⟩
    rintro i m σ1 H1 ⟨rfl, hi, a, F1, c1, g1, s1, ha, hr⟩
    obtain ⟨hgo, hstop, hy⟩ := hs F1 c1 H1 g1 s1
    by_cases hlt : i < xs.length
    · rw [List.drop_eq_getElem_cons hlt] at hr
      obtain ⟨b, hb, hr⟩ := bnd (show (body a xs[i]).bind _ = some r from hr)
      refine .inr ⟨hgo i (by simpa using hlt), fun σ2 H2 => ∃ z F3 c3, b = .nx z ∧ Gr F2 F3 ∧ Sta F3 c3 H2 ∧ st z F3 σ2 c3, fun σ' H' ⟨z, F3, c3, e3, g3, s3, h3⟩ => ⟨xs.length - (i + 1), by omega, rfl, hlt, z, F3, c3, g3, s3, h3, by subst e3; exact hr⟩, fun x H' y => ?_⟩
      obtain ⟨F3, g3, s3, d3⟩ := hy i x H' (en xs[i]) (by rw [List.getElem?_map, List.getElem?_eq_getElem hlt]; rfl) y
      refine turn xs[i] a b F1 F3 σ1 c1 H' x _ _ (g2.tr g1) ha g3 s3 d3 hb (fun z F4 σ4 c4 H4 e4 g4 s4 h4 => ⟨z, F4, c4, e4, (g1.tr g3).tr g4, s4, h4⟩) (fun z F4 σ4 c4 H4 e4 g4 s4 h4 => ?_) (fun z e => ?_)
      · subst e4
        exact done z F4 σ4 c4 H4 (.inr (Option.some.inj hr).symm) (((g2.tr g1).tr g3).tr g4) s4 h4
      · subst e
        exact (Option.some.inj hr).symm
    · have e : i = xs.length := by omega
      subst e
      rw [List.drop_length] at hr
      cases hr
      exact .inl ⟨by simpa using hstop, done a F1 σ1 c1 H1 (.inl rfl) (g2.tr g1) s1 ha⟩
/-- a while -/
theorem s_while {S R : Type} {tc : TT} {tb : TS} (st : S → Hp → St → Cs → Prop) {c : S → Option Bool} {body : S → Option (Fl S R)} {s0 : S} {r : Fl S R} {n : Nat}
    (s : Sta F cs H) (h0 : st s0 F σ cs) (hm : whileF c body n s0 = some r)
    (done : ∀ z F1 σ1 c1 H1, r = .nx z ∨ r = .br z → Gr F F1 → Sta F1 c1 H1 → st z F1 σ1 c1 → nx σ1 H1)
    (test : ∀ z k F1 σ1 c1, Gr F F1 → st z F1 σ1 c1 → c z = some k → EvT tc σ1 F1 c1 k c1) (mono : ∀ z F1 F2 σ1 c1, st z F1 σ1 c1 → Gr F1 F2 → st z F2 σ1 c1)
    (turn : ∀ a b F1 σ1 c1 H1 (N B : St → Hp → Prop), Gr F F1 → st a F1 σ1 c1 → Sta F1 c1 H1 → body a = some b → (∀ z F4 σ4 c4 H4, b = .nx z → Gr F1 F4 → Sta F4 c4 H4 → st z F4 σ4 c4 → N σ4 H4) →
      (∀ z F4 σ4 c4 H4, b = .br z → Gr F1 F4 → Sta F4 c4 H4 → st z F4 σ4 c4 → B σ4 H4) → (∀ z, b = .rt z → r = .rt z) →
      tb ⟨N, rt, B, N⟩ σ1 H1) : tWhile tc tb ⟨nx, rt, bk, ct⟩ σ H := by
  refine ⟨fun m σ1 H1 => ∃ a F1 c1, Gr F F1 ∧ Sta F1 c1 H1 ∧ st a F1 σ1 c1 ∧ whileF c body m a = some r, ⟨n, s0, F, cs, .rfl, s, h0, hm⟩, ?_⟩
  rintro m σ1 H1 ⟨a, F1, c1, g1, s1, ha, hr⟩
  cases m with
  | zero => cases hr
  | succ m =>
    obtain ⟨k, hk, hr⟩ := bnd (show (c a).bind _ = some r from hr)
    refine test a k F1 σ1 c1 g1 ha hk F1 H1 .rfl s1 _ fun F2 H2 g2 s2 => ?_
    cases k with
    | false =>
      cases hr
      exact done a F2 σ1 c1 H2 (.inl rfl) (g1.tr g2) s2 (mono a F1 F2 σ1 c1 ha g2)
    | true =>
      obtain ⟨b, hb, hr⟩ := bnd (show (body a).bind _ = some r from hr)
      refine ⟨fun σ2 H2 => ∃ z F3 c3, b = .nx z ∧ Gr F F3 ∧ Sta F3 c3 H2 ∧ st z F3 σ2 c3, fun σ' H' ⟨z, F3, c3, e3, g3, s3, h3⟩ => ⟨m, Nat.lt_succ_self m, z, F3, c3, g3, s3, h3, by subst e3; exact hr⟩, ?_⟩
      refine turn a b F2 σ1 c1 H2 _ _ (g1.tr g2) (mono a F1 F2 σ1 c1 ha g2) s2 hb (fun z F4 σ4 c4 H4 e4 g4 s4 h4 => ⟨z, F4, c4, e4, (g1.tr g2).tr g4, s4, h4⟩) (fun z F4 σ4 c4 H4 e4 g4 s4 h4 => ?_) (fun z e => ?_)
      · subst e4
        exact done z F4 σ4 c4 H4 (.inr (Option.some.inj hr).symm) ((g1.tr g2).tr g4) s4 h4
      · subst e
        exact (Option.some.inj hr).symm
/-! list comprehensions, whose elements change nothing -/
theorem c_lc {α β : Type} {wi : TI} {g : TG} {tt : TT} {vs : List Nat} {xs : List α} {en : α → PyData} {em : β → PyData} {f : α → Option (Option β)} {ys : List β}
    (hi : EvI K wi σ F cs (xs.map en) cs1) (hm : lcM f xs = some ys) (hl : xs.length ≤ 100000)
    (turn : ∀ x o v F1 p us, Gr F F1 → Dt K F1 v (en x) → f x = some o → ∃ σ2 : St, (∀ H (Q : St → Hp → Prop), Sta F1 ((p, .lst us) :: cs1) H → Q σ2 H → g v (wipe σ vs) H Q) ∧ wipe σ2 vs = wipe σ vs ∧
      EvT tt σ2 F1 ((p, .lst us) :: cs1) o.isSome ((p, .lst us) :: cs1) ∧ ∀ y, o = some y → EvD K te σ2 F1 ((p, .lst us) :: cs1) (em y) ((p, .lst us) :: cs1)) :
    EvC K (tLc wi g tt te vs) σ F cs (ys.map em) cs1 := fun F1 H1 g1 s Q q =>
  hi F1 H1 g1 s _ fun J F2 H2 g2 s2 hs => by
    intro p hp
    have s3 : Sta F2 ((p, .lst []) :: cs1) (upd H2 p (.lst [])) := s2.cell hp
    refine ⟨fun i m H4 => m = xs.length - i ∧ i ≤ xs.length ∧ ∃ us done rest F4, us.length ≤ i ∧ Gr F2 F4 ∧ Sta F4 ((p, .lst us) :: cs1) H4 ∧ Dts K F4 us (done.map em) ∧ lcM f (xs.drop i) = some rest ∧ done ++ rest = ys,
      ⟨xs.length, by simp, Nat.zero_le _, [], [], ys, F2, Nat.le_refl _, .rfl, s3, .nil, by simpa using hm, rfl⟩, ?_⟩
    rintro i m H4 ⟨rfl, hi, us, done, rest, F4, hu, g4, s4, hd, hr, he⟩
    obtain ⟨hgo, hstop, hy⟩ := hs F4 _ H4 g4 s4
    by_cases hlt : i < xs.length
    · rw [List.drop_eq_getElem_cons hlt] at hr
      obtain ⟨o, ho, hr⟩ := bnd (show (f xs[i]).bind _ = some rest from hr)
      obtain ⟨zs, hz, hr⟩ := bnd hr
      refine .inr ⟨hgo i (by simpa using hlt), fun H' => i + 1 ≤ xs.length ∧ ∃ us done rest F4, us.length ≤ i + 1 ∧ Gr F2 F4 ∧ Sta F4 ((p, .lst us) :: cs1) H' ∧ Dts K F4 us (done.map em) ∧ lcM f (xs.drop (i + 1)) = some rest ∧ done ++ rest = ys, fun H' h' => ⟨xs.length - (i + 1), by omega, rfl, h'⟩, fun x H' y => ?_⟩
      obtain ⟨F5, g5, s5, d5⟩ := hy i x H' (en xs[i]) (by rw [List.getElem?_map, List.getElem?_eq_getElem hlt]; rfl) y
      obtain ⟨σ2, h1, h2, h3, h4⟩ := turn xs[i] o x F5 p us (g1.tr (g2.tr (g4.tr g5))) d5 ho
      refine h1 H' _ s5 ⟨h2, h3 F5 H' .rfl s5 _ fun F6 H6 g6 s6 => ?_⟩
      cases o with
      | none =>
        cases hr
        exact ⟨hlt, us, done, zs, F6, Nat.le_succ_of_le hu, g4.tr (g5.tr g6), s6, hd.gr (g5.tr g6), hz, he⟩
      | some z =>
        cases hr
        refine (h4 z rfl) F6 H6 g6 s6 _ fun v F7 H7 g7 s7 hv => ⟨us, s7.at List.mem_cons_self, szl (by omega), hlt, us ++ [v], done ++ [z], zs, F7, by rw [List.length_append]; exact Nat.succ_le_succ hu, g4.tr (g5.tr (g6.tr g7)), s7.put, ?_, hz, ?_⟩
        · rw [List.map_append]
          exact (hd.gr (g5.tr (g6.tr g7))).app (.cons hv .nil)
        · rw [List.append_assoc]; exact he
    · have e : i = xs.length := by omega
      subst e
      rw [List.drop_length] at hr
      cases hr
      rw [List.append_nil] at he
      subst he
      exact .inl ⟨by simpa using hstop, q p us F4 H4 (g2.tr g4) s4 hd⟩
theorem t_yes : EvT tYes σ F cs true cs := fun F1 H1 g s Q q => q F1 H1 .rfl s
/-! functions -/
def spP (K : PySem.W.Frag) {α β : Type} (A : α → List PyData) (B : β → PyData) (f : α → Option β) : Sp := fun vs H Q _ => ∃ F cs x y, Dts K F vs (A x) ∧ Sta F cs H ∧ f x = some y ∧ ∀ v F2 H2, Gr F F2 → Sta F2 cs H2 → Dt K F2 v (B y) → Q v H2
theorem d_call {α β : Type} {A : α → List PyData} {B : β → PyData} {f : α → Option β} {x : α} {y : β} {E : XK} (h : EvDs K as σ F cs (A x) cs1) (hf : f x = some y) : EvD K (tCall (spP K A B f) [] E as) σ F cs (B y) cs1 := fun F1 H1 g1 s Q q =>
  h F1 H1 g1 s _ fun vs F2 H2 g2 s2 h2 => ⟨F2, cs1, x, y, by rw [List.append_nil]; exact h2, s2, hf, fun v F3 H3 g3 s3 h3 => q v F3 H3 (g2.tr g3) s3 h3⟩
end
/-! == of typed data -/
def EqE {α : Type} [DecidableEq α] (e : α → PyData) : Prop := ∀ x y, PyData.eqv (e x) (e y) = decide (x = y)
def ShE {α : Type} (n : Nat) (e : α → PyData) : Prop := ∀ x, (e x).canLay0 = true ∧ (e x).depth ≤ n
theorem shp {α : Type} {n : Nat} {e : α → PyData} (h : ShE n e) (hn : n ≤ 64) (x : α) : SeqAt.shaped (e x) = true := by
  unfold SeqAt.shaped
  rw [(h x).1, decide_eq_true (Nat.le_trans (h x).2 hn)]
  rfl
theorem beq_dec {α : Type} [BEq α] [LawfulBEq α] [DecidableEq α] (x y : α) : (x == y) = decide (x = y) := by
  rw [Bool.eq_iff_iff]; simp
theorem eqE_I : EqE eI := fun x y => by simp only [PyData.eqv]; exact beq_dec x y
theorem eqE_B : EqE eB := fun x y => by simp only [PyData.eqv]; exact beq_dec x y
theorem eqE_S : EqE eS := fun x y => by simp only [PyData.eqv]; exact beq_dec x y
theorem eqE_N : EqE eN := fun x y => by simp [PyData.eqv]
theorem eqAll_map {α : Type} [DecidableEq α] {e : α → PyData} (h : EqE e) : ∀ xs ys : List α, PyData.eqvAll (xs.map e) (ys.map e) = decide (xs = ys)
  | [], [] => by simp [PyData.eqvAll]
  | [], _ :: _ => by simp [PyData.eqvAll]
  | _ :: _, [] => by simp [PyData.eqvAll]
  | x :: xs, y :: ys => by
    simp only [List.map_cons, PyData.eqvAll]
    rw [h x y, eqAll_map h xs ys, Bool.eq_iff_iff]
    simp
theorem EqE.l {α : Type} [DecidableEq α] {e : α → PyData} (h : EqE e) : EqE (eL e) := fun xs ys => by
  show PyData.eqv (.list _) (.list _) = _
  simp only [PyData.eqv]
  exact eqAll_map h xs ys
theorem EqE.t2 {α β : Type} [DecidableEq α] [DecidableEq β] {e : α → PyData} {f : β → PyData} (h : EqE e) (k : EqE f) : EqE (eT2 e f) := fun x y => by
  show PyData.eqv (.tuple _) (.tuple _) = _
  simp only [PyData.eqv, PyData.eqvAll]
  rw [h, k, Bool.eq_iff_iff]
  obtain ⟨x1, x2⟩ := x; obtain ⟨y1, y2⟩ := y
  simp
theorem EqE.t3 {α β γ : Type} [DecidableEq α] [DecidableEq β] [DecidableEq γ] {e : α → PyData} {f : β → PyData} {g : γ → PyData} (h : EqE e) (k : EqE f) (l : EqE g) : EqE (eT3 e f g) := fun x y => by
  show PyData.eqv (.tuple _) (.tuple _) = _
  simp only [PyData.eqv, PyData.eqvAll]
  rw [h, k, l, Bool.eq_iff_iff]
  obtain ⟨x1, x2, x3⟩ := x; obtain ⟨y1, y2, y3⟩ := y
  simp
theorem EqE.t4 {α β γ δ : Type} [DecidableEq α] [DecidableEq β] [DecidableEq γ] [DecidableEq δ] {e : α → PyData} {f : β → PyData} {g : γ → PyData} {m : δ → PyData} (h : EqE e) (k : EqE f) (l : EqE g) (n : EqE m) : EqE (eT4 e f g m) := fun x y => by
  show PyData.eqv (.tuple _) (.tuple _) = _
  simp only [PyData.eqv, PyData.eqvAll]
  rw [h, k, l, n, Bool.eq_iff_iff]
  obtain ⟨x1, x2, x3, x4⟩ := x; obtain ⟨y1, y2, y3, y4⟩ := y
  simp
theorem sh_I : ShE 0 eI := fun x => ⟨by simp [PyData.canLay0], by simp [PyData.depth]⟩
theorem sh_B : ShE 0 eB := fun x => ⟨by simp [PyData.canLay0], by simp [PyData.depth]⟩
theorem sh_N : ShE 0 eN := fun x => ⟨by simp [PyData.canLay0], by simp [PyData.depth]⟩
theorem sh_all {α : Type} {n : Nat} {e : α → PyData} (h : ShE n e) : ∀ xs : List α, PyData.canLayAll0 (xs.map e) = true ∧ PyData.depthAll (xs.map e) ≤ n
  | [] => ⟨by simp [PyData.canLayAll0], by simp [PyData.depthAll]⟩
  | x :: xs => by
    obtain ⟨h1, h2⟩ := sh_all h xs
    simp only [List.map_cons, PyData.canLayAll0, PyData.depthAll]
    exact ⟨by rw [(h x).1, h1]; rfl, Nat.max_le.mpr ⟨(h x).2, h2⟩⟩
theorem ShE.l {α : Type} {n : Nat} {e : α → PyData} (h : ShE n e) : ShE (n + 1) (eL e) := fun xs => by
  show (PyData.list _).canLay0 = true ∧ (PyData.list _).depth ≤ _
  simp only [PyData.canLay0, PyData.depth]
  exact ⟨(sh_all h xs).1, Nat.succ_le_succ (sh_all h xs).2⟩
theorem ShE.t2 {α β : Type} {n m : Nat} {e : α → PyData} {f : β → PyData} (h : ShE n e) (k : ShE m f) : ShE (max n m + 1) (eT2 e f) := fun x => by
  show (PyData.tuple _).canLay0 = true ∧ (PyData.tuple _).depth ≤ _
  simp only [PyData.canLay0, PyData.depth, PyData.canLayAll0, PyData.depthAll]
  have := (h x.1).2; have := (k x.2).2
  exact ⟨by rw [(h _).1, (k _).1]; rfl, by omega⟩
theorem ShE.t3 {α β γ : Type} {n m l : Nat} {e : α → PyData} {f : β → PyData} {g : γ → PyData} (h : ShE n e) (k : ShE m f) (j : ShE l g) : ShE (max n (max m l) + 1) (eT3 e f g) := fun x => by
  show (PyData.tuple _).canLay0 = true ∧ (PyData.tuple _).depth ≤ _
  simp only [PyData.canLay0, PyData.depth, PyData.canLayAll0, PyData.depthAll]
  have := (h x.1).2; have := (k x.2.1).2; have := (j x.2.2).2
  exact ⟨by rw [(h _).1, (k _).1, (j _).1]; rfl, by omega⟩
theorem ShE.t4 {α β γ δ : Type} {n m l i : Nat} {e : α → PyData} {f : β → PyData} {g : γ → PyData} {z : δ → PyData} (h : ShE n e) (k : ShE m f) (j : ShE l g) (p : ShE i z) : ShE (max n (max m (max l i)) + 1) (eT4 e f g z) := fun x => by
  show (PyData.tuple _).canLay0 = true ∧ (PyData.tuple _).depth ≤ _
  simp only [PyData.canLay0, PyData.depth, PyData.canLayAll0, PyData.depthAll]
  have := (h x.1).2; have := (k x.2.1).2; have := (j x.2.2.1).2; have := (p x.2.2.2).2
  exact ⟨by rw [(h _).1, (k _).1, (j _).1, (p _).1]; rfl, by omega⟩
section
variable {K : PySem.W.Frag} {σ : St} {F F' : Hp} {cs cs1 cs2 cs3 : Cs} {ta tb tc te : TE}
theorem d_eqT {α : Type} [DecidableEq α] {n : Nat} {e : α → PyData} {x y : α} (he : EqE e) (hs : ShE n e) (hn : n ≤ 64) (ha : EvD K ta σ F cs (e x) cs1) (hb : EvD K tb σ F cs1 (e y) cs2) : EvD K (tOp (rEqD K) ta tb) σ F cs (.bool (decide (x = y))) cs2 :=
  he x y ▸ d_eqD ha hb (shp hs hn x) (shp hs hn y)
theorem d_neT {α : Type} [DecidableEq α] {n : Nat} {e : α → PyData} {x y : α} (he : EqE e) (hs : ShE n e) (hn : n ≤ 64) (ha : EvD K ta σ F cs (e x) cs1) (hb : EvD K tb σ F cs1 (e y) cs2) : EvD K (tOp (rNeD K) ta tb) σ F cs (.bool (!decide (x = y))) cs2 :=
  he x y ▸ d_neD ha hb (shp hs hn x) (shp hs hn y)
def eqTM {α : Type} [DecidableEq α] (e : α → PyData) (x y : α) : Option Bool := if SeqAt.shaped (e x) = true ∧ SeqAt.shaped (e y) = true then some (decide (x = y)) else none
def eqDM (x y : PyData) : Option Bool := if SeqAt.shaped x = true ∧ SeqAt.shaped y = true then some (PyData.eqv x y) else none
theorem d_eqTM {α : Type} [DecidableEq α] {e : α → PyData} {x y : α} {b : Bool} (he : EqE e) (ha : EvD K ta σ F cs (e x) cs1) (hb : EvD K tb σ F cs1 (e y) cs2) (hm : eqTM e x y = some b) : EvD K (tOp (rEqD K) ta tb) σ F cs (.bool b) cs2 := by
  unfold eqTM at hm; split at hm
  · rename_i h; cases hm; exact he x y ▸ d_eqD ha hb h.1 h.2
  · cases hm
theorem d_neTM {α : Type} [DecidableEq α] {e : α → PyData} {x y : α} {b : Bool} (he : EqE e) (ha : EvD K ta σ F cs (e x) cs1) (hb : EvD K tb σ F cs1 (e y) cs2) (hm : eqTM e x y = some b) : EvD K (tOp (rNeD K) ta tb) σ F cs (.bool (!b)) cs2 := by
  unfold eqTM at hm; split at hm
  · rename_i h; cases hm; exact he x y ▸ d_neD ha hb h.1 h.2
  · cases hm
theorem d_eqDM {x y : PyData} {b : Bool} (ha : EvD K ta σ F cs x cs1) (hb : EvD K tb σ F cs1 y cs2) (hm : eqDM x y = some b) : EvD K (tOp (rEqD K) ta tb) σ F cs (.bool b) cs2 := by
  unfold eqDM at hm; split at hm
  · rename_i h; cases hm; exact d_eqD ha hb h.1 h.2
  · cases hm
theorem d_neDM {x y : PyData} {b : Bool} (ha : EvD K ta σ F cs x cs1) (hb : EvD K tb σ F cs1 y cs2) (hm : eqDM x y = some b) : EvD K (tOp (rNeD K) ta tb) σ F cs (.bool (!b)) cs2 := by
  unfold eqDM at hm; split at hm
  · rename_i h; cases hm; exact d_neD ha hb h.1 h.2
  · cases hm
end
end Bw

namespace Bw
open PySem L2
/-! names for readings -/
abbrev rAbs : List V → Hp → VK → Prop := fun xs H Q => ∃ i, xs = [.int i] ∧ Q (.int (if i < 0 then -i else i)) H
abbrev rMax2 : List V → Hp → VK → Prop := fun xs H Q => ∃ i j, xs = [.int i, .int j] ∧ Q (.int (if j > i then j else i)) H
abbrev rMin2 : List V → Hp → VK → Prop := fun xs H Q => ∃ i j, xs = [.int i, .int j] ∧ Q (.int (if j < i then j else i)) H
abbrev rLenL (K : PySem.W.Frag) : List V → Hp → VK → Prop := fun xs H Q => ∃ p ys, xs = [.ref p] ∧ (SqL K H p ys ∨ SqT K H p ys) ∧ Q (.int ys.length) H
abbrev rLenS : List V → Hp → VK → Prop := fun xs H Q => ∃ z, xs = [.str z] ∧ z.length ≤ sizeLine ∧ Q (.int z.length) H
abbrev rInt : List V → Hp → VK → Prop := fun xs H Q => (∃ i, xs = [.int i] ∧ Q (.int i) H) ∨ ∃ k, xs = [.bl k] ∧ Q (.int (if k then 1 else 0)) H
abbrev rStrI : List V → Hp → VK → Prop := fun xs H Q => ∃ i, xs = [.int i] ∧ i.natAbs.log2 < 1920 ∧ Q (.str (toString i)) H
abbrev rListS (K : PySem.W.Frag) : List V → Hp → VK → Prop := fun xs H Q => ∃ p ys, xs = [.ref p] ∧ (SqL K H p ys ∨ SqT K H p ys) ∧ ∀ l, H l = none → Q (.ref l) (upd H l (.lst ys))
abbrev rScat : R2 := fun x y H Q => ∃ i j, x = .str i ∧ y = .str j ∧ i.length + j.length ≤ sizeLine ∧ Q (.str (i ++ j)) H
abbrev rInS : R2 := fun x y H Q => ∃ i j, x = .str i ∧ y = .str j ∧ Q (.bl (!(Builtin.Str.occurrences j i 0 j.length 1).isEmpty)) H
abbrev rNinS : R2 := fun x y H Q => ∃ i j, x = .str i ∧ y = .str j ∧ Q (.bl (!(!(Builtin.Str.occurrences j i 0 j.length 1).isEmpty))) H
abbrev rIsN : R2 := fun x y H Q => y = .non ∧ Q (.bl (decide (x = .non))) H
abbrev rNotN : R2 := fun x y H Q => y = .non ∧ Q (.bl (!decide (x = .non))) H
abbrev rJoin (K : PySem.W.Frag) : V → List V → Hp → VK → Prop := fun x xs H Q => ∃ a p, ∃ ys : List Str, x = .str a ∧ xs = [.ref p] ∧ (SqL K H p (ys.map V.str) ∨ SqT K H p (ys.map V.str)) ∧ (ys.map (·.length)).sum + ys.length * a.length ≤ 16777216 ∧ Q (.str (Txt.join a ys)) H
section
variable {X : Cx}
theorem cr_abs : CallR X (.builtin "abs") rAbs := call_abs
theorem cr_max2 (hc : X.calm = true) : CallR X (.builtin "max") rMax2 := call_max2 hc
theorem cr_min2 (hc : X.calm = true) : CallR X (.builtin "min") rMin2 := call_min2 hc
theorem cr_lenL : CallR X (.builtin "len") (rLenL X.K) := call_len_seq
theorem cr_lenS : CallR X (.builtin "len") rLenS := call_len_str
theorem cr_int : CallR X (.type "int") rInt := call_int1
theorem cr_str : CallR X (.type "str") rStrI := call_str_int
theorem cr_list : CallR X (.type "list") (rListS X.K) := call_list_of
theorem op_scatR : OpR X (binaryOp .Add) rScat := op_add_str
theorem op_inR : OpR X (compareOp .In) rInS := op_in_str
theorem op_ninR : OpR X (compareOp .NotIn) rNinS := op_notin_str
theorem op_isNR : OpR X (compareOp .Is) rIsN := op_isN
theorem op_notNR : OpR X (compareOp .IsNot) rNotN := op_notN
end
theorem bf {b : Bool} (h : b = false) : ¬ b = true := by rw [h]; decide
theorem bt {b : Bool} (h : ¬ b = true) : b = false := by cases b <;> simp_all
theorem isS {α : Type} {c : Bool} {a : α} : (if c = true then some a else none : Option α).isSome = c := by cases c <;> rfl
theorem isSm {α : Type} {c : Bool} {a y : α} (h : (if c = true then some a else none : Option α) = some y) : a = y := by
  cases c with
  | true => exact Option.some.inj h
  | false => cases h
theorem pr2 {α β : Type} {a a' : α} {b b' : β} (h : (a, b) = (a', b')) : a = a' ∧ b = b' := by cases h; exact ⟨rfl, rfl⟩
theorem pr3 {α β γ : Type} {a a' : α} {b b' : β} {c c' : γ} (h : (a, b, c) = (a', b', c')) : a = a' ∧ b = b' ∧ c = c' := by cases h; exact ⟨rfl, rfl, rfl⟩
theorem pr4 {α β γ δ : Type} {a a' : α} {b b' : β} {c c' : γ} {d d' : δ} (h : (a, b, c, d) = (a', b', c', d')) : a = a' ∧ b = b' ∧ c = c' ∧ d = d' := by cases h; exact ⟨rfl, rfl, rfl, rfl⟩
theorem pr5 {α β γ δ ε : Type} {a a' : α} {b b' : β} {c c' : γ} {d d' : δ} {e e' : ε} (h : (a, b, c, d, e) = (a', b', c', d', e')) : a = a' ∧ b = b' ∧ c = c' ∧ d = d' ∧ e = e' := by cases h; exact ⟨rfl, rfl, rfl, rfl, rfl⟩
theorem dt_oI {K : PySem.W.Frag} {F : Hp} (o : Option Int) : Dt K F (oV V.int o) (eO eI o) := by cases o with
  | none => exact .non
  | some x => exact .int x
theorem dt_oS {K : PySem.W.Frag} {F : Hp} (o : Option Str) : Dt K F (oV V.str o) (eO eS o) := by cases o with
  | none => exact .non
  | some x => exact .str x
theorem dt_toI {K : PySem.W.Frag} {F : Hp} {v : V} {o : Option Int} (h : Dt K F v (eO eI o)) : v = oV V.int o := by cases o with
  | none => exact h.toNon
  | some x => exact h.toInt
theorem dt_toS {K : PySem.W.Frag} {F : Hp} {v : V} {o : Option Str} (h : Dt K F v (eO eS o)) : v = oV V.str o := by cases o with
  | none => exact h.toNon
  | some x => exact h.toStr
def mapC {α β : Type} (f : α → β) (xs : List α) : Option (List β) := if xs.length ≤ 100000 then some (xs.map f) else none
def filC {α β : Type} (p : α → Bool) (f : α → β) (xs : List α) : Option (List β) := if xs.length ≤ 100000 then some ((xs.filter p).map f) else none
def lcC {α β : Type} (f : α → Option (Option β)) (xs : List α) : Option (List β) := if xs.length ≤ 100000 then lcM f xs else none
section
variable {K : PySem.W.Frag} {σ : St} {F F' : Hp} {cs cs1 cs2 cs3 : Cs} {ta tb tc te : TE} {d e : PyData} {as : TA} {a b c : Int} {nx bk ct : St → Hp → Prop} {rt : VK} {H : Hp} {t u : TS}
theorem d_mulC (ha : EvD K ta σ F cs (.int a) cs1) (hb : EvD K tb σ F cs1 (.int b) cs2) (hc : CMul a b) : EvD K (tOp (rI CMul fun i j => .int (i * j)) ta tb) σ F cs (.int (a * b)) cs2 := d_I ha hb hc fun _ => .int _
theorem d_modC (ha : EvD K ta σ F cs (.int a) cs1) (hb : EvD K tb σ F cs1 (.int b) cs2) (hc : 0 < b) : EvD K (tOp (rI (fun _ j => 0 < j) fun i j => .int (i % j)) ta tb) σ F cs (.int (a % b)) cs2 := d_I (C := fun _ j => 0 < j) ha hb hc fun _ => .int _
theorem d_fdivC (ha : EvD K ta σ F cs (.int a) cs1) (hb : EvD K tb σ F cs1 (.int b) cs2) (hc : CDiv a b) : EvD K (tOp (rI CDiv fun i j => .int (i / j)) ta tb) σ F cs (.int (a / b)) cs2 := d_I ha hb hc fun _ => .int _
theorem d_powC (ha : EvD K ta σ F cs (.int a) cs1) (hb : EvD K tb σ F cs1 (.int b) cs2) (hc : CPow a b) : EvD K (tOp (rI CPow fun i j => .int (i ^ j.toNat)) ta tb) σ F cs (.int (a ^ b.toNat)) cs2 := d_I ha hb hc fun _ => .int _
theorem d_chain {g g' : Int → Int → Bool} (ha : EvD K ta σ F cs (.int a) cs1) (hb : EvD K tb σ F cs1 (.int b) cs2) (hc : EvD K tc σ F cs2 (.int c) cs2) : EvD K (tChain (rI0 fun i j => .bl (g i j)) (rI0 fun i j => .bl (g' i j)) ta tb tc) σ F cs (.bool (g a b && g' b c)) cs2 := fun F1 H1 g1 s Q q =>
  ha F1 H1 g1 s _ fun v F2 H2 g2 s2 h2 => hb F2 H2 (g1.tr g2) s2 _ fun w F3 H3 g3 s3 h3 => by
    cases h2.toInt; cases h3.toInt
    refine ⟨a, b, rfl, rfl, g a b, rfl, ?_⟩
    cases e : g a b with
    | true => exact hc F3 H3 ((g1.tr g2).tr g3) s3 _ fun z F4 H4 g4 s4 h4 => ⟨b, c, rfl, h4.toInt, q _ F4 H4 ((g2.tr g3).tr g4) s4 (by rw [e, Bool.true_and]; exact .bl _)⟩
    | false => exact q _ F3 H3 (g2.tr g3) s3 (by rw [e, Bool.false_and]; exact .bl _)
theorem t_andP {t u : TT} {a b : Bool} (h1 : EvT t σ F cs a cs1) (h2 : a = true → EvT u σ F cs1 b cs1) : EvT (tAnd t u) σ F cs (a && b) cs1 := t_and h1 h2 (fun h => by rw [h, Bool.true_and]) (fun h => by rw [h, Bool.false_and])
theorem t_orP {t u : TT} {a b : Bool} (h1 : EvT t σ F cs a cs1) (h2 : a = false → EvT u σ F cs1 b cs1) : EvT (tOr t u) σ F cs (a || b) cs1 := t_or h1 h2 (fun h => by rw [h, Bool.false_or]) (fun h => by rw [h, Bool.true_or])
theorem t_andM {t u : TT} {a r : Bool} (h1 : EvT t σ F cs a cs1) (h2 : a = true → EvT u σ F cs1 r cs1) (h4 : a = false → r = false) : EvT (tAnd t u) σ F cs r cs1 := t_and h1 h2 (fun _ => rfl) h4
theorem t_orM {t u : TT} {a r : Bool} (h1 : EvT t σ F cs a cs1) (h2 : a = false → EvT u σ F cs1 r cs1) (h4 : a = true → r = true) : EvT (tOr t u) σ F cs r cs1 := t_or h1 h2 (fun _ => rfl) h4
theorem d_andP {a b : Bool} (h1 : EvD K ta σ F cs (.bool a) cs1) (h2 : a = true → EvD K tb σ F cs1 (.bool b) cs1) : EvD K (tAndV ta tb) σ F cs (.bool (a && b)) cs1 := d_andV h1 h2 (fun h => by rw [h, Bool.true_and]) (fun h => by rw [h, Bool.false_and])
theorem d_orP {a b : Bool} (h1 : EvD K ta σ F cs (.bool a) cs1) (h2 : a = false → EvD K tb σ F cs1 (.bool b) cs1) : EvD K (tOrV ta tb) σ F cs (.bool (a || b)) cs1 := d_orV h1 h2 (fun h => by rw [h, Bool.false_or]) (fun h => by rw [h, Bool.true_or])
theorem d_andM {a r : Bool} (h1 : EvD K ta σ F cs (.bool a) cs1) (h2 : a = true → EvD K tb σ F cs1 (.bool r) cs1) (h4 : a = false → r = false) : EvD K (tAndV ta tb) σ F cs (.bool r) cs1 := d_andV h1 h2 (fun _ => rfl) h4
theorem d_orM {a r : Bool} (h1 : EvD K ta σ F cs (.bool a) cs1) (h2 : a = false → EvD K tb σ F cs1 (.bool r) cs1) (h4 : a = true → r = true) : EvD K (tOrV ta tb) σ F cs (.bool r) cs1 := d_orV h1 h2 (fun _ => rfl) h4
theorem d_join {x z : Str} {xs : List Str} (ha : EvD K ta σ F cs (.str x) cs1) (hb : EvD K tb σ F cs1 (eL eS xs) cs2) (hz : joinM x xs = some z) : EvD K (tM1 (rJoin K) ta tb) σ F cs (.str z) cs2 := fun F1 H1 g1 s Q q =>
  ha F1 H1 g1 s _ fun v F2 H2 g2 s2 h2 => ⟨⟨x, h2.toStr⟩, hb F2 H2 (g1.tr g2) s2 _ fun w F3 H3 g3 s3 h3 => by
    obtain ⟨p, vs, rfl, hl, hd⟩ := h3.toLst
    cases hd.strs
    unfold joinM at hz; split at hz
    · rename_i h; cases hz
      refine ⟨x, p, xs, h2.toStr, rfl, .inl (gr_L s3.fr hl), ?_, q _ F3 H3 (g2.tr g3) s3 (.str _)⟩
      rw [Nat.mul_comm xs.length]
      exact Nat.le_trans h (by decide)
    · cases hz⟩
theorem c_lcC {α β : Type} {wi : TI} {g : TG} {tt : TT} {vs : List Nat} {xs : List α} {en : α → PyData} {em : β → PyData} {f : α → Option (Option β)} {ys : List β}
    (hi : EvI K wi σ F cs (xs.map en) cs1) (hm : lcC f xs = some ys)
    (turn : ∀ x o v F1 p us, Gr F F1 → Dt K F1 v (en x) → f x = some o → ∃ σ2 : St, (∀ H (Q : St → Hp → Prop), Sta F1 ((p, .lst us) :: cs1) H → Q σ2 H → g v (wipe σ vs) H Q) ∧ wipe σ2 vs = wipe σ vs ∧
      EvT tt σ2 F1 ((p, .lst us) :: cs1) o.isSome ((p, .lst us) :: cs1) ∧ ∀ y, o = some y → EvD K te σ2 F1 ((p, .lst us) :: cs1) (em y) ((p, .lst us) :: cs1)) :
    EvC K (tLc wi g tt te vs) σ F cs (ys.map em) cs1 := by
  unfold lcC at hm; split at hm
  · rename_i h; exact c_lc hi hm h turn
  · cases hm
theorem c_mapC {α β : Type} {wi : TI} {g : TG} {tt : TT} {vs : List Nat} {xs : List α} {en : α → PyData} {em : β → PyData} {f : α → β} {ys : List β}
    (hi : EvI K wi σ F cs (xs.map en) cs1) (hm : mapC f xs = some ys)
    (turn : ∀ x o v F1 p us, Gr F F1 → Dt K F1 v (en x) → some (some (f x)) = some o → ∃ σ2 : St, (∀ H (Q : St → Hp → Prop), Sta F1 ((p, .lst us) :: cs1) H → Q σ2 H → g v (wipe σ vs) H Q) ∧ wipe σ2 vs = wipe σ vs ∧
      EvT tt σ2 F1 ((p, .lst us) :: cs1) o.isSome ((p, .lst us) :: cs1) ∧ ∀ y, o = some y → EvD K te σ2 F1 ((p, .lst us) :: cs1) (em y) ((p, .lst us) :: cs1)) :
    EvC K (tLc wi g tt te vs) σ F cs (ys.map em) cs1 := by
  unfold mapC at hm; split at hm
  · rename_i h; cases hm; exact c_lc (f := fun x => some (some (f x))) hi (lcM_map f xs) h turn
  · cases hm
theorem c_filC {α β : Type} {wi : TI} {g : TG} {tt : TT} {vs : List Nat} {xs : List α} {en : α → PyData} {em : β → PyData} {p : α → Bool} {f : α → β} {ys : List β}
    (hi : EvI K wi σ F cs (xs.map en) cs1) (hm : filC p f xs = some ys)
    (turn : ∀ x o v F1 p' us, Gr F F1 → Dt K F1 v (en x) → some (if p x = true then some (f x) else none) = some o → ∃ σ2 : St, (∀ H (Q : St → Hp → Prop), Sta F1 ((p', .lst us) :: cs1) H → Q σ2 H → g v (wipe σ vs) H Q) ∧ wipe σ2 vs = wipe σ vs ∧
      EvT tt σ2 F1 ((p', .lst us) :: cs1) o.isSome ((p', .lst us) :: cs1) ∧ ∀ y, o = some y → EvD K te σ2 F1 ((p', .lst us) :: cs1) (em y) ((p', .lst us) :: cs1)) :
    EvC K (tLc wi g tt te vs) σ F cs (ys.map em) cs1 := by
  unfold filC at hm; split at hm
  · rename_i h; cases hm; exact c_lc (f := fun x => some (if p x = true then some (f x) else none)) hi (lcM_filter p f xs) h turn
  · cases hm
theorem nxt (h : nx σ H) : tNext ⟨nx, rt, bk, ct⟩ σ H := h
theorem tg {g : TG} {v : V} {σ' : St} {Q : St → Hp → Prop} (h1 : ∀ Q : St → Hp → Prop, Q σ' H → g v σ H Q) (h2 : Q σ' H) : g v σ H Q := h1 Q h2
theorem s_asg {g : TG} (s : Sta F cs H) (h : EvD K te σ F cs d cs1) (q : ∀ v F2 H2, Gr F F2 → Sta F2 cs1 H2 → Dt K F2 v d → g v σ H2 nx) : tAsg te g ⟨nx, rt, bk, ct⟩ σ H := h F H .rfl s _ q
theorem s_ifJ {c : TT} {b : Bool} (J : St → Hp → Prop) (s : Sta F cs H) (h : EvT c σ F cs b cs1) (rest : ∀ σ' H', J σ' H' → nx σ' H') (qt : (∀ σ' H', J σ' H' → nx σ' H') → b = true → ∀ F2 H2, Gr F F2 → Sta F2 cs1 H2 → t ⟨nx, rt, bk, ct⟩ σ H2)
    (qf : (∀ σ' H', J σ' H' → nx σ' H') → b = false → ∀ F2 H2, Gr F F2 → Sta F2 cs1 H2 → u ⟨nx, rt, bk, ct⟩ σ H2) : tIfS c t u ⟨nx, rt, bk, ct⟩ σ H := s_if s h (qt rest) (qf rest)
theorem s_appF {α : Type} {vf : α → V} {en : α → PyData} {l1 l2 : Cs} {i : Nat} {p : Addr} {xs ys : List α} {x : α} (hw : ∀ F v x, Dt K F v (en x) → v = vf x) (s : Sta F (l1 ++ (p, .lst (xs.map vf)) :: l2) H) (hi : σ[i]? = some (some (.ref p))) (h : EvD K te σ F (l1 ++ (p, .lst (xs.map vf)) :: l2) (en x) (l1 ++ (p, .lst (xs.map vf)) :: l2)) (hm : appM xs x = some ys)
    (q : ∀ F2 H2, Gr F F2 → Sta F2 (l1 ++ (p, .lst (ys.map vf)) :: l2) H2 → nx σ H2) : tDrop (tBM K "list" rAppend (tVar i) (tCons te tNil)) ⟨nx, rt, bk, ct⟩ σ H := by
  obtain ⟨hl, rfl⟩ := appM_some hm
  refine s_app s hi h (by rw [List.length_map]; exact hl) fun v F2 H2 g2 s2 h2 => q F2 H2 g2 ?_
  cases hw F2 v x h2
  rw [List.map_append]; exact s2
theorem s_appG {α : Type} {en : α → PyData} {l1 l2 : Cs} {i : Nat} {p : Addr} {vs : List V} {xs ys : List α} {x : α} (s : Sta F (l1 ++ (p, .lst vs) :: l2) H) (hf : Dts K F vs (xs.map en)) (hi : σ[i]? = some (some (.ref p))) (h : EvD K te σ F (l1 ++ (p, .lst vs) :: l2) (en x) (l1 ++ (p, .lst vs) :: l2)) (hm : appM xs x = some ys)
    (q : ∀ us F2 H2, Gr F F2 → Sta F2 (l1 ++ (p, .lst us) :: l2) H2 → Dts K F2 us (ys.map en) → nx σ H2) : tDrop (tBM K "list" rAppend (tVar i) (tCons te tNil)) ⟨nx, rt, bk, ct⟩ σ H := by
  obtain ⟨hl, rfl⟩ := appM_some hm
  refine s_app s hi h (by rw [hf.len, List.length_map]; exact hl) fun v F2 H2 g2 s2 h2 => q _ F2 H2 g2 s2 ?_
  rw [List.map_append]; exact (hf.gr g2).app (.cons h2 .nil)
theorem s_itemF {α : Type} {vf : α → V} {en : α → PyData} {l1 l2 : Cs} {i : Nat} {p : Addr} {xs ys : List α} {x : α} {ti : TE} {k : Int} (hw : ∀ F v x, Dt K F v (en x) → v = vf x) (s : Sta F (l1 ++ (p, .lst (xs.map vf)) :: l2) H) (hi : σ[i]? = some (some (.ref p))) (h : EvD K te σ F (l1 ++ (p, .lst (xs.map vf)) :: l2) (en x) (l1 ++ (p, .lst (xs.map vf)) :: l2))
    (h2 : EvD K ti σ F (l1 ++ (p, .lst (xs.map vf)) :: l2) (.int k) (l1 ++ (p, .lst (xs.map vf)) :: l2)) (hm : setM xs k x = some ys) (q : ∀ F2 H2, Gr F F2 → Sta F2 (l1 ++ (p, .lst (ys.map vf)) :: l2) H2 → nx σ H2) : tAsg te (gSub (tVar i) ti rSetL) ⟨nx, rt, bk, ct⟩ σ H := by
  obtain ⟨j, hj, rfl⟩ := setM_some hm
  refine s_item (j := j) s hi h h2 (by rw [List.length_map]; exact hj) fun v F2 H2 g2 s2 hv => q F2 H2 g2 ?_
  cases hw F2 v x hv
  rw [List.map_set]; exact s2
theorem s_itemG {α : Type} {en : α → PyData} {l1 l2 : Cs} {i : Nat} {p : Addr} {vs : List V} {xs ys : List α} {x : α} {ti : TE} {k : Int} (s : Sta F (l1 ++ (p, .lst vs) :: l2) H) (hf : Dts K F vs (xs.map en)) (hi : σ[i]? = some (some (.ref p))) (h : EvD K te σ F (l1 ++ (p, .lst vs) :: l2) (en x) (l1 ++ (p, .lst vs) :: l2))
    (h2 : EvD K ti σ F (l1 ++ (p, .lst vs) :: l2) (.int k) (l1 ++ (p, .lst vs) :: l2)) (hm : setM xs k x = some ys) (q : ∀ us F2 H2, Gr F F2 → Sta F2 (l1 ++ (p, .lst us) :: l2) H2 → Dts K F2 us (ys.map en) → nx σ H2) : tAsg te (gSub (tVar i) ti rSetL) ⟨nx, rt, bk, ct⟩ σ H := by
  obtain ⟨j, hj, rfl⟩ := setM_some hm
  refine s_item (j := j) s hi h h2 (by rw [hf.len, List.length_map]; exact hj) fun v F2 H2 g2 s2 hv => q _ F2 H2 g2 s2 ?_
  rw [List.map_set]; exact (hf.gr g2).setAt j hv
end
/-! isinstance -/
def kindD : PyData → String
  | .none => "NoneType"
  | .bool _ => "bool"
  | .int _ => "int"
  | .str _ => "str"
  | .list _ => "list"
  | .tuple _ => "tuple"
  | .dict _ => "dict"
def isiD (c : String) (d : PyData) : Bool := kindD d == c || (kindD d == "bool" && c == "int")
def isiK : List String := ["int", "str", "bool", "list", "tuple", "dict"]
theorem kit_isi {K : PySem.W.Frag} {c : String} (hc : c ∈ isiK) (d : PyData) : PySem.W.kitOne K (.type (kindD d)) (.type c) = some (isiD c d) := by
  have h : ∀ k ∈ ["NoneType", "bool", "int", "str", "list", "tuple", "dict"], ∀ c ∈ isiK, kitB k c = some (k == c || (k == "bool" && c == "int")) := by decide +kernel
  exact kit_ty (h (kindD d) (by cases d <;> simp [kindD]) c hc)
theorem ty_of {K : PySem.W.Frag} {F H : Hp} {v : V} {d : PyData} (g : Gr F H) (h : Dt K F v d) : TyX K H v (.type (kindD d)) := by
  cases h with
  | non => exact .base .non
  | bl b => exact .base (.bl b)
  | int i => exact .base (.int i)
  | str x => exact .base (.str x)
  | lst hl _ =>
    rcases hl with (h | ⟨o, h⟩) | ⟨o, its, n, h1, h2, h3⟩
    · exact .base (.lst (g _ _ h))
    · exact .base (.frz (g _ _ h))
    · exact .kList h1 h2
  | tup ht _ =>
    rcases ht with (h | ⟨o, h⟩) | ⟨o, its, n, h1, h2, h3⟩
    · exact .base (.tup (g _ _ h))
    · exact .fTuple (g _ _ h)
    · exact .kTuple h1 h2
  | dct h => exact .base (.dK (g _ _ h))
theorem d_isiD {K : PySem.W.Frag} {σ : St} {F : Hp} {cs cs1 : Cs} {ta : TE} {d : PyData} {c : String} (hc : c ∈ isiK) (ha : EvD K ta σ F cs d cs1) : EvD K (tCB (rIsi K) (tCons ta (tCons (tC (.ty c)) tNil))) σ F cs (.bool (isiD c d)) cs1 := fun F1 H1 g1 s Q q =>
  ha F1 H1 g1 s _ fun v F2 H2 g2 s2 h2 => ⟨v, .ty c, .type (kindD d), .type c, isiD c d, rfl, .ty c, ty_of s2.fr h2, kit_isi hc d, q _ F2 H2 g2 s2 (.bl _)⟩
/-! a def that keeps its promise -/
def Lk (K : PySem.W.Frag) (f : Addr) (fd : FuncData) : Prop := ∃ oc od sl, K.lookup f = some ⟨oc, od, .func fd, sl⟩
theorem lk_of {K : PySem.W.Frag} {x qual : Str} {params : Arguments} {body : List Stmt} {scope : Scope} {dvs : List V} {kws : List (Str × V)} {f : Addr} {fd : FuncData} (F : FunD K x qual params body scope dvs kws f fd) : Lk K f fd := by
  obtain ⟨oc, od, dV, kV, doc, pm, an, cdv, ct, osl, _, lk, _⟩ := F.ex
  exact ⟨oc, od, osl, lk⟩
theorem Lk.one {K : PySem.W.Frag} {f : Addr} {fd fd2 : FuncData} (a : Lk K f fd) (b : Lk K f fd2) : fd = fd2 := by
  obtain ⟨_, _, _, e1⟩ := a
  obtain ⟨_, _, _, e2⟩ := b
  rw [e1] at e2
  cases e2
  rfl
structure Ok (P : Program) (w : World) (K : PySem.W.Frag) (mg : Str → Option Value) (base : Heap) (k : Nat) (x : Str) (ps : List Str) (sp : Sp) : Prop where
  ex : ∃ fd, FnOk P w K mg base CX0 k (He.ga K x) fd ps sp ∧ Binds K fd ps [] ∧ Lk K (He.ga K x) fd
  kp : PySem.W.keepIn K (.ref (He.ga K x)) = true
  gm : mg x = some (.ref (He.ga K x))
structure Df (K : PySem.W.Frag) (mg : Str → Option Value) (x : Str) (st : Stmt) : Prop where
  ex : ∃ fd, FunD K x x (defArgs st) (defBody st) (defScope st) [] [] (He.ga K x) fd
  gm : mg x = some (.ref (He.ga K x))
end Bw

/-! set(list) for any kind of key: as many members as unlike keys -/
namespace Bw
open PySem PyProof.Rows
def dups {κ : Type} [BEq κ] : List κ → List κ → List κ
  | acc, [] => acc
  | acc, x :: xs => dups (if acc.any (· == x) then acc else acc ++ [x]) xs
section
variable {κ : Type} [DecidableEq κ] [BEq κ] [LawfulBEq κ]
def met (ks : List κ) (i : Nat) : List κ := dups [] (ks.take i)
theorem dups_app (l : List κ) (x : κ) : ∀ acc, dups acc (l ++ [x]) = (if (dups acc l).any (· == x) then dups acc l else dups acc l ++ [x]) := by
  induction l with
  | nil => intro acc; rfl
  | cons y l ih => intro acc; exact ih _
theorem met_succ (ks : List κ) (i : Nat) (x : κ) (h : ks[i]? = some x) : met ks (i + 1) = (if (met ks i).any (· == x) then met ks i else met ks i ++ [x]) := by
  unfold met
  rw [List.take_add_one, h]
  exact dups_app _ _ _
theorem dups_len (l : List κ) : ∀ acc : List κ, (dups acc l).length ≤ acc.length + l.length := by
  induction l with
  | nil => intro acc; exact Nat.le_refl _
  | cons y l ih =>
    intro acc
    have := ih (if acc.any (· == y) then acc else acc ++ [y])
    have h2 : (if acc.any (· == y) then acc else acc ++ [y]).length ≤ acc.length + 1 := by
      split
      · exact Nat.le_succ _
      · rw [List.length_append]; exact Nat.le_refl _
    show (dups (if acc.any (· == y) then acc else acc ++ [y]) l).length ≤ acc.length + (l.length + 1)
    omega
theorem met_len (ks : List κ) (i : Nat) : (met ks i).length ≤ i := by
  have h := dups_len (ks.take i) ([] : List κ)
  have h2 : (ks.take i).length ≤ i := by rw [List.length_take]; exact Nat.min_le_left _ _
  unfold met
  simp only [List.length_nil, Nat.zero_add] at h
  omega
end
section
variable {prog : Program} {w : World} {A : Around} {R : Result → Shared → Prop} {I : Addr} {fp wr : List Addr} {G : Array GenState → Array GenState → Prop} {n : Nat} {P : Nat → Value → Prop} {St : Nat → Shared → Prop}
variable {κ : Type} [DecidableEq κ] [BEq κ] [LawfulBEq κ] (knd : KeyKind prog w κ)
theorem loopK (W : WalksS prog w A.in1 I fp wr G n P St) (S : Addr) (hSf : S ∉ fp) (ks : List κ) (hval : ∀ i v, P i v → ∃ k, ks[i]? = some k ∧ knd.is k v = true ∧ v.scannable = true) (hb : n + 1 < scanBound) :
    ∀ (k i : Nat) (s : Shared), n - i = k → i ≤ n → St i s → s.heap.SetOf knd S (fun z => (met ks i).any (· == z)) (met ks i).length →
      (∀ s', Moved (S :: wr) G s s' → s'.heap.SetOf knd S (fun z => (met ks n).any (· == z)) (met ks n).length → R (.ok (.ret .none)) s') →
      codeAny (model prog w) A (.builtin "set.update.loop" ⟨[.ref S, .ref I], []⟩) R s := by
  have nw : S ∉ wr := fun h => hSf (W.sub _ h)
  have sb : ∀ b ∈ wr, b ∈ S :: wr := fun b hb => List.mem_cons_of_mem _ hb
  intro k
  induction k with
  | zero =>
    intro i s hk hi hst hS hR
    obtain rfl : i = n := by omega
    refine codeAny_builtin F.entry_set_update_loop ?_
    rw [Around.under_plainId F.plain_set_update_loop _]
    show wpAny _ A.in1 (pyNext (.ref I) >>= _) _ _ s
    refine wpAny_bind (W.done s _ _ hst fun s' hm => ?_)
    show wpAny _ A.in1 (ret Value.none) _ _ s'
    refine wpAny_pure (hR s' (hm.mono sb) ?_)
    obtain ⟨o, es, ep, t, ho, rest⟩ := hS
    exact ⟨o, es, ep, t, hm.heap S _ nw ho, rest⟩
  | succ k ih =>
    intro i s hk hi hst hS hR
    have hlt : i < n := by omega
    refine codeAny_builtin F.entry_set_update_loop ?_
    rw [Around.under_plainId F.plain_set_update_loop _]
    show wpAny _ A.in1 (pyNext (.ref I) >>= _) _ _ s
    refine wpAny_bind (W.item i s _ _ hlt hst fun v s' hP hst' hm => ?_)
    obtain ⟨x, hx, his, hsc⟩ := hval i v hP
    have hS' : s'.heap.SetOf knd S (fun z => (met ks i).any (· == z)) (met ks i).length := by
      obtain ⟨o, es, ep, tb, ho, rest⟩ := hS
      exact ⟨o, es, ep, tb, hm.heap S _ nw ho, rest⟩
    show wpAny _ A.in1 (holding [v] (setAdd S v) >>= _) _ _ s'
    refine wpAny_bind (wpAny_holding ?_)
    unfold setAdd
    refine wpAny_holding ?_
    refine wpAny_bind (knd.pyHash (k := x) his ?_)
    refine wpAny_setAddHashed_of (knd := knd) (s := { s' with toks := s'.toks + 1 }) his hsc hS' (by have := met_len ks i; omega) fun h' hsb hS2 => ?_
    have hSi : h'.SetOf knd S (fun z => (met ks (i + 1)).any (· == z)) (met ks (i + 1)).length := by
      refine SetOf_congr hS2 (fun z => ?_) ?_
      · rw [met_succ ks i x hx]
        by_cases q : (met ks i).any (· == x) = true
        · rw [if_pos q]
          by_cases e : z = x
          · subst e; rw [q]; rfl
          · rw [decide_eq_false e, Bool.or_false]
        · rw [if_neg q, List.any_append]
          by_cases e : z = x
          · subst e; simp
          · have hb2 : (x == z) = false := beq_eq_false_iff_ne.mpr fun h' => e h'.symm
            simp [hb2, e]
      · rw [met_succ ks i x hx]
        by_cases q : (met ks i).any (· == x) = true
        · rw [if_pos q, if_pos q]
        · rw [if_neg q, if_neg q, List.length_append]; rfl
    refine wpAny_pure ⟨plainId_quiet F.plain_set_update_loop _, ih (i + 1) _ (by omega) hlt (W.frame _ s' _ _ hst' (Nat.le_succ _) fun b hb o e => ?_) hSi fun s'' hm'' hS'' => ?_⟩
    · rw [hsb.2 b (fun h : b = S => hSf (by rw [← h]; exact hb))]; exact e
    · refine hR s'' (Moved.trans W.gtrans ((hm.mono sb).then_heap (Nat.le_succ _) fun b o hb e => ?_) hm'') hS''
      rw [hsb.2 b (fun h : b = S => hb (by rw [h]; exact List.mem_cons_self))]; exact e
end
end Bw
namespace Bw
open PySem
section
variable {prog : Program} {w : World} {A : Around} {E : Value → Shared → Prop} {s : Shared}
variable {κ : Type} [DecidableEq κ] [BEq κ] [LawfulBEq κ] (knd : KeyKind prog w κ)
abbrev sO (led : Bool) : Obj := { cls := .type "set", dict := none, data := .set #[] 0 (.fresh 0 0 led) }
theorem call_setK {l : Addr} {items : Array Value} {ks : List κ} {Q : Value → Shared → Prop} (hh : A.handled = none) (hl : s.heap.IsList l items)
    (hi : ∀ (i : Nat) (v : Value), items[i]? = some v → ∃ k, ks[i]? = some k ∧ knd.is k v = true ∧ v.scannable = true) (hb : items.size + 1 < scanBound)
    (h : ∀ (h' : Heap) (tk : Nat), h'.SetOf knd s.heap.objs.size (fun z => (met ks items.size).any (· == z)) (met ks items.size).length → (∀ b o, b < s.heap.objs.size → s.heap.get? b = some o → h'.get? b = some o) → Q (.ref s.heap.objs.size) { s with heap := h', toks := tk }) :
    wpAny (model prog w) A (call (.type "set") [.ref l]) Q E s := by
  obtain ⟨c, tl, hmro⟩ := F.called_set.mro
  have hmade := F.called_set.made
  have hsub := F.called_set.sub
  refine wpAny_call (codeAny_of_tree ?_)
  show wpAny _ _ (callAny (.type "set") _) _ _ _
  refine wpAny_pure ⟨Code.quiet_builtin _ (by decide +kernel), codeAny_builtin F.entry_type_call ?_⟩
  rw [Around.under_plain (weight_type_call_type "set" [.ref l] []) rfl]
  have h1 := F.called_set.notType
  have h2 := F.called_set.canCreate
  have hct := F.typeCall_set_1 (.ref l)
  repeat (any_goals (first | assumption | wp_step))
  refine codeAny_mono (code_set_new_1 (.ref l) (E := E) (Q₁ := fun obj s₁ => ∃ led : Bool, obj = .ref s.heap.objs.size ∧ s₁ = { s with heap := s.heap.push (sO led) }) fun led => ⟨led, rfl, rfl⟩) fun r s₁ hr => ?_
  cases r with
  | error e => exact hr
  | ok fl =>
    cases fl with
    | ret obj =>
      obtain ⟨led, rfl, rfl⟩ := hr
      have hS : (s.heap.push (sO led)).get? s.heap.objs.size = some (sO led) := Heap.get?_push_size _ rfl
      have hT : Shared.TypeIs { s with heap := s.heap.push (sO led) } (.ref s.heap.objs.size) "set" := ⟨_, hS, rfl⟩
      have hli := F.called_set.init.lookup
      have hbi := F.called_set.init.bind (.ref s.heap.objs.size)
      repeat (any_goals (first | assumption | wp_step))
      refine codeAny_mono (codeAny_call_builtin (R := wants (fun r s₂ => r = .none ∧ ∃ h' tk, s₂ = { s with heap := h', toks := tk } ∧ h'.SetOf knd s.heap.objs.size (fun z => (met ks items.size).any (· == z)) (met ks items.size).length ∧
          (∀ b o, b < s.heap.objs.size → s.heap.get? b = some o → h'.get? b = some o)) E) F.called_set.init.plain F.entry_set_init (check_set_init_1 hT ?_)) fun r₂ s₂ hr₂ => ?_
      · obtain ⟨ol, hol, hcl, nl, hdl⟩ := hl
        obtain ⟨ocls, odict, odata, oslots⟩ := ol
        simp only at hcl hdl
        subst hcl; subst hdl
        have hol' : (s.heap.push (sO led)).get? l = some { cls := .type "list", dict := odict, data := .seq items nl, slots := oslots } := Heap.get?_push_of_some _ hol
        have hsls := F.sub_list_set
        have hslf := F.sub_list_frozenset
        have hne : (Value.type "list" == Value.type "dict") = false := by decide
        have hl1 : (s.heap.push (sO led)).IsList l items := ⟨_, hol', rfl, nl, rfl⟩
        unfold Builtin.«set.__init__» noKeywords Builtin.Frozenset.updateFrom
        generalize hPI : pyIter = PI
        wp_walk
        subst hPI
        refine wpAny_pyIter_list hl1 ?_
        refine wpAny_bind (wpAny_runValue ?_)
        have hlS : l < s.heap.objs.size := Heap.lt_size hol
        have hneI : l ≠ (s.heap.push (sO led)).objs.size := by
          rw [Heap.size_push]; exact Nat.ne_of_lt (Nat.lt_succ_of_lt hlS)
        have hSf : s.heap.objs.size ∉ [(s.heap.push (sO led)).objs.size, l] := by
          rw [Heap.size_push]; simp only [List.mem_cons, List.not_mem_nil, or_false, not_or]
          exact ⟨Nat.ne_of_lt (Nat.lt_succ_self _), Nat.ne_of_gt hlS⟩
        refine loopK knd ((Walks.list (by simp [hh]) _ l hneI items).toS) s.heap.objs.size hSf ks hi hb (items.size - 0) 0 _ (by omega) (Nat.zero_le _) ⟨⟨_, Heap.get?_push_size _ rfl, rfl, rfl⟩, (hl1.push _)⟩ ?hS0 ?hR
        case hS0 =>
          exact PyProof.Rows.SetOf_congr ((PyProof.Rows.setObjOf_fresh (knd := knd) led).setOf (Heap.get?_push_of_some _ hS) (by unfold scanBound; omega)) (fun _ => rfl) rfl
        case hR =>
          intro s' hm hS'
          obtain ⟨h', g', d', tk', os'⟩ := s'
          have eg : g' = s.gens := hm.gens
          have ed : d' = s.drawn := hm.drawn
          have eo : os' = s.os := hm.os
          subst eg; subst ed; subst eo
          show wpAny _ _ _ _ _ _
          refine wpAny_pure ?_
          show wpAny _ _ (ret Value.none) _ _ _
          refine wpAny_pure ⟨rfl, h', tk', rfl, hS', fun b o hb e => ?_⟩
          refine hm.heap b o ?_ (Heap.get?_push_of_some _ (Heap.get?_push_of_some _ e))
          simp only [List.mem_cons, List.not_mem_nil, or_false, not_or]
          exact ⟨Nat.ne_of_lt hb, by rw [Heap.size_push]; exact Nat.ne_of_lt (Nat.lt_succ_of_lt hb)⟩
      · cases r₂ with
        | error e => exact hr₂
        | ok fl₂ =>
          cases fl₂ with
          | ret r =>
            obtain ⟨rfl, h', tk, rfl, hS', hk'⟩ := hr₂
            repeat (any_goals (first | assumption | wp_step))
            exact h _ _ hS' hk'
          | _ => exact hr₂.elim
    | _ => exact hr.elim
end
end Bw


namespace Bw
open PySem L2
def tLenSetS (K : PySem.W.Frag) (ta : TE) : TE := fun σ H Q => ta σ H fun x H1 => ∃ (l : Addr) (xs : List Str), x = .ref l ∧ SqL K H1 l (xs.map V.str) ∧ xs.length ≤ 4000 ∧ Q (.int (dups [] xs).length) H1
theorem strs_get : ∀ {xs : List Str} {us : List Value} {i : Nat} {v : Value}, Vals (xs.map V.str) us → us[i]? = some v → ∃ k, xs[i]? = some k ∧ ∃ t, v = .str k t
  | [], _, _, _, .nil, e => by simp at e
  | x :: xs, _, 0, v, .cons r t, e => by
    simp at e; subst e
    exact ⟨x, rfl, r⟩
  | x :: xs, _, i + 1, v, .cons r t, e => by
    obtain ⟨k, h1, h2⟩ := strs_get (i := i) (v := v) t (by simpa using e)
    exact ⟨k, by simpa using h1, h2⟩
theorem met_all {κ : Type} [DecidableEq κ] [BEq κ] (ks : List κ) : met ks ks.length = dups [] ks := by unfold met; rw [List.take_length]
theorem pe_lenSetS {X : Cx} {a : Expr} {ta : TE} {p p2 q pos : Pos} (hc : X.calm = true) (hg : Gl X "len") (hm : X.mg "len" = none) (hg2 : Gl X "set") (hm2 : X.mg "set" = none) (ha : PE X a ta)
    (na : starEach [a] X.env = (false, eval a X.env) :: starEach [] X.env := by rfl) : PE X (.Call (.Name "len" p) [.Call (.Name "set" p2) [a] [] q] [] pos) (tLenSetS X.K ta) := by
  refine ⟨fun pins s σ H Q I h => ?_⟩
  refine PyProof.Rows.Call_ (ld_blt I hg hm boot_len ?_)
  refine PyProof.Rows.callWith_builtin1 (PyProof.Rows.args_cons ?_ rfl) rfl rfl
  refine PyProof.Rows.Call_ (ld_blt I hg2 hm2 PyProof.Rows.boot_set ?_)
  refine PyProof.Rows.callWith_type1 (PyProof.Rows.args_cons (thn (ha.run pins s σ H _ I h) fun v s1 ⟨x, H1, I1, r1, q1⟩ => PyProof.Rows.args_nil ?_) na) na rfl
  obtain ⟨l, xs, rfl, hq, h1, q1⟩ := q1
  cases r1
  obtain ⟨its, r, pl, hz⟩ := I1.list hq
  have hl : its.toArray.size = xs.length := by rw [List.size_toArray, ← r.length, List.length_map]
  refine call_setK (PySem.strKind X.prog X.w) (ks := xs) (I1.ok.hd hc) pl.isList (fun i v hv => ?_) (by rw [hl]; unfold scanBound; omega) fun h' tk hS hk => ?_
  · obtain ⟨k, e1, t, e2⟩ := strs_get (i := i) (v := v) r (by simpa using hv)
    subst e2
    exact ⟨k, e1, strKind_is _ _ _ _, rfl⟩
  · refine PyProof.Rows.args_nil ?_
    rw [hl, met_all] at hS
    obtain ⟨o, es, ep, t, ho, hex, hd, _, _, _, hf, hn⟩ := hS
    have I2 : Inv X pins σ H1 { s1 with heap := h', toks := tk } := I1.kept fun b o e => hk b o (Heap.lt_size e) e
    have hlen := dups_len xs ([] : List Str)
    simp only [List.length_nil, Nat.zero_add] at hlen
    exact call_len_set ho hex hd hf (by rw [hn] <;> omega) ⟨.int (dups [] xs).length, H1, I2.tok _, ⟨_, by rw [hn]⟩, q1⟩
def setLenM (xs : List Str) : Option Int := if xs.length ≤ 4000 then some ((dups [] xs).length : Int) else none
abbrev rSrep : R2 := fun x y H Q => ∃ z n, x = .str z ∧ y = .int n ∧ MulOk z n ∧ Q (.str (Txt.mul z n)) H
theorem op_srep {X : Cx} : OpR X (binaryOp .Mult) rSrep := by
  intro pins s σ H x y v u Q I rx ry h
  obtain ⟨i, j, rfl, rfl, hz, q⟩ := h
  obtain ⟨t, rfl⟩ := rx
  obtain ⟨t', rfl⟩ := ry
  exact SB.mul hz fun t' tk => ⟨.str (Txt.mul i j), H, I.tok _, ⟨_, rfl⟩, q⟩
def srepM (x : Str) (n : Int) : Option Str := if -(2 ^ 63) ≤ n ∧ n < 2 ^ 63 ∧ x.length * n.toNat ≤ 100000 then some (Txt.mul x n) else none
theorem mulOk {x : Str} {n : Int} (h : -(2 ^ 63) ≤ n ∧ n < 2 ^ 63 ∧ x.length * n.toNat ≤ 100000) : MulOk x n := by
  obtain ⟨h1, h2, h3⟩ := h
  refine ⟨?_, fun hn hc => ?_, fun hn hc => ?_⟩
  · rw [Bool.or_eq_false_iff]
    exact ⟨decide_eq_false (by omega), decide_eq_false (by omega)⟩
  · intro hgt
    have hx : (x.length : Int) * n ≤ 100000 := by
      have e : ((x.length * n.toNat : Nat) : Int) = (x.length : Int) * n := by
        rw [Int.natCast_mul, Int.toNat_of_nonneg (by omega)]
      omega
    have h5 : (2 ^ 63 - 1 : Int) / n + 1 ≤ x.length := by omega
    have h6 : (2 ^ 63 - 1 : Int) < ((2 ^ 63 - 1 : Int) / n + 1) * n := Int.lt_ediv_add_one_mul_self _ (by omega)
    have h7 : ((2 ^ 63 - 1 : Int) / n + 1) * n ≤ (x.length : Int) * n := Int.mul_le_mul_of_nonneg_right h5 (by omega)
    omega
  · unfold Builtin.Str.tooLong
    simp only [decide_eq_false_iff_not]
    have : (100000 : Nat) ≤ sizeLine := by decide
    omega
section
variable {K : PySem.W.Frag} {σ : St} {F F' : Hp} {cs cs1 cs2 cs3 : Cs} {ta tb tc te : TE} {d e : PyData} {as : TA} {a b c : Int} {nx bk ct : St → Hp → Prop} {rt : VK} {H : Hp} {t u : TS}
theorem d_srep {x z : Str} (ha : EvD K ta σ F cs (.str x) cs1) (hb : EvD K tb σ F cs1 (.int b) cs2) (hz : srepM x b = some z) : EvD K (tOp rSrep ta tb) σ F cs (.str z) cs2 :=
  d_op ha hb fun _ _ F2 H2 hx hy s _ Q q => by
    cases hx.toStr; cases hy.toInt
    unfold srepM at hz; split at hz
    · rename_i h; cases hz; exact ⟨x, b, rfl, rfl, mulOk h, q _ F2 H2 .rfl s (.str _)⟩
    · cases hz
theorem d_setLen {xs : List Str} {n : Int} (ha : EvD K ta σ F cs (eL eS xs) cs1) (hn : setLenM xs = some n) : EvD K (tLenSetS K ta) σ F cs (.int n) cs1 := fun F1 H1 g1 s Q q =>
  ha F1 H1 g1 s _ fun v F2 H2 g2 s2 h2 => by
    obtain ⟨p, vs, rfl, hl, hd⟩ := h2.toLst
    cases hd.strs
    unfold setLenM at hn; split at hn
    · rename_i h; cases hn; exact ⟨p, xs, rfl, gr_L s2.fr hl, h, q _ F2 H2 g2 s2 (.int _)⟩
    · cases hn
/-- list(x), x a cell -/
theorem c_listC {l1 l2 : Cs} {i : Nat} {p : Addr} {us : List V} {ds : List PyData} (hi : σ[i]? = some (some (.ref p))) (hd : Dts K F us ds) : EvC K (tCB (rListS K) (tCons (tVar i) tNil)) σ F (l1 ++ (p, .lst us) :: l2) ds (l1 ++ (p, .lst us) :: l2) := fun F1 H1 g1 s Q q =>
  ⟨.ref p, hi, p, us, rfl, .inl (.inl (.inl s.getAt)), fun l nl => q _ _ _ _ .rfl (s.cell nl) (hd.gr g1)⟩
/-- x = y.pop(k), y a cell -/
def popM {α : Type} (xs : List α) (k : Int) : Option (α × List α) := if -(2 ^ 63) ≤ k ∧ k < 2 ^ 63 then (seqIndex? k xs.length).bind fun j => (xs[j]?).map fun x => (x, xs.eraseIdx j) else none
theorem popM_some {α : Type} {xs ys : List α} {k : Int} {x : α} (h : popM xs k = some (x, ys)) : (-(2 ^ 63) ≤ k ∧ k < 2 ^ 63) ∧ ∃ j, seqIndex? k xs.length = some j ∧ xs[j]? = some x ∧ ys = xs.eraseIdx j := by
  unfold popM at h; split at h
  · rename_i q
    refine ⟨q, ?_⟩
    obtain ⟨j, h1, h⟩ := bnd h
    cases e : xs[j]? with
    | none => rw [e] at h; cases h
    | some z => rw [e] at h; cases h; exact ⟨j, h1, e, rfl⟩
  · cases h
theorem er_map {α β : Type} (f : α → β) : ∀ (xs : List α) (j : Nat), (xs.eraseIdx j).map f = (xs.map f).eraseIdx j
  | [], _ => rfl
  | _ :: _, 0 => rfl
  | x :: xs, j + 1 => by simp only [List.eraseIdx_cons_succ, List.map_cons, er_map f xs j]
theorem s_popF {α : Type} {vf : α → V} {en : α → PyData} {l1 l2 : Cs} {i j : Nat} {p : Addr} {xs ys : List α} {x : α} {ti : TE} {k : Int} {σ' : St} (hd : ∀ F x, Dt K F (vf x) (en x)) (s : Sta F (l1 ++ (p, .lst (xs.map vf)) :: l2) H) (hi : σ[i]? = some (some (.ref p)))
    (h2 : EvD K ti σ F (l1 ++ (p, .lst (xs.map vf)) :: l2) (.int k) (l1 ++ (p, .lst (xs.map vf)) :: l2)) (hm : popM xs k = some (x, ys)) (hσ : σ.set j (some (vf x)) = σ') (q : ∀ F2 H2, Gr F F2 → Sta F2 (l1 ++ (p, .lst (ys.map vf)) :: l2) H2 → nx σ' H2) : tAsg (tBM K "list" rPopAt (tVar i) (tCons ti tNil)) (gName j) ⟨nx, rt, bk, ct⟩ σ H := by
  obtain ⟨⟨a1, a2⟩, m, b1, b2, rfl⟩ := popM_some hm
  refine ⟨.ref p, hi, .inl ⟨rfl, _, .inl (.inl s.getAt)⟩, h2 F H .rfl s _ fun w F3 H3 g3 s3 hw => ⟨p, xs.map vf, k, m, vf x, rfl, by cases hw.toInt; rfl, s3.getAt, a1, a2, by rw [List.length_map]; exact b1, by rw [List.getElem?_map, b2]; rfl, ?_⟩⟩
  show nx (σ.set j (some (vf x))) _
  rw [hσ]
  refine q F3 _ g3 ?_
  have s4 := s3.putAt (o' := .lst ((xs.map vf).eraseIdx m))
  rw [er_map]
  exact s4
/-- y.remove(k), y a cell of ints -/
def remM (xs : List Int) (k : Int) : Option (List Int) := if inL k xs = true then some (xs.erase k) else none
theorem rem_at {xs : List Int} {k : Int} (h : inL k xs = true) : ∃ j, xs[j]? = some k ∧ (∀ m : Nat, m < j → xs[m]? ≠ some k) ∧ xs.eraseIdx j = xs.erase k := by
  induction xs with
  | nil => cases h
  | cons y xs ih =>
    by_cases e : y = k
    · subst e
      exact ⟨0, rfl, fun m hm => absurd hm (Nat.not_lt_zero m), by simp⟩
    · have h' : inL k xs = true := by
        unfold inL at h ⊢
        rw [List.any_cons] at h
        have q : (y == k) = false := by simpa using e
        rw [q, Bool.false_or] at h
        exact h
      obtain ⟨j, h1, h2, h3⟩ := ih h'
      refine ⟨j + 1, by simpa using h1, fun m hm => ?_, ?_⟩
      · cases m with
        | zero => simpa using e
        | succ m => simpa using h2 m (by omega)
      · rw [List.eraseIdx_cons_succ, h3, List.erase_cons_tail]
        simpa using e
theorem s_remF {l1 l2 : Cs} {i : Nat} {p : Addr} {xs ys : List Int} {ti : TE} {k : Int} (s : Sta F (l1 ++ (p, .lst (xs.map V.int)) :: l2) H) (hi : σ[i]? = some (some (.ref p)))
    (h2 : EvD K ti σ F (l1 ++ (p, .lst (xs.map V.int)) :: l2) (.int k) (l1 ++ (p, .lst (xs.map V.int)) :: l2)) (hm : remM xs k = some ys) (q : ∀ F2 H2, Gr F F2 → Sta F2 (l1 ++ (p, .lst (ys.map V.int)) :: l2) H2 → nx σ H2) : tDrop (tBM K "list" rRemI (tVar i) (tCons ti tNil)) ⟨nx, rt, bk, ct⟩ σ H := by
  unfold remM at hm; split at hm
  · rename_i hin
    cases hm
    obtain ⟨j, e1, e2, e3⟩ := rem_at hin
    refine ⟨.ref p, hi, .inl ⟨rfl, _, .inl (.inl s.getAt)⟩, h2 F H .rfl s _ fun w F3 H3 g3 s3 hw => ⟨p, xs, k, j, rfl, by cases hw.toInt; rfl, s3.getAt, e1, e2, q F3 _ g3 ?_⟩⟩
    rw [e3]
    exact s3.putAt
  · cases hm
theorem d_isV {w : V} (hw : ∀ F v, Dt K F v d → v = w) (ha : EvD K ta σ F cs d cs1) : EvD K (tOp rIsN ta (tC .non)) σ F cs (.bool (decide (w = V.non))) cs1 := fun F1 H1 g1 s Q q =>
  ha F1 H1 g1 s _ fun v F2 H2 g2 s2 h2 => ⟨rfl, by cases hw F2 v h2; exact q _ F2 H2 g2 s2 (.bl _)⟩
theorem d_nisV {w : V} (hw : ∀ F v, Dt K F v d → v = w) (ha : EvD K ta σ F cs d cs1) : EvD K (tOp rNotN ta (tC .non)) σ F cs (.bool (!decide (w = V.non))) cs1 := fun F1 H1 g1 s Q q =>
  ha F1 H1 g1 s _ fun v F2 H2 g2 s2 h2 => ⟨rfl, by cases hw F2 v h2; exact q _ F2 H2 g2 s2 (.bl _)⟩
theorem d_isN (ha : EvD K ta σ F cs PyData.none cs1) : EvD K (tOp rIsN ta (tC .non)) σ F cs (.bool true) cs1 := d_isV (fun _ _ h => Dt.toNon h) ha
theorem d_nisN (ha : EvD K ta σ F cs PyData.none cs1) : EvD K (tOp rNotN ta (tC .non)) σ F cs (.bool false) cs1 := d_nisV (fun _ _ h => Dt.toNon h) ha
theorem d_isOI {o : Option Int} (ha : EvD K ta σ F cs (eO eI o) cs1) : EvD K (tOp rIsN ta (tC .non)) σ F cs (.bool o.isNone) cs1 := d_is (d_isV (fun _ _ h => dt_toI h) ha) (by cases o <;> rfl)
theorem d_nisOI {o : Option Int} (ha : EvD K ta σ F cs (eO eI o) cs1) : EvD K (tOp rNotN ta (tC .non)) σ F cs (.bool (!o.isNone)) cs1 := d_is (d_nisV (fun _ _ h => dt_toI h) ha) (by cases o <;> rfl)
end
end Bw
theorem Bw.sta0 {H : L2.Hp} : Bw.Sta H [] H := ⟨fun _ _ e => e, by simp, by simp, by simp⟩

namespace Bw
open PySem L2
/-! expressions that change cells -/
section
variable {K : PySem.W.Frag} {σ : St} {F F' : Hp} {cs cs1 cs2 cs3 : Cs} {ta tb tc te : TE} {d e : PyData} {as : TA} {a b c : Int} {nx bk ct : St → Hp → Prop} {rt : VK} {H : Hp} {t u : TS}
theorem d_lendX {l1 l2 m1 m2 : Cs} {p : Addr} {o : HO} {w : V} (hw : ∀ F v, Dt K F v d → v = w) (hd : ∀ F, Dt K F w d) (h : ∀ F1, Gr F F1 → F1 p = none → EvD K te σ (upd F1 p o) (l1 ++ l2) d (m1 ++ m2)) : EvD K te σ F (l1 ++ (p, o) :: l2) d (m1 ++ (p, o) :: m2) := fun F1 H1 g1 s Q q => by
  refine h F1 g1 s.freeAt (upd F1 p o) H1 .rfl s.frozeAt Q fun v F2 H2 g2 s2 h2 => ?_
  cases hw F2 v h2
  exact q w (cut F2 p) H2 (gr_cut s.freeAt g2) (Sta.lent g2 s2) (hd _)
theorem t_lendX {l1 l2 m1 m2 : Cs} {p : Addr} {o : HO} {t : TT} {b : Bool} (h : ∀ F1, Gr F F1 → F1 p = none → EvT t σ (upd F1 p o) (l1 ++ l2) b (m1 ++ m2)) : EvT t σ F (l1 ++ (p, o) :: l2) b (m1 ++ (p, o) :: m2) := fun F1 H1 g1 s Q q => by
  refine h F1 g1 s.freeAt (upd F1 p o) H1 .rfl s.frozeAt Q fun F2 H2 g2 s2 => ?_
  exact q (cut F2 p) H2 (gr_cut s.freeAt g2) (Sta.lent g2 s2)
/-! functions that change cells -/
inductive Ar where
  | d (x : PyData)
  | c (us : List V)
inductive ArgR (K : PySem.W.Frag) (F : Hp) : List V → List Ar → Cs → Prop
  | nil : ArgR K F [] [] []
  | d {v : V} {x : PyData} {vs : List V} {as : List Ar} {cs : Cs} : Dt K F v x → ArgR K F vs as cs → ArgR K F (v :: vs) (.d x :: as) cs
  | c {p : Addr} {us : List V} {vs : List V} {as : List Ar} {cs : Cs} : ArgR K F vs as cs → ArgR K F (.ref p :: vs) (.c us :: as) ((p, .lst us) :: cs)
theorem ArgR.no {vs : List V} {cs : Cs} (h : ArgR K F vs [] cs) : vs = [] ∧ cs = [] := by cases h; exact ⟨rfl, rfl⟩
theorem ArgR.hd {vs : List V} {x : PyData} {as : List Ar} {cs : Cs} (h : ArgR K F vs (.d x :: as) cs) : ∃ v ws, vs = v :: ws ∧ Dt K F v x ∧ ArgR K F ws as cs := by
  cases h with | d h t => exact ⟨_, _, rfl, h, t⟩
theorem ArgR.hc {vs : List V} {us : List V} {as : List Ar} {cs : Cs} (h : ArgR K F vs (.c us :: as) cs) : ∃ p ws cs', vs = .ref p :: ws ∧ cs = (p, .lst us) :: cs' ∧ ArgR K F ws as cs' := by
  cases h with | c t => exact ⟨_, _, _, rfl, rfl, t⟩
theorem ArgR.len : ∀ {vs : List V} {as : List Ar} {cs : Cs}, ArgR K F vs as cs → vs.length = as.length
  | _, _, _, .nil => rfl
  | _, _, _, .d _ t => by rw [List.length_cons, List.length_cons, t.len]
  | _, _, _, .c t => by rw [List.length_cons, List.length_cons, t.len]
def upC : Cs → List (List V) → Cs
  | c :: cs, us :: uss => (c.1, .lst us) :: upC cs uss
  | _, _ => []
def spC (K : PySem.W.Frag) {α β : Type} (A : α → List Ar) (B : β → PyData) (C : β → List (List V)) (f : α → Option β) : Sp := fun vs H Q _ => ∃ F cc cs x y, ArgR K F vs (A x) cc ∧ Sta F (cc ++ cs) H ∧ f x = some y ∧ ∀ v F2 H2, Gr F F2 → Sta F2 (upC cc (C y) ++ cs) H2 → Dt K F2 v (B y) → Q v H2
def EvR (K : PySem.W.Frag) (ta : TA) (σ : St) (F : Hp) (cs : Cs) (as : List Ar) (cc : Cs) (cs' : Cs) : Prop := EvA ta σ F cs (fun vs F' => ArgR K F' vs as cc) cs'
theorem ArgR.gr (g : Gr F F') : ∀ {vs : List V} {as : List Ar} {cs : Cs}, ArgR K F vs as cs → ArgR K F' vs as cs
  | _, _, _, .nil => .nil
  | _, _, _, .d h t => .d (h.gr g) (t.gr g)
  | _, _, _, .c t => .c (t.gr g)
theorem r_nil : EvR K tNil σ F cs [] [] cs := fun F1 H1 g s Q q => q _ F1 H1 .rfl s .nil
theorem r_d {xs : List Ar} {cc : Cs} (h : EvD K te σ F cs d cs1) (h2 : EvR K as σ F cs1 xs cc cs2) : EvR K (tCons te as) σ F cs (.d d :: xs) cc cs2 := fun F1 H1 g1 s Q q =>
  h F1 H1 g1 s _ fun v F2 H2 g2 s2 hv => h2 F2 H2 (g1.tr g2) s2 _ fun vs F3 H3 g3 s3 hvs => q _ F3 H3 (g2.tr g3) s3 (.d (hv.gr g3) hvs)
theorem r_c {xs : List Ar} {cc : Cs} {i : Nat} {p : Addr} {us : List V} (hi : σ[i]? = some (some (.ref p))) (h2 : EvR K as σ F cs xs cc cs2) : EvR K (tCons (tVar i) as) σ F cs (.c us :: xs) ((p, .lst us) :: cc) cs2 := fun F1 H1 g1 s Q q =>
  ⟨.ref p, hi, h2 F1 H1 g1 s _ fun vs F3 H3 g3 s3 hvs => q _ F3 H3 g3 s3 (.c hvs)⟩
theorem d_callC {α β : Type} {A : α → List Ar} {B : β → PyData} {C : β → List (List V)} {f : α → Option β} {x : α} {y : β} {E : XK} {cc cs' : Cs} (h : EvR K as σ F cs (A x) cc cs1) (hp : cs1.Perm (cc ++ cs')) (hf : f x = some y) (hq : (upC cc (C y) ++ cs').Perm cs2) : EvD K (tCall (spC K A B C f) [] E as) σ F cs (B y) cs2 := fun F1 H1 g1 s Q q =>
  h F1 H1 g1 s _ fun vs F2 H2 g2 s2 h2 => ⟨F2, cc, cs', x, y, by rw [List.append_nil]; exact h2, s2.perm hp, hf, fun v F3 H3 g3 s3 h3 => q v F3 H3 (g2.tr g3) (s3.perm hq) h3⟩
/-! comprehensions whose elements change cells -/
def lcS {S α β : Type} (f : S → α → Option (S × Option β)) : S → List α → Option (S × List β)
  | s, [] => some (s, [])
  | s, x :: xs => (f s x).bind fun p => (lcS f p.1 xs).bind fun q => some (q.1, match p.2 with
    | some y => y :: q.2
    | none => q.2)
def lcSC {S α β : Type} (f : S → α → Option (S × Option β)) (s : S) (xs : List α) : Option (S × List β) := if xs.length ≤ 100000 then lcS f s xs else none
theorem c_lcS {S α β : Type} {wi : TI} {g : TG} {tt : TT} {vs : List Nat} {xs : List α} {en : α → PyData} {em : β → PyData} {f : S → α → Option (S × Option β)} {ys : List β} {s0 s1 : S} (cc : S → Cs)
    (hi : EvI K wi σ F cs (xs.map en) (cc s0)) (hm : lcSC f s0 xs = some (s1, ys))
    (turn : ∀ x z z' o v F1 p us, Gr F F1 → Dt K F1 v (en x) → f z x = some (z', o) → ∃ σ2 : St, (∀ H (Q : St → Hp → Prop), Sta F1 ((p, .lst us) :: cc z) H → Q σ2 H → g v (wipe σ vs) H Q) ∧ wipe σ2 vs = wipe σ vs ∧
      EvT tt σ2 F1 ((p, .lst us) :: cc z) o.isSome ((p, .lst us) :: cc z) ∧ (o = none → z' = z) ∧ ∀ y, o = some y → EvD K te σ2 F1 ((p, .lst us) :: cc z) (em y) ((p, .lst us) :: cc z')) :
    EvC K (tLc wi g tt te vs) σ F cs (ys.map em) (cc s1) := fun F1 H1 g1 s Q q => by
  unfold lcSC at hm
  split at hm
  case isFalse => cases hm
  rename_i hl
  refine hi F1 H1 g1 s _ fun J F2 H2 g2 s2 hs => ?_
  intro p hp
  have s3 : Sta F2 ((p, .lst []) :: cc s0) (upd H2 p (.lst [])) := s2.cell hp
  refine ⟨fun i m H4 => m = xs.length - i ∧ i ≤ xs.length ∧ ∃ us done rest z F4, us.length ≤ i ∧ Gr F2 F4 ∧ Sta F4 ((p, .lst us) :: cc z) H4 ∧ Dts K F4 us (done.map em) ∧ lcS f z (xs.drop i) = some (s1, rest) ∧ done ++ rest = ys,
    ⟨xs.length, by simp, Nat.zero_le _, [], [], ys, s0, F2, Nat.le_refl _, .rfl, s3, .nil, by simpa using hm, rfl⟩, ?_⟩
  rintro i m H4 ⟨rfl, hi, us, done, rest, z, F4, hu, g4, s4, hd, hr, he⟩
  obtain ⟨hgo, hstop, hy⟩ := hs F4 _ H4 g4 s4
  by_cases hlt : i < xs.length
  · rw [List.drop_eq_getElem_cons hlt] at hr
    obtain ⟨⟨z', o⟩, ho, hr⟩ := bnd (show (f z xs[i]).bind _ = some (s1, rest) from hr)
    obtain ⟨⟨s1', zs⟩, hz, hr⟩ := bnd hr
    dsimp only at hz hr
    refine .inr ⟨hgo i (by simpa using hlt), fun H' => i + 1 ≤ xs.length ∧ ∃ us done rest z F4, us.length ≤ i + 1 ∧ Gr F2 F4 ∧ Sta F4 ((p, .lst us) :: cc z) H' ∧ Dts K F4 us (done.map em) ∧ lcS f z (xs.drop (i + 1)) = some (s1, rest) ∧ done ++ rest = ys, fun H' h' => ⟨xs.length - (i + 1), by omega, rfl, h'⟩, fun x H' y => ?_⟩
    obtain ⟨F5, g5, s5, d5⟩ := hy i x H' (en xs[i]) (by rw [List.getElem?_map, List.getElem?_eq_getElem hlt]; rfl) y
    obtain ⟨σ2, h1, h2, h3, hn, h4⟩ := turn xs[i] z z' o x F5 p us (g1.tr (g2.tr (g4.tr g5))) d5 ho
    refine h1 H' _ s5 ⟨h2, h3 F5 H' .rfl s5 _ fun F6 H6 g6 s6 => ?_⟩
    cases o with
    | none =>
      cases hr
      cases hn rfl
      exact ⟨hlt, us, done, zs, z, F6, Nat.le_succ_of_le hu, g4.tr (g5.tr g6), s6, hd.gr (g5.tr g6), hz, he⟩
    | some y1 =>
      cases hr
      refine (h4 y1 rfl) F6 H6 g6 s6 _ fun v F7 H7 g7 s7 hv => ⟨us, s7.at List.mem_cons_self, szl (by omega), hlt, us ++ [v], done ++ [y1], zs, z', F7, by rw [List.length_append]; exact Nat.succ_le_succ hu, g4.tr (g5.tr (g6.tr g7)), s7.put, ?_, hz, ?_⟩
      · rw [List.map_append]
        exact (hd.gr (g5.tr (g6.tr g7))).app (.cons hv .nil)
      · rw [List.append_assoc]; exact he
  · have e : i = xs.length := by omega
    subst e
    rw [List.drop_length] at hr
    cases hr
    rw [List.append_nil] at he
    subst he
    exact .inl ⟨by simpa using hstop, q p us F4 H4 (g2.tr g4) s4 hd⟩
/-! changes of a cell, where the values change other cells -/
theorem s_appX {k1 k2 l1 l2 : Cs} {i : Nat} {p : Addr} {vs : List V} (s : Sta F (k1 ++ (p, .lst vs) :: k2) H) (hi : σ[i]? = some (some (.ref p))) (h : EvD K te σ F (k1 ++ (p, .lst vs) :: k2) d (l1 ++ (p, .lst vs) :: l2)) (hl : vs.length < 100000)
    (q : ∀ v F2 H2, Gr F F2 → Sta F2 (l1 ++ (p, .lst (vs ++ [v])) :: l2) H2 → Dt K F2 v d → nx σ H2) : tDrop (tBM K "list" rAppend (tVar i) (tCons te tNil)) ⟨nx, rt, bk, ct⟩ σ H :=
  ⟨.ref p, hi, .inl ⟨rfl, _, .inl (.inl s.getAt)⟩, h F H .rfl s _ fun v F2 H2 g2 s2 h2 => ⟨p, vs, v, rfl, rfl, s2.getAt, szl hl, q v F2 _ g2 s2.putAt h2⟩⟩
theorem s_appFX {α : Type} {vf : α → V} {en : α → PyData} {k1 k2 l1 l2 : Cs} {i : Nat} {p : Addr} {xs ys : List α} {x : α} (hw : ∀ F v x, Dt K F v (en x) → v = vf x) (s : Sta F (k1 ++ (p, .lst (xs.map vf)) :: k2) H) (hi : σ[i]? = some (some (.ref p))) (h : EvD K te σ F (k1 ++ (p, .lst (xs.map vf)) :: k2) (en x) (l1 ++ (p, .lst (xs.map vf)) :: l2)) (hm : appM xs x = some ys)
    (q : ∀ F2 H2, Gr F F2 → Sta F2 (l1 ++ (p, .lst (ys.map vf)) :: l2) H2 → nx σ H2) : tDrop (tBM K "list" rAppend (tVar i) (tCons te tNil)) ⟨nx, rt, bk, ct⟩ σ H := by
  obtain ⟨hl, rfl⟩ := appM_some hm
  refine s_appX s hi h (by rw [List.length_map]; exact hl) fun v F2 H2 g2 s2 h2 => q F2 H2 g2 ?_
  cases hw F2 v x h2
  rw [List.map_append]; exact s2
theorem s_appGX {α : Type} {en : α → PyData} {k1 k2 l1 l2 : Cs} {i : Nat} {p : Addr} {vs : List V} {xs ys : List α} {x : α} (s : Sta F (k1 ++ (p, .lst vs) :: k2) H) (hf : Dts K F vs (xs.map en)) (hi : σ[i]? = some (some (.ref p))) (h : EvD K te σ F (k1 ++ (p, .lst vs) :: k2) (en x) (l1 ++ (p, .lst vs) :: l2)) (hm : appM xs x = some ys)
    (q : ∀ us F2 H2, Gr F F2 → Sta F2 (l1 ++ (p, .lst us) :: l2) H2 → Dts K F2 us (ys.map en) → nx σ H2) : tDrop (tBM K "list" rAppend (tVar i) (tCons te tNil)) ⟨nx, rt, bk, ct⟩ σ H := by
  obtain ⟨hl, rfl⟩ := appM_some hm
  refine s_appX s hi h (by rw [hf.len, List.length_map]; exact hl) fun v F2 H2 g2 s2 h2 => q _ F2 H2 g2 s2 ?_
  rw [List.map_append]; exact (hf.gr g2).app (.cons h2 .nil)
theorem s_itemX {k1 k2 m1 m2 l1 l2 : Cs} {i : Nat} {p : Addr} {vs : List V} {ti : TE} {k : Int} {j : Nat} (s : Sta F (k1 ++ (p, .lst vs) :: k2) H) (hi : σ[i]? = some (some (.ref p))) (h : EvD K te σ F (k1 ++ (p, .lst vs) :: k2) d (m1 ++ (p, .lst vs) :: m2))
    (h2 : EvD K ti σ F (m1 ++ (p, .lst vs) :: m2) (.int k) (l1 ++ (p, .lst vs) :: l2)) (hj : ixN vs.length k = some j) (q : ∀ v F2 H2, Gr F F2 → Sta F2 (l1 ++ (p, .lst (vs.set j v)) :: l2) H2 → Dt K F2 v d → nx σ H2) : tAsg te (gSub (tVar i) ti rSetL) ⟨nx, rt, bk, ct⟩ σ H :=
  h F H .rfl s _ fun v F2 H2 g2 s2 hv => ⟨.ref p, hi, h2 F2 H2 g2 s2 _ fun w F3 H3 g3 s3 hw => ⟨p, vs, k, j, rfl, hw.toInt, s3.getAt, hj, q v F3 _ (g2.tr g3) s3.putAt (hv.gr g3)⟩⟩
theorem s_itemFX {α : Type} {vf : α → V} {en : α → PyData} {k1 k2 m1 m2 l1 l2 : Cs} {i : Nat} {p : Addr} {xs ys : List α} {x : α} {ti : TE} {k : Int} (hw : ∀ F v x, Dt K F v (en x) → v = vf x) (s : Sta F (k1 ++ (p, .lst (xs.map vf)) :: k2) H) (hi : σ[i]? = some (some (.ref p))) (h : EvD K te σ F (k1 ++ (p, .lst (xs.map vf)) :: k2) (en x) (m1 ++ (p, .lst (xs.map vf)) :: m2))
    (h2 : EvD K ti σ F (m1 ++ (p, .lst (xs.map vf)) :: m2) (.int k) (l1 ++ (p, .lst (xs.map vf)) :: l2)) (hm : setM xs k x = some ys) (q : ∀ F2 H2, Gr F F2 → Sta F2 (l1 ++ (p, .lst (ys.map vf)) :: l2) H2 → nx σ H2) : tAsg te (gSub (tVar i) ti rSetL) ⟨nx, rt, bk, ct⟩ σ H := by
  obtain ⟨j, hj, rfl⟩ := setM_some hm
  refine s_itemX (j := j) s hi h h2 (by rw [List.length_map]; exact hj) fun v F2 H2 g2 s2 hv => q F2 H2 g2 ?_
  cases hw F2 v x hv
  rw [List.map_set]; exact s2
theorem s_itemGX {α : Type} {en : α → PyData} {k1 k2 m1 m2 l1 l2 : Cs} {i : Nat} {p : Addr} {vs : List V} {xs ys : List α} {x : α} {ti : TE} {k : Int} (s : Sta F (k1 ++ (p, .lst vs) :: k2) H) (hf : Dts K F vs (xs.map en)) (hi : σ[i]? = some (some (.ref p))) (h : EvD K te σ F (k1 ++ (p, .lst vs) :: k2) (en x) (m1 ++ (p, .lst vs) :: m2))
    (h2 : EvD K ti σ F (m1 ++ (p, .lst vs) :: m2) (.int k) (l1 ++ (p, .lst vs) :: l2)) (hm : setM xs k x = some ys) (q : ∀ us F2 H2, Gr F F2 → Sta F2 (l1 ++ (p, .lst us) :: l2) H2 → Dts K F2 us (ys.map en) → nx σ H2) : tAsg te (gSub (tVar i) ti rSetL) ⟨nx, rt, bk, ct⟩ σ H := by
  obtain ⟨j, hj, rfl⟩ := setM_some hm
  refine s_itemX (j := j) s hi h h2 (by rw [hf.len, List.length_map]; exact hj) fun v F2 H2 g2 s2 hv => q _ F2 H2 g2 s2 ?_
  rw [List.map_set]; exact (hf.gr g2).setAt j hv
end
end Bw
namespace Bw
open PySem L2
section
variable {K : PySem.W.Frag} {σ : St} {F F' : Hp} {cs cs1 cs2 cs3 : Cs} {ta tb tc te : TE} {d e : PyData} {as : TA} {a b c : Int} {nx bk ct : St → Hp → Prop} {rt : VK} {H : Hp} {t u : TS}
theorem s_augI {i : Nat} {σ' : St} {w b : Int} {f : Int → Int → Int} (hx : σ[i]? = some (some (.int w))) (s : Sta F cs H) (h : EvD K te σ F cs (.int b) cs1) (hσ : σ.set i (some (.int (f w b))) = σ') (q : ∀ F2 H2, Gr F F2 → Sta F2 cs1 H2 → nx σ' H2) : tAug i te (ipI f) ⟨nx, rt, bk, ct⟩ σ H :=
  ⟨.int w, hx, h F H .rfl s _ fun v F2 H2 g2 s2 h2 => ⟨w, b, rfl, h2.toInt, by show nx (σ.set i (some (.int (f w b)))) H2; rw [hσ]; exact q F2 H2 g2 s2⟩⟩
def rGetL (K : PySem.W.Frag) : V → V → Hp → VK → Prop := rIxL K
/-- o[i] op= e, o a cell of ints -/
theorem s_augS {k1 k2 m1 m2 l1 l2 : Cs} {i : Nat} {p : Addr} {xs ys : List Int} {ti : TE} {k w b : Int} {f : Int → Int → Int} (s : Sta F (k1 ++ (p, .lst (xs.map V.int)) :: k2) H) (hi : σ[i]? = some (some (.ref p))) (h1 : EvD K ti σ F (k1 ++ (p, .lst (xs.map V.int)) :: k2) (.int k) (m1 ++ (p, .lst (xs.map V.int)) :: m2)) (hg : atI xs k = some w)
    (h2 : EvD K te σ F (m1 ++ (p, .lst (xs.map V.int)) :: m2) (.int b) (l1 ++ (p, .lst (xs.map V.int)) :: l2)) (hm : setM xs k (f w b) = some ys) (q : ∀ F2 H2, Gr F F2 → Sta F2 (l1 ++ (p, .lst (ys.map V.int)) :: l2) H2 → nx σ H2) : tAugS (tVar i) ti te (rIxL K) (ipI f) rSetL ⟨nx, rt, bk, ct⟩ σ H := by
  obtain ⟨j, hj, rfl⟩ := setM_some hm
  refine ⟨.ref p, hi, h1 F H .rfl s _ fun v F2 H2 g2 s2 hv => ⟨p, xs.map V.int, k, .int w, rfl, hv.toInt, .inl (.inl s2.getAt), by rw [atI_map, hg]; rfl, h2 F2 H2 g2 s2 _ fun y F3 H3 g3 s3 hy => ⟨w, b, rfl, hy.toInt, p, xs.map V.int, k, j, rfl, hv.toInt, s3.getAt, by rw [List.length_map]; exact hj, q F3 _ (g2.tr g3) ?_⟩⟩⟩
  rw [List.map_set]; exact s3.putAt
theorem s_popFX {α : Type} {vf : α → V} {en : α → PyData} {k1 k2 l1 l2 : Cs} {i j : Nat} {p : Addr} {xs ys : List α} {x : α} {ti : TE} {k : Int} {σ' : St} (hd : ∀ F x, Dt K F (vf x) (en x)) (s : Sta F (k1 ++ (p, .lst (xs.map vf)) :: k2) H) (hi : σ[i]? = some (some (.ref p)))
    (h2 : EvD K ti σ F (k1 ++ (p, .lst (xs.map vf)) :: k2) (.int k) (l1 ++ (p, .lst (xs.map vf)) :: l2)) (hm : popM xs k = some (x, ys)) (hσ : σ.set j (some (vf x)) = σ') (q : ∀ F2 H2, Gr F F2 → Sta F2 (l1 ++ (p, .lst (ys.map vf)) :: l2) H2 → nx σ' H2) : tAsg (tBM K "list" rPopAt (tVar i) (tCons ti tNil)) (gName j) ⟨nx, rt, bk, ct⟩ σ H := by
  obtain ⟨⟨a1, a2⟩, m, b1, b2, rfl⟩ := popM_some hm
  refine ⟨.ref p, hi, .inl ⟨rfl, _, .inl (.inl s.getAt)⟩, h2 F H .rfl s _ fun w F3 H3 g3 s3 hw => ⟨p, xs.map vf, k, m, vf x, rfl, by cases hw.toInt; rfl, s3.getAt, a1, a2, by rw [List.length_map]; exact b1, by rw [List.getElem?_map, b2]; rfl, ?_⟩⟩
  show nx (σ.set j (some (vf x))) _
  rw [hσ]
  refine q F3 _ g3 ?_
  have s4 := s3.putAt (o' := .lst ((xs.map vf).eraseIdx m))
  rw [er_map]
  exact s4
theorem s_remFX {k1 k2 l1 l2 : Cs} {i : Nat} {p : Addr} {xs ys : List Int} {ti : TE} {k : Int} (s : Sta F (k1 ++ (p, .lst (xs.map V.int)) :: k2) H) (hi : σ[i]? = some (some (.ref p)))
    (h2 : EvD K ti σ F (k1 ++ (p, .lst (xs.map V.int)) :: k2) (.int k) (l1 ++ (p, .lst (xs.map V.int)) :: l2)) (hm : remM xs k = some ys) (q : ∀ F2 H2, Gr F F2 → Sta F2 (l1 ++ (p, .lst (ys.map V.int)) :: l2) H2 → nx σ H2) : tDrop (tBM K "list" rRemI (tVar i) (tCons ti tNil)) ⟨nx, rt, bk, ct⟩ σ H := by
  unfold remM at hm; split at hm
  · rename_i hin
    cases hm
    obtain ⟨j, e1, e2, e3⟩ := rem_at hin
    refine ⟨.ref p, hi, .inl ⟨rfl, _, .inl (.inl s.getAt)⟩, h2 F H .rfl s _ fun w F3 H3 g3 s3 hw => ⟨p, xs, k, j, rfl, by cases hw.toInt; rfl, s3.getAt, e1, e2, q F3 _ g3 ?_⟩⟩
    rw [e3]
    exact s3.putAt
  · cases hm
/-! f-strings -/
def EvJ (K : PySem.W.Frag) (ts : List TE) (σ : St) (F : Hp) (cs : Cs) (acc out : Str) (cs' : Cs) : Prop :=
  ∀ F1 H1, Gr F F1 → Sta F1 cs H1 → ∀ Q : Str → Hp → Prop, (∀ F2 H2, Gr F1 F2 → Sta F2 cs' H2 → Q out H2) → tJs ts acc σ H1 Q
theorem j_nil {acc : Str} : EvJ K [] σ F cs acc acc cs := fun F1 H1 g s Q q => q F1 H1 .rfl s
theorem j_cons {acc x y out : Str} {ts : List TE} (h : EvD K te σ F cs (.str x) cs1) (hy : scatM acc x = some y) (h2 : EvJ K ts σ F cs1 y out cs2) : EvJ K (te :: ts) σ F cs acc out cs2 := fun F1 H1 g1 s Q q =>
  h F1 H1 g1 s _ fun v F2 H2 g2 s2 hv => by
    obtain ⟨hl, rfl⟩ := scatM_some hy
    refine ⟨x, hv.toStr, ?_, h2 F2 H2 (g1.tr g2) s2 Q fun F3 H3 g3 s3 => q F3 H3 (g2.tr g3) s3⟩
    rw [TL.len_tl, TL.tl_append, List.length_append, ← TL.len_tl, ← TL.len_tl]
    exact sz hl
theorem d_fstr {ts : List TE} {out : Str} (h : EvJ K ts σ F cs Str.empty out cs1) : EvD K (fun σ H Q => tJs ts Str.empty σ H fun out H1 => Q (.str out) H1) σ F cs (.str out) cs1 := fun F1 H1 g1 s Q q =>
  h F1 H1 g1 s _ fun F2 H2 g2 s2 => q _ F2 H2 g2 s2 (.str _)
theorem d_fmtS {x : Str} (h : EvD K te σ F cs (.str x) cs1) (hl : lenS x = some a) : EvD K (tFmt te) σ F cs (.str x) cs1 := fun F1 H1 g1 s Q q =>
  h F1 H1 g1 s _ fun v F2 H2 g2 s2 hv => .inl ⟨x, hv.toStr, sz (lenS_some hl).1, q _ F2 H2 g2 s2 (.str _)⟩
theorem d_fmtI {x : Str} (h : EvD K te σ F cs (.int a) cs1) (hn : strM a = some x) : EvD K (tFmt te) σ F cs (.str x) cs1 := fun F1 H1 g1 s Q q =>
  h F1 H1 g1 s _ fun v F2 H2 g2 s2 hv => by
    obtain ⟨h1, rfl⟩ := strM_some hn
    exact .inr ⟨a, hv.toInt, h1, q _ F2 H2 g2 s2 (.str _)⟩
end
end Bw
namespace Bw
open PySem L2
theorem get_list {X : Cx} : PGet X (rIxL X.K) := by
  intro pins s σ H x y v u Q I rx ry h
  obtain ⟨p, xs, i, z, rfl, rfl, hq, he, q⟩ := h
  cases rx
  obtain ⟨t, rfl⟩ := ry
  obtain ⟨its, r, pl, hz⟩ := I.list hq
  obtain ⟨j, h1, h2, h3, h4, h5⟩ := atI_get he
  obtain ⟨w, ew, rw'⟩ := r.get h2
  have hl := r.length
  have hn := line63
  have fin : EP X pins σ Q w s := ⟨z, H, I, rw', q⟩
  by_cases h0 : 0 ≤ i
  · have hj : i.toNat = j := by
      rw [seqIndex_of h0 h5] at h1
      exact Option.some.inj h1
    exact wpAny_getItem_list pl.isList h0 (by omega) (by rw [hj]; simpa using ew) fin
  · have hj : (i + (its.toArray.size : Int)).toNat = j := by
      rw [seqIndex_neg (by omega) h4] at h1
      rw [List.size_toArray, ← hl]
      exact Option.some.inj h1
    exact wpAny_getItem_list_neg pl.isList (by omega) (by rw [List.size_toArray] <;> omega) (by omega) (by rw [hj]; simpa using ew) fin
end Bw
namespace Bw
open PySem L2
section
variable {K : PySem.W.Frag} {σ : St} {F F' : Hp} {cs cs1 cs2 cs3 : Cs} {ta tb tc te : TE} {d e : PyData} {as : TA} {a b c : Int} {nx bk ct : St → Hp → Prop} {rt : VK} {H : Hp} {t u : TS}
/-! what keeps the state true: another order, fewer cells -/
def Sb (c c' : Cs) : Prop := ∀ F H, Sta F c H → Sta F c' H
theorem sb_rfl : Sb cs cs := fun _ _ s => s
theorem sb_perm (p : cs.Perm cs1) : Sb cs cs1 := fun _ _ s => s.perm p
theorem sb_drop {c : Addr × HO} : Sb (c :: cs) cs := fun F H s => ⟨s.fr, fun p hp => s.sep p (List.mem_cons_of_mem _ hp), fun p hp => s.has p (List.mem_cons_of_mem _ hp), by have := s.nd; rw [List.map_cons, List.nodup_cons] at this; exact this.2⟩
theorem Sb.tr (h : Sb cs cs1) (k : Sb cs1 cs2) : Sb cs cs2 := fun F H s => k F H (h F H s)
/-- a function that changes cells, and tells data -/
theorem d_callX {α β : Type} {A : α → List Ar} {B : β → PyData} {C : β → List (List V)} {f : α → Option β} {x : α} {y : β} {E : XK} {cc cs' : Cs} (h : EvR K as σ F cs (A x) cc cs1) (hp : Sb cs1 (cc ++ cs')) (hf : f x = some y) (hq : Sb (upC cc (C y) ++ cs') cs2) : EvD K (tCall (spC K A B C f) [] E as) σ F cs (B y) cs2 := fun F1 H1 g1 s Q q =>
  h F1 H1 g1 s _ fun vs F2 H2 g2 s2 h2 => ⟨F2, cc, cs', x, y, by rw [List.append_nil]; exact h2, hp _ _ s2, hf, fun v F3 H3 g3 s3 h3 => q v F3 H3 (g2.tr g3) (hq _ _ s3) h3⟩
/-- .. that tells a new list -/
def spF (K : PySem.W.Frag) {α β : Type} (A : α → List Ar) (B : β → List PyData) (C : β → List (List V)) (f : α → Option β) : Sp := fun vs H Q _ => ∃ F cc cs x y, ArgR K F vs (A x) cc ∧ Sta F (cc ++ cs) H ∧ f x = some y ∧ ∀ p us F2 H2, Gr F F2 → Sta F2 ((p, .lst us) :: (upC cc (C y) ++ cs)) H2 → Dts K F2 us (B y) → Q (.ref p) H2
theorem c_callX {α β : Type} {A : α → List Ar} {B : β → List PyData} {C : β → List (List V)} {f : α → Option β} {x : α} {y : β} {E : XK} {cc cs' : Cs} (h : EvR K as σ F cs (A x) cc cs1) (hp : Sb cs1 (cc ++ cs')) (hf : f x = some y) (hq : ∀ z, Sb (z :: (upC cc (C y) ++ cs')) (z :: cs2)) : EvC K (tCall (spF K A B C f) [] E as) σ F cs (B y) cs2 := fun F1 H1 g1 s Q q =>
  h F1 H1 g1 s _ fun vs F2 H2 g2 s2 h2 => ⟨F2, cc, cs', x, y, by rw [List.append_nil]; exact h2, hp _ _ s2, hf, fun p us F3 H3 g3 s3 h3 => q p us F3 H3 (g2.tr g3) (hq _ _ _ s3) h3⟩
/-- an argument that is a new list of flat things -/
theorem r_n {xs : List Ar} {cc : Cs} {ds : List PyData} {us : List V} (h : EvC K te σ F cs ds cs1) (hu : ∀ F vs, Dts K F vs ds → vs = us) (h2 : ∀ p, EvR K as σ F ((p, .lst us) :: cs1) xs cc cs2) : True := trivial
theorem s_retC {ds : List PyData} (s : Sta F cs H) (h : EvC K te σ F cs ds cs1) (q : ∀ p us F2 H2, Gr F F2 → Sta F2 ((p, .lst us) :: cs1) H2 → Dts K F2 us ds → rt (.ref p) H2) : tRet te ⟨nx, rt, bk, ct⟩ σ H := h F H .rfl s _ q
theorem s_retV {i : Nat} {v : V} (hi : σ[i]? = some (some v)) (q : rt v H) : tRet (tVar i) ⟨nx, rt, bk, ct⟩ σ H := ⟨v, hi, q⟩
def fuel : Nat := 100000000
end
end Bw
namespace Bw
open PySem L2
section
variable {K : PySem.W.Frag} {σ : St} {F F' : Hp} {cs cs1 cs2 cs3 : Cs} {ta tb tc te : TE} {d e : PyData} {as : TA}
/-- the first argument is a new list of flat things, which nobody keeps -/
theorem d_callN {α β : Type} {A : α → List Ar} {B : β → PyData} {C : β → List (List V)} {f : α → Option β} {x : α} {y : β} {E : XK} {cc cs' : Cs} {ds : List PyData} {us : List V} {xs : List Ar} (h : EvC K te σ F cs ds cs1) (hu : ∀ F vs, Dts K F vs ds → vs = us) (hA : A x = .c us :: xs) (h2 : ∀ p, EvR K as σ F ((p, .lst us) :: cs1) xs cc ((p, .lst us) :: cs2))
    (hp : ∀ p, Sb ((p, .lst us) :: cs2) ((p, .lst us) :: cc ++ cs')) (hf : f x = some y) (hq : ∀ p, Sb (upC ((p, .lst us) :: cc) (C y) ++ cs') cs3) : EvD K (tCall (spC K A B C f) [] E (tCons te as)) σ F cs (B y) cs3 := fun F1 H1 g1 s Q q =>
  h F1 H1 g1 s _ fun p vs F2 H2 g2 s2 hv => by
    cases hu F2 vs hv
    refine h2 p F2 H2 (g1.tr g2) s2 _ fun ws F3 H3 g3 s3 h3 => ⟨F3, (p, .lst us) :: cc, cs', x, y, by rw [List.append_nil, hA]; exact .c h3, hp p _ _ s3, hf, fun v F4 H4 g4 s4 h4 => q v F4 H4 ((g2.tr g3).tr g4) (hq p _ _ s4) h4⟩
theorem c_callN {α β : Type} {A : α → List Ar} {B : β → List PyData} {C : β → List (List V)} {f : α → Option β} {x : α} {y : β} {E : XK} {cc cs' : Cs} {ds : List PyData} {us : List V} {xs : List Ar} (h : EvC K te σ F cs ds cs1) (hu : ∀ F vs, Dts K F vs ds → vs = us) (hA : A x = .c us :: xs) (h2 : ∀ p, EvR K as σ F ((p, .lst us) :: cs1) xs cc ((p, .lst us) :: cs2))
    (hp : ∀ p, Sb ((p, .lst us) :: cs2) ((p, .lst us) :: cc ++ cs')) (hf : f x = some y) (hq : ∀ p z, Sb (z :: (upC ((p, .lst us) :: cc) (C y) ++ cs')) (z :: cs3)) : EvC K (tCall (spF K A B C f) [] E (tCons te as)) σ F cs (B y) cs3 := fun F1 H1 g1 s Q q =>
  h F1 H1 g1 s _ fun p vs F2 H2 g2 s2 hv => by
    cases hu F2 vs hv
    refine h2 p F2 H2 (g1.tr g2) s2 _ fun ws F3 H3 g3 s3 h3 => ⟨F3, (p, .lst us) :: cc, cs', x, y, by rw [List.append_nil, hA]; exact .c h3, hp p _ _ s3, hf, fun p' us' F4 H4 g4 s4 h4 => q p' us' F4 H4 ((g2.tr g3).tr g4) (hq p _ _ _ s4) h4⟩
end
end Bw

namespace Bw
open PySem L2
section
variable {K : PySem.W.Frag} {σ : St} {F F' : Hp} {cs cs1 cs2 cs3 : Cs} {ta tb tc te : TE} {d e : PyData} {as : TA} {a b c : Int} {nx bk ct : St → Hp → Prop} {rt : VK} {H : Hp} {t u : TS}
/-- a cell lent for a new list of flat things -/
theorem c_lendX {l1 l2 m1 m2 : Cs} {p : Addr} {o : HO} {ds : List PyData} {ws : List V} (hw : ∀ F vs, Dts K F vs ds → vs = ws) (hd : ∀ F, Dts K F ws ds) (h : ∀ F1, Gr F F1 → F1 p = none → EvC K te σ (upd F1 p o) (l1 ++ l2) ds (m1 ++ m2)) : EvC K te σ F (l1 ++ (p, o) :: l2) ds (m1 ++ (p, o) :: m2) := fun F1 H1 g1 s Q q => by
  refine h F1 g1 s.freeAt (upd F1 p o) H1 .rfl s.frozeAt Q fun p' vs F2 H2 g2 s2 h2 => ?_
  cases hw F2 vs h2
  exact q p' ws (cut F2 p) H2 (gr_cut s.freeAt g2) (Sta.lent (l1 := (p', .lst ws) :: m1) g2 s2) (hd _)
/-- xs.count(k) -/
theorem d_cntI {xs : List Int} (ha : EvD K ta σ F cs (eL eI xs) cs1) (hb : EvD K tb σ F cs1 (.int b) cs2) : EvD K (tBM K "list" (rCntI K) ta (tCons tb tNil)) σ F cs (.int ((xs.count b : Nat) : Int)) cs2 := fun F1 H1 g1 s Q q =>
  ha F1 H1 g1 s _ fun v F2 H2 g2 s2 h2 => by
    obtain ⟨p, vs, rfl, hl, hd⟩ := h2.toLst
    cases hd.ints
    exact ⟨.inl ⟨rfl, _, gr_L s2.fr hl⟩, hb F2 H2 (g1.tr g2) s2 _ fun w F3 H3 g3 s3 h3 => ⟨p, xs, b, rfl, by rw [h3.toInt], gr_L s3.fr (gr_L g3 hl), q _ F3 H3 (g2.tr g3) s3 (.int _)⟩⟩
/-- y.extend(new list) -/
theorem s_ext {k1 k2 l1 l2 : Cs} {i : Nat} {p : Addr} {vs : List V} {ds : List PyData} (s : Sta F (k1 ++ (p, .lst vs) :: k2) H) (hi : σ[i]? = some (some (.ref p))) (h : EvC K te σ F (k1 ++ (p, .lst vs) :: k2) ds (l1 ++ (p, .lst vs) :: l2)) (hl : vs.length + ds.length ≤ 100000)
    (q : ∀ us F2 H2, Gr F F2 → Sta F2 (l1 ++ (p, .lst (vs ++ us)) :: l2) H2 → Dts K F2 us ds → nx σ H2) : tDrop (tBM K "list" rExtend (tVar i) (tCons te tNil)) ⟨nx, rt, bk, ct⟩ σ H :=
  ⟨.ref p, hi, .inl ⟨rfl, _, .inl (.inl s.getAt)⟩, h F H .rfl s _ fun b us F2 H2 g2 s2 h2 => ⟨p, b, vs, us, rfl, rfl, Sta.getAt (l1 := (b, .lst us) :: l1) s2, s2.at List.mem_cons_self, by rw [h2.len]; exact sz hl, q us _ _ (g2.tr s2.gfr) s2.froze.putAt (h2.gr s2.gfr)⟩⟩
theorem s_extFX {α : Type} {vf : α → V} {en : α → PyData} {k1 k2 l1 l2 : Cs} {i : Nat} {p : Addr} {xs ys zs : List α} (hw : ∀ F vs (ys : List α), Dts K F vs (ys.map en) → vs = ys.map vf) (s : Sta F (k1 ++ (p, .lst (xs.map vf)) :: k2) H) (hi : σ[i]? = some (some (.ref p))) (h : EvC K te σ F (k1 ++ (p, .lst (xs.map vf)) :: k2) (ys.map en) (l1 ++ (p, .lst (xs.map vf)) :: l2)) (hm : catM xs ys = some zs)
    (q : ∀ F2 H2, Gr F F2 → Sta F2 (l1 ++ (p, .lst (zs.map vf)) :: l2) H2 → nx σ H2) : tDrop (tBM K "list" rExtend (tVar i) (tCons te tNil)) ⟨nx, rt, bk, ct⟩ σ H := by
  obtain ⟨hl, rfl⟩ := catM_some hm
  refine s_ext s hi h (by rw [List.length_map, List.length_map]; exact hl) fun us F2 H2 g2 s2 h2 => q F2 H2 g2 ?_
  cases hw F2 us ys h2
  rw [List.map_append]; exact s2
theorem s_extGX {α : Type} {en : α → PyData} {k1 k2 l1 l2 : Cs} {i : Nat} {p : Addr} {vs : List V} {xs ys zs : List α} (s : Sta F (k1 ++ (p, .lst vs) :: k2) H) (hf : Dts K F vs (xs.map en)) (hi : σ[i]? = some (some (.ref p))) (h : EvC K te σ F (k1 ++ (p, .lst vs) :: k2) (ys.map en) (l1 ++ (p, .lst vs) :: l2)) (hm : catM xs ys = some zs)
    (q : ∀ us F2 H2, Gr F F2 → Sta F2 (l1 ++ (p, .lst us) :: l2) H2 → Dts K F2 us (zs.map en) → nx σ H2) : tDrop (tBM K "list" rExtend (tVar i) (tCons te tNil)) ⟨nx, rt, bk, ct⟩ σ H := by
  obtain ⟨hl, rfl⟩ := catM_some hm
  refine s_ext s hi h (by rw [hf.len, List.length_map, List.length_map]; exact hl) fun us F2 H2 g2 s2 h2 => q _ F2 H2 g2 s2 ?_
  rw [List.map_append]; exact (hf.gr g2).app h2
/-- y.clear() -/
theorem s_clr {l1 l2 : Cs} {i : Nat} {p : Addr} {vs : List V} (s : Sta F (l1 ++ (p, .lst vs) :: l2) H) (hi : σ[i]? = some (some (.ref p))) (q : Sta F (l1 ++ (p, .lst []) :: l2) (upd H p (.lst [])) → nx σ (upd H p (.lst []))) : tDrop (tBM0 K "list" rClear (tVar i)) ⟨nx, rt, bk, ct⟩ σ H :=
  ⟨.ref p, hi, .inl ⟨rfl, _, .inl (.inl s.getAt)⟩, p, vs, rfl, rfl, s.getAt, q s.putAt⟩
end
end Bw

namespace Bw
open PySem L2
/-! things of any kind: casts -/
def Ck {α : Type} (e : α → PyData) (c : PyData → Option α) : Prop := ∀ d x, c d = some x → d = e x
def asI : PyData → Option Int
  | .int i => some i
  | _ => none
def asB : PyData → Option Bool
  | .bool b => some b
  | _ => none
def asS : PyData → Option Str
  | .str x => some x
  | _ => none
def asN : PyData → Option Unit
  | .none => some ()
  | _ => none
def asAll {α : Type} (c : PyData → Option α) : List PyData → Option (List α)
  | [] => some []
  | d :: ds => (c d).bind fun x => (asAll c ds).bind fun xs => some (x :: xs)
def asL {α : Type} (c : PyData → Option α) : PyData → Option (List α)
  | .list ds => asAll c ds
  | _ => none
def asD (d : PyData) : Option PyData := some d
def asLD : PyData → Option (List PyData)
  | .list ds => some ds
  | _ => none
def asTD : PyData → Option (List PyData)
  | .tuple ds => some ds
  | _ => none
def asT2 {α β : Type} (c : PyData → Option α) (c' : PyData → Option β) : PyData → Option (α × β)
  | .tuple [a, b] => (c a).bind fun x => (c' b).bind fun y => some (x, y)
  | _ => none
def asT3 {α β γ : Type} (c : PyData → Option α) (c' : PyData → Option β) (c'' : PyData → Option γ) : PyData → Option (α × β × γ)
  | .tuple [a, b, d] => (c a).bind fun x => (c' b).bind fun y => (c'' d).bind fun z => some (x, y, z)
  | _ => none
def asT4 {α β γ δ : Type} (c : PyData → Option α) (c' : PyData → Option β) (c'' : PyData → Option γ) (c3 : PyData → Option δ) : PyData → Option (α × β × γ × δ)
  | .tuple [a, b, d, e] => (c a).bind fun x => (c' b).bind fun y => (c'' d).bind fun z => (c3 e).bind fun w => some (x, y, z, w)
  | _ => none
def asO {α : Type} (c : PyData → Option α) : PyData → Option (Option α)
  | .none => some none
  | d => (c d).bind fun x => some (some x)
theorem ck_D : Ck eD asD := fun d x h => by cases h; rfl
theorem ck_I : Ck eI asI := fun d x h => by cases d <;> first | (cases h; rfl) | cases h
theorem ck_B : Ck eB asB := fun d x h => by cases d <;> first | (cases h; rfl) | cases h
theorem ck_S : Ck eS asS := fun d x h => by cases d <;> first | (cases h; rfl) | cases h
theorem ck_N : Ck eN asN := fun d x h => by cases d <;> first | (cases h; rfl) | cases h
theorem ck_all {α : Type} {e : α → PyData} {c : PyData → Option α} (k : Ck e c) : ∀ {ds : List PyData} {xs : List α}, asAll c ds = some xs → ds = xs.map e
  | [], xs, h => by cases h; rfl
  | d :: ds, xs, h => by
    obtain ⟨x, h1, h⟩ := bnd h
    obtain ⟨ys, h2, h⟩ := bnd h
    cases h
    rw [k d x h1, ck_all k h2]; rfl
theorem ck_L {α : Type} {e : α → PyData} {c : PyData → Option α} (k : Ck e c) : Ck (eL e) (asL c) := fun d x h => by
  cases d with
  | list ds => exact congrArg PyData.list (ck_all k (show asAll c ds = some x from h))
  | _ => cases h
theorem ck_LD : Ck (eL eD) asLD := fun d x h => by
  cases d with
  | list ds =>
    cases h
    exact congrArg PyData.list (List.map_id' x).symm
  | _ => cases h
theorem ck_TD {d : PyData} {x : List PyData} (h : asTD d = some x) : d = .tuple x := by
  cases d with
  | tuple ds => cases h; rfl
  | _ => cases h
theorem ck_T2 {α β : Type} {e : α → PyData} {c : PyData → Option α} {e' : β → PyData} {c' : PyData → Option β} (k : Ck e c) (k' : Ck e' c') : Ck (eT2 e e') (asT2 c c') := fun d x h => by
  unfold asT2 at h
  split at h
  · obtain ⟨y, h1, h⟩ := bnd h
    obtain ⟨z, h2, h⟩ := bnd h
    cases h
    rw [k _ _ h1, k' _ _ h2]
  · cases h
theorem ck_T3 {α β γ : Type} {e : α → PyData} {c : PyData → Option α} {e' : β → PyData} {c' : PyData → Option β} {e2 : γ → PyData} {c2 : PyData → Option γ} (k : Ck e c) (k' : Ck e' c') (k2 : Ck e2 c2) : Ck (eT3 e e' e2) (asT3 c c' c2) := fun d x h => by
  unfold asT3 at h
  split at h
  · obtain ⟨y, h1, h⟩ := bnd h
    obtain ⟨z, h2, h⟩ := bnd h
    obtain ⟨z', h3, h⟩ := bnd h
    cases h
    rw [k _ _ h1, k' _ _ h2, k2 _ _ h3]
  · cases h
theorem ck_T4 {α β γ δ : Type} {e : α → PyData} {c : PyData → Option α} {e' : β → PyData} {c' : PyData → Option β} {e2 : γ → PyData} {c2 : PyData → Option γ} {e3 : δ → PyData} {c3 : PyData → Option δ} (k : Ck e c) (k' : Ck e' c') (k2 : Ck e2 c2) (k3 : Ck e3 c3) : Ck (eT4 e e' e2 e3) (asT4 c c' c2 c3) := fun d x h => by
  unfold asT4 at h
  split at h
  · obtain ⟨y, h1, h⟩ := bnd h
    obtain ⟨z, h2, h⟩ := bnd h
    obtain ⟨z', h3, h⟩ := bnd h
    obtain ⟨z2, h4, h⟩ := bnd h
    cases h
    rw [k _ _ h1, k' _ _ h2, k2 _ _ h3, k3 _ _ h4]
  · cases h
theorem ck_O {α : Type} {e : α → PyData} {c : PyData → Option α} (k : Ck e c) : Ck (eO e) (asO c) := fun d x h => by
  unfold asO at h
  split at h
  · cases h; rfl
  · obtain ⟨y, h1, h⟩ := bnd h
    cases h
    exact k _ _ h1
/-! .. and the other way -/
def Cv {α β : Type} (e : α → PyData) (e' : β → PyData) (g : α → β) : Prop := ∀ x, e x = e' (g x)
theorem cv_id {α : Type} {e : α → PyData} : Cv e e (fun x => x) := fun _ => rfl
theorem cv_D {α : Type} {e : α → PyData} : Cv e eD e := fun _ => rfl
theorem cv_some {α β : Type} {e : α → PyData} {e' : β → PyData} {g : α → β} (h : Cv e e' g) : Cv e (eO e') (fun x => some (g x)) := fun x => h x
theorem cv_none {β : Type} {e' : β → PyData} : Cv eN (eO e') (fun _ => (none : Option β)) := fun _ => rfl
theorem cv_O {α β : Type} {e : α → PyData} {e' : β → PyData} {g : α → β} (h : Cv e e' g) : Cv (eO e) (eO e') (fun x => x.map g) := fun x => by cases x with
  | none => rfl
  | some y => exact h y
theorem cv_OD {α : Type} {e : α → PyData} : Cv (eO e) eD (eO e) := fun _ => rfl
theorem cv_L {α β : Type} {e : α → PyData} {e' : β → PyData} {g : α → β} (h : Cv e e' g) : Cv (eL e) (eL e') (fun xs => xs.map g) := fun xs => by
  show PyData.list _ = PyData.list _
  rw [List.map_map]
  exact congrArg PyData.list (List.map_congr_left fun x _ => h x)
theorem cv_T2 {α α' β β' : Type} {e : α → PyData} {e' : α' → PyData} {g : α → α'} {f : β → PyData} {f' : β' → PyData} {k : β → β'} (h : Cv e e' g) (h' : Cv f f' k) : Cv (eT2 e f) (eT2 e' f') (fun x => (g x.1, k x.2)) := fun x => by
  show PyData.tuple _ = PyData.tuple _
  rw [h, h']
theorem cv_T3 {α α' β β' γ γ' : Type} {e : α → PyData} {e' : α' → PyData} {g : α → α'} {f : β → PyData} {f' : β' → PyData} {k : β → β'} {i : γ → PyData} {i' : γ' → PyData} {m : γ → γ'} (h : Cv e e' g) (h' : Cv f f' k) (h2 : Cv i i' m) : Cv (eT3 e f i) (eT3 e' f' i') (fun x => (g x.1, k x.2.1, m x.2.2)) := fun x => by
  show PyData.tuple _ = PyData.tuple _
  rw [h, h', h2]
theorem cv_T4 {α α' β β' γ γ' δ δ' : Type} {e : α → PyData} {e' : α' → PyData} {g : α → α'} {f : β → PyData} {f' : β' → PyData} {k : β → β'} {i : γ → PyData} {i' : γ' → PyData} {m : γ → γ'} {u : δ → PyData} {u' : δ' → PyData} {w : δ → δ'} (h : Cv e e' g) (h' : Cv f f' k) (h2 : Cv i i' m) (h3 : Cv u u' w) : Cv (eT4 e f i u) (eT4 e' f' i' u') (fun x => (g x.1, k x.2.1, m x.2.2.1, w x.2.2.2)) := fun x => by
  show PyData.tuple _ = PyData.tuple _
  rw [h, h', h2, h3]
/-! what is asked of things of any kind -/
def ixD : PyData → Int → Option PyData
  | .list ds, i => atI ds i
  | .tuple ds, i => atI ds i
  | .str x, i => (ixS x i).map PyData.str
  | _, _ => none
def lenD : PyData → Option Int
  | .list ds => some ds.length
  | .tuple ds => some ds.length
  | .str x => lenS x
  | _ => none
abbrev rLenG (K : PySem.W.Frag) : List V → Hp → VK → Prop := fun xs H Q => ∃ x n, xs = [x] ∧ LenV K x H n ∧ Q (.int n) H
theorem cr_lenG {X : Cx} : CallR X (.builtin "len") (rLenG X.K) := call_len
section
variable {K : PySem.W.Frag} {σ : St} {F F' : Hp} {cs cs1 cs2 cs3 : Cs} {ta tb tc te : TE} {d e : PyData} {as : TA} {a b c : Int}
theorem d_ixD {z : PyData} (ha : EvD K ta σ F cs d cs1) (hb : EvD K tb σ F cs1 (.int b) cs2) (hz : ixD d b = some z) : EvD K (tOp (rIx K) ta tb) σ F cs z cs2 := by
  intro F1 H1 g1 s Q q
  refine ha F1 H1 g1 s _ fun v F2 H2 g2 s2 h2 => hb F2 H2 (g1.tr g2) s2 _ fun w F3 H3 g3 s3 h3 => ?_
  cases d with
  | list ds =>
    refine .inl ?_
    have k := d_ixLs (K := K) (σ := [some v, some w]) (F := F3) (cs := cs2) (ta := tVar 0) (tb := tVar 1) (d_var rfl (h2.gr g3)) (d_var rfl h3) hz F3 H3 .rfl s3 Q fun v F4 H4 g4 s4 h4 => q v F4 H4 (g2.tr (g3.tr g4)) s4 h4
    obtain ⟨v', e', w', e'', k⟩ := k
    cases e'; cases e''; exact k
  | tuple ds =>
    refine .inr (.inl ?_)
    have k := d_ixT (K := K) (σ := [some v, some w]) (F := F3) (cs := cs2) (ta := tVar 0) (tb := tVar 1) (d_var rfl (h2.gr g3)) (d_var rfl h3) hz F3 H3 .rfl s3 Q fun v F4 H4 g4 s4 h4 => q v F4 H4 (g2.tr (g3.tr g4)) s4 h4
    obtain ⟨v', e', w', e'', k⟩ := k
    cases e'; cases e''; exact k
  | str x =>
    have hz : (ixS x b).map PyData.str = some z := hz
    cases hx : ixS x b with
    | none => rw [hx] at hz; cases hz
    | some y =>
      rw [hx] at hz; cases hz
      refine .inr (.inr ?_)
      have k := d_ixS (K := K) (σ := [some v, some w]) (F := F3) (cs := cs2) (ta := tVar 0) (tb := tVar 1) (d_var rfl (h2.gr g3)) (d_var rfl h3) hx F3 H3 .rfl s3 Q fun v F4 H4 g4 s4 h4 => q v F4 H4 (g2.tr (g3.tr g4)) s4 h4
      obtain ⟨v', e', w', e'', k⟩ := k
      cases e'; cases e''; exact k
  | none => cases hz
  | bool _ => cases hz
  | int _ => cases hz
  | dict _ => cases hz
theorem d_lenD {n : Int} (ha : EvDs K as σ F cs [d] cs1) (hn : lenD d = some n) : EvD K (tCB (rLenG K) as) σ F cs (.int n) cs1 := d_cb ha fun vs F2 H2 h s Q q => by
  obtain ⟨v, rfl, k1⟩ := h.one
  cases d with
  | list ds =>
    obtain ⟨p, ys, rfl, hl, hd⟩ := k1.toLst
    cases hn
    exact ⟨_, ys.length, rfl, .inl ⟨ys, gr_L s.fr hl, rfl⟩, q _ F2 H2 .rfl s (by rw [hd.len]; exact .int _)⟩
  | tuple ds =>
    obtain ⟨p, ys, rfl, hl, hd⟩ := k1.toTup
    cases hn
    exact ⟨_, ys.length, rfl, .inr ⟨ys, gr_T s.fr hl, rfl⟩, q _ F2 H2 .rfl s (by rw [hd.len]; exact .int _)⟩
  | str x =>
    cases k1.toStr
    obtain ⟨h1, rfl⟩ := lenS_some hn
    exact ⟨_, x.length, rfl, ⟨sz h1, rfl⟩, q _ F2 H2 .rfl s (.int _)⟩
  | none => cases hn
  | bool _ => cases hn
  | int _ => cases hn
  | dict _ => cases hn
/-- is True, is False -/
def isBlD (b : Bool) : PyData → Bool
  | .bool c => decide (c = b)
  | _ => false
/-- a walk over a tuple -/
theorem src_tup {p : Addr} {vs : List V} {ds : List PyData} (h : SqT K F p vs) (hd : Dts K F vs ds) : Src K (Itt K p) F ds := fun F1 c1 H1 g s => by
  have q : SqT K H1 p vs := gr_T s.fr (gr_T g h)
  refine ⟨fun i hi => ?_, ⟨vs, q, by rw [hd.len]; exact Nat.le_refl _⟩, fun i v H2 d e y => ?_⟩
  · have hi' : i < vs.length := by rw [hd.len]; exact hi
    exact ⟨vs, vs[i], q, List.getElem?_eq_getElem hi'⟩
  · obtain ⟨rfl, y⟩ := y
    obtain ⟨d', e', h'⟩ := hd.get (y vs q)
    rw [e] at e'; cases e'
    exact ⟨F1, .rfl, s, h'.gr g⟩
theorem i_tup {ds : List PyData} (h : EvD K te σ F cs (.tuple ds) cs1) : EvI K (iTup K te) σ F cs ds cs1 := fun F1 H1 g1 s R q =>
  h F1 H1 g1 s _ fun v F2 H2 g2 s2 h2 => by
    obtain ⟨p, vs, rfl, hs, hd⟩ := h2.toTup
    exact ⟨p, rfl, ⟨vs, gr_T s2.fr hs⟩, q _ F2 H2 g2 s2 (src_tup hs hd)⟩
/-- xs[::-1] -/
theorem c_rev {α : Type} {en : α → PyData} {xs : List α} (h : EvD K te σ F cs (eL en xs) cs1) : EvC K (tRevL K te) σ F cs (xs.reverse.map en) cs1 := fun F1 H1 g1 s Q q =>
  h F1 H1 g1 s _ fun v F2 H2 g2 s2 hv => by
    obtain ⟨p, vs, rfl, hl, hd⟩ := hv.toLst
    refine ⟨p, vs, rfl, gr_L s2.fr hl, fun l nl => q _ _ _ _ g2 (s2.cell nl) ?_⟩
    have : ∀ {us : List V} {ds : List PyData}, Dts K F2 us ds → Dts K F2 us.reverse ds.reverse := by
      intro us ds h
      induction us generalizing ds with
      | nil => cases h; exact .nil
      | cons u us ih => cases h with | cons a b => rw [List.reverse_cons, List.reverse_cons]; exact (ih b).app (.cons a .nil)
    rw [List.map_reverse]
    exact this hd
/-- slices of a tuple -/
theorem d_slT {ds : List PyData} {tl th : TO} {lo hi : Option Int} (h : EvD K te σ F cs (.tuple ds) cs1) (h1 : EvO tl σ F cs1 lo cs2) (h2 : EvO th σ F cs2 hi cs3) : EvD K (tSl (rSlA K) te tl th) σ F cs (.tuple (cutL ds lo hi)) cs3 := fun F1 H1 g1 s Q q =>
  h F1 H1 g1 s _ fun v F2 H2 g2 s2 hv => h1 F2 H2 (g1.tr g2) s2 _ fun F3 H3 g3 s3 => h2 F3 H3 ((g1.tr g2).tr g3) s3 _ fun F4 H4 g4 s4 => by
    obtain ⟨p, vs, rfl, hl, hd⟩ := hv.toTup
    have hd' := hd.gr (g3.tr g4)
    refine ⟨p, vs, rfl, gr_T s4.fr (gr_T (g3.tr g4) hl), fun hw => q _ F4 H4 (g2.tr (g3.tr g4)) s4 ?_, fun _ l nl => q _ _ _ ((g2.tr (g3.tr g4)).tr (Gr.new (s4.fr.back nl))) (s4.lay nl) (.tup (.inl (.inl upd_same)) ?_)⟩
    · have e : cutL ds lo hi = ds := by
        unfold cutL
        rw [← hd.len, hw.1, hw.2, List.drop_zero, Nat.sub_zero, hd.len, List.take_length]
      rw [e]
      exact .tup (gr_T (g3.tr g4) hl) hd'
    · unfold cutV cutL
      rw [hd.len]
      exact ((hd'.gr (Gr.new (s4.fr.back nl))).drop _).take _
end
end Bw

namespace Bw
open PySem L2
abbrev eT0 : Unit → PyData := fun _ => .tuple []
/-! is True, is False, is None of anything -/
def rIsBl : R2 := fun x y H Q => ∃ b, y = .bl b ∧ Q (.bl (decide (x = .bl b))) H
def rNisBl : R2 := fun x y H Q => ∃ b, y = .bl b ∧ Q (.bl (!decide (x = .bl b))) H
theorem relV_bool {x : V} {v : Value} {b : Bool} (r : RelV x v) : plainIs v (.bool b) = true ∧ (v == Value.bool b) = decide (x = .bl b) := by
  cases x with
  | bl c =>
    cases (show v = Value.bool c from r)
    refine ⟨rfl, ?_⟩
    by_cases h : c = b
    · subst h; simp
    · rw [decide_eq_false (fun z => h (V.bl.inj z))]
      exact beq_eq_false_iff_ne.mpr fun z => h (Value.bool.inj z)
  | non => cases (show v = Value.none from r); exact ⟨rfl, rfl⟩
  | ref a => cases (show v = Value.ref a from r); exact ⟨rfl, rfl⟩
  | ty n => cases (show v = Value.type n from r); exact ⟨rfl, rfl⟩
  | int i => obtain ⟨t, rfl⟩ := r; exact ⟨rfl, rfl⟩
  | str i => obtain ⟨t, rfl⟩ := r; exact ⟨rfl, rfl⟩
  | byt i => obtain ⟨t, rfl⟩ := r; exact ⟨rfl, rfl⟩
  | flt i => obtain ⟨t, rfl⟩ := r; exact ⟨rfl, rfl⟩
theorem op_isB {X : Cx} : OpR X (compareOp .Is) rIsBl := by
  intro pins s σ H x y v u Q I rx ry h
  obtain ⟨b, rfl, q⟩ := h
  cases (show u = Value.bool b from ry)
  obtain ⟨h1, h2⟩ := relV_bool (b := b) rx
  exact wpAny_is_plain h1 ⟨.bl _, H, I, by rw [h2]; rfl, q⟩
theorem op_nisB {X : Cx} : OpR X (compareOp .IsNot) rNisBl := by
  intro pins s σ H x y v u Q I rx ry h
  obtain ⟨b, rfl, q⟩ := h
  cases (show u = Value.bool b from ry)
  obtain ⟨h1, h2⟩ := relV_bool (b := b) rx
  exact wpAny_isNot_plain h1 ⟨.bl _, H, I, by rw [h2]; rfl, q⟩
def isNoD : PyData → Bool
  | .none => true
  | _ => false
section
variable {K : PySem.W.Frag} {σ : St} {F F' : Hp} {cs cs1 cs2 cs3 : Cs} {ta tb tc te : TE} {d e : PyData} {as : TA} {a b c : Int}
theorem Dt.noD {v : V} (h : Dt K F v d) : decide (v = V.non) = isNoD d := by cases h <;> rfl
theorem Dt.blD {v : V} {b : Bool} (h : Dt K F v d) : decide (v = V.bl b) = isBlD b d := by
  cases h with
  | bl c =>
    show decide (V.bl c = V.bl b) = decide (c = b)
    by_cases q : c = b
    · subst q; simp
    · rw [decide_eq_false q, decide_eq_false (fun z => q (V.bl.inj z))]
  | _ => rfl
theorem d_isD (ha : EvD K ta σ F cs d cs1) : EvD K (tOp rIsN ta (tC .non)) σ F cs (.bool (isNoD d)) cs1 := fun F1 H1 g1 s Q q =>
  ha F1 H1 g1 s _ fun v F2 H2 g2 s2 h2 => ⟨rfl, q _ F2 H2 g2 s2 (by rw [h2.noD]; exact .bl _)⟩
theorem d_nisD (ha : EvD K ta σ F cs d cs1) : EvD K (tOp rNotN ta (tC .non)) σ F cs (.bool (!isNoD d)) cs1 := fun F1 H1 g1 s Q q =>
  ha F1 H1 g1 s _ fun v F2 H2 g2 s2 h2 => ⟨rfl, q _ F2 H2 g2 s2 (by rw [h2.noD]; exact .bl _)⟩
theorem d_isBl {b : Bool} (ha : EvD K ta σ F cs d cs1) : EvD K (tOp rIsBl ta (tC (.bl b))) σ F cs (.bool (isBlD b d)) cs1 := fun F1 H1 g1 s Q q =>
  ha F1 H1 g1 s _ fun v F2 H2 g2 s2 h2 => ⟨b, rfl, q _ F2 H2 g2 s2 (by rw [h2.blD]; exact .bl _)⟩
theorem d_nisBl {b : Bool} (ha : EvD K ta σ F cs d cs1) : EvD K (tOp rNisBl ta (tC (.bl b))) σ F cs (.bool (!isBlD b d)) cs1 := fun F1 H1 g1 s Q q =>
  ha F1 H1 g1 s _ fun v F2 H2 g2 s2 h2 => ⟨b, rfl, q _ F2 H2 g2 s2 (by rw [h2.blD]; exact .bl _)⟩
/-! a dict of which nothing is asked but its kind -/
theorem d_dict0 : EvD K tDNewK σ F cs (.dict []) cs := fun F1 H1 g1 s Q q => fun p hp => q _ _ _ (Gr.new (s.fr.back hp)) (s.lay hp) (.dct upd_same)
/-- {k: v}, both written, a text for a key -/
theorem d_dict1 {x : Str} {w : V} : EvD K (tDisp [(tC (.str x), tC w)]) σ F cs (.dict []) cs := fun F1 H1 g1 s Q q => fun p hp => by
  refine ⟨upd_same, [(Sum.inr x, w)], rfl, by show 1 ≤ 15; decide, ?_⟩
  rw [upd_upd]
  exact q _ _ _ (Gr.new (s.fr.back hp)) (s.lay hp) (.dct upd_same)
/-! formats -/
def fmtD : PyData → Option Str
  | .int i => strM i
  | .str x => (lenS x).bind fun _ => some x
  | _ => none
theorem d_fmtD {x : Str} (h : EvD K te σ F cs d cs1) (hn : fmtD d = some x) : EvD K (tFmt te) σ F cs (.str x) cs1 := by
  cases d with
  | int i => exact d_fmtI h hn
  | str y =>
    obtain ⟨n, h1, h2⟩ := bnd (show (lenS y).bind (fun _ => some y) = some x from hn)
    cases h2
    exact d_fmtS h h1
  | none => cases hn
  | bool _ => cases hn
  | list _ => cases hn
  | tuple _ => cases hn
  | dict _ => cases hn
end
end Bw

namespace Bw
open PySem L2
/-! i in range(lo, hi) -/
def rInRng : R2 := fun x y H Q => ∃ i a lo hi, x = V.int i ∧ y = V.ref a ∧ H a = some (.rng lo hi) ∧ Q (.bl (decide (lo ≤ i ∧ i < hi))) H
def rNinRng : R2 := fun x y H Q => ∃ i a lo hi, x = V.int i ∧ y = V.ref a ∧ H a = some (.rng lo hi) ∧ Q (.bl (!decide (lo ≤ i ∧ i < hi))) H
abbrev rRange2 : List V → Hp → VK → Prop := fun vs H Q => ∃ i j, vs = [V.int i, V.int j] ∧ ∀ p, H p = none → Q (.ref p) (upd H p (.rng i j))
theorem op_inRng {X : Cx} : OpR X (compareOp .In) rInRng := op_in_rng
theorem op_ninRng {X : Cx} : OpR X (compareOp .NotIn) rNinRng := by
  intro pins s σ H x y v u Q I rx ry h
  obtain ⟨i, a, lo, hi, rfl, rfl, ha, q⟩ := h
  obtain ⟨k, rfl⟩ := rx
  obtain rfl : u = Value.ref a := ry
  obtain ⟨t1, t2, t3, ho⟩ := I.hok a _ ha
  show wpAny _ _ (contains (Value.ref a) (Value.int i k) >>= fun b => pure (Value.bool (!b))) _ _ s
  refine wpAny_bind (wpAny_contains_slot (T := "range") ⟨_, ho, rfl⟩ F.slot_range_contains (call_meets F.slot_range_contains ⟨_, ho, rfl⟩ F.entry_range_contains (F.args_range_contains_2 _ _)
    (q_contains a lo hi i t1 t2 t3 k) ⟨ho, wpAny_truthy_bool (wpAny_pure ⟨.bl _, H, I, rfl, ?_⟩)⟩))
  rw [place1]
  exact q
theorem cr_range2' {X : Cx} : CallR X (.type "range") rRange2 := cr_range2
section
variable {K : PySem.W.Frag} {σ : St} {F F' : Hp} {cs cs1 cs2 cs3 : Cs} {ta tb tc te : TE} {d e : PyData} {as : TA} {a b c : Int}
theorem d_inRng (ha : EvD K ta σ F cs (.int a) cs1) (hb : EvDs K as σ F cs1 [.int b, .int c] cs2) : EvD K (tOp rInRng ta (tCB rRange2 as)) σ F cs (.bool (decide (b ≤ a ∧ a < c))) cs2 := fun F1 H1 g1 s Q q =>
  ha F1 H1 g1 s _ fun v F2 H2 g2 s2 h2 => hb F2 H2 (g1.tr g2) s2 _ fun vs F3 H3 g3 s3 h3 => by
    cases h2.toInt
    obtain ⟨w, z, rfl, k1, k2⟩ := h3.two; cases k1.toInt; cases k2.toInt
    exact ⟨b, c, rfl, fun p hp => ⟨a, p, b, c, rfl, rfl, upd_same, q _ _ _ ((g2.tr g3).tr (Gr.new (s3.fr.back hp))) (s3.lay hp) (.bl _)⟩⟩
theorem d_ninRng (ha : EvD K ta σ F cs (.int a) cs1) (hb : EvDs K as σ F cs1 [.int b, .int c] cs2) : EvD K (tOp rNinRng ta (tCB rRange2 as)) σ F cs (.bool (!decide (b ≤ a ∧ a < c))) cs2 := fun F1 H1 g1 s Q q =>
  ha F1 H1 g1 s _ fun v F2 H2 g2 s2 h2 => hb F2 H2 (g1.tr g2) s2 _ fun vs F3 H3 g3 s3 h3 => by
    cases h2.toInt
    obtain ⟨w, z, rfl, k1, k2⟩ := h3.two; cases k1.toInt; cases k2.toInt
    exact ⟨b, c, rfl, fun p hp => ⟨a, p, b, c, rfl, rfl, upd_same, q _ _ _ ((g2.tr g3).tr (Gr.new (s3.fr.back hp))) (s3.lay hp) (.bl _)⟩⟩
end
end Bw

namespace Bw
open PySem L2
/-- an expression that tells a known value and changes nothing -/
def VP (to : TE) (σ : St) (F : Hp) (cs : Cs) (v : V) : Prop := ∀ F1 H1, Gr F F1 → Sta F1 cs H1 → ∀ Q : VK, Q v H1 → to σ H1 Q
section
variable {K : PySem.W.Frag} {σ : St} {F F' : Hp} {cs cs1 cs2 cs3 : Cs} {ta tb tc te : TE} {d e : PyData} {as : TA} {a b c : Int} {nx bk ct : St → Hp → Prop} {rt : VK} {H : Hp} {t u : TS}
theorem vp_var {i : Nat} {v : V} (h : σ[i]? = some (some v)) : VP (tVar i) σ F cs v := fun F1 H1 g s Q q => ⟨v, h, q⟩
theorem vp_tup {to : TE} {t : Addr} {vs : List V} {k : Int} {v : V} (h : VP to σ F cs (.ref t)) (ht : SqT K F t vs) (hk : atI vs k = some v) : VP (tOp (rIxT K) to (tC (.int k))) σ F cs v := fun F1 H1 g s Q q =>
  h F1 H1 g s _ ⟨t, vs, k, v, rfl, rfl, gr_T s.fr (gr_T g ht), hk, q⟩
theorem VP.gr {to : TE} {v : V} (g : Gr F F') (h : VP to σ F cs v) : VP to σ F' cs v := fun F1 H1 g1 s Q q => h F1 H1 (g.tr g1) s Q q
theorem d_vp {v : V} (h : VP te σ F cs v) (hd : Dt K F v d) : EvD K te σ F cs d cs := fun F1 H1 g s Q q => h F1 H1 g s Q (q v F1 H1 .rfl s (hd.gr g))
/-! the readings, opened -/
theorem o_asg {g : TG} (h : te σ H fun v H' => g v σ H' nx) : tAsg te g ⟨nx, rt, bk, ct⟩ σ H := h
theorem o_ret (h : te σ H rt) : tRet te ⟨nx, rt, bk, ct⟩ σ H := h
theorem o_drop (h : te σ H fun _ H' => nx σ H') : tDrop te ⟨nx, rt, bk, ct⟩ σ H := h
theorem o_name {i : Nat} {v : V} {σ' : St} {Q : St → Hp → Prop} (e : σ.set i (some v) = σ') (h : Q σ' H) : gName i v σ H Q := by show Q (σ.set i (some v)) H; rw [e]; exact h
theorem o_tup {Q : VK} (h : as σ H fun vs H1 => vs.length ≤ sizeLine ∧ ∀ p, H1 p = none → Q (.ref p) (upd H1 p (.tup vs))) : tTup as σ H Q := h
theorem o_cons {Q : List V → Hp → Prop} (h : te σ H fun v H1 => as σ H1 fun vs H2 => Q (v :: vs) H2) : tCons te as σ H Q := h
theorem o_nil {Q : List V → Hp → Prop} (h : Q [] H) : tNil σ H Q := h
theorem o_d {Q : VK} (s : Sta F cs H) (h : EvD K te σ F cs d cs1) (q : ∀ v F2 H2, Gr F F2 → Sta F2 cs1 H2 → Dt K F2 v d → Q v H2) : te σ H Q := h F H .rfl s Q q
theorem o_c {Q : VK} {ds : List PyData} (s : Sta F cs H) (h : EvC K te σ F cs ds cs1) (q : ∀ p us F2 H2, Gr F F2 → Sta F2 ((p, .lst us) :: cs1) H2 → Dts K F2 us ds → Q (.ref p) H2) : te σ H Q := h F H .rfl s Q q
theorem o_v {Q : VK} {v : V} (s : Sta F cs H) (h : VP te σ F cs v) (q : Q v H) : te σ H Q := h F H .rfl s Q q
/-- the tuple itself stands for good -/
theorem o_tupN {n : Nat} {vs : List V} {Q : VK} (s : Sta F cs H) (hn : vs.length ≤ 1000) (q : ∀ p, Gr F (upd F p (.tup vs)) → Sta (upd F p (.tup vs)) cs (upd H p (.tup vs)) → Q (.ref p) (upd H p (.tup vs))) : vs.length ≤ sizeLine ∧ ∀ p, H p = none → Q (.ref p) (upd H p (.tup vs)) :=
  ⟨Nat.le_trans hn (by decide), fun p hp => q p (Gr.new (s.fr.back hp)) (s.lay hp)⟩
theorem sq_new {p : Addr} {vs : List V} : SqT K (upd F p (.tup vs)) p vs := .inl (.inl upd_same)
theorem dt_t {p : Addr} {vs : List V} {ds : List PyData} (h : SqT K F p vs) (hd : Dts K F vs ds) : Dt K F (.ref p) (.tuple ds) := .tup h hd
theorem s_appV {k1 k2 l1 l2 : Cs} {to : TE} {p : Addr} {vs : List V} (s : Sta F (k1 ++ (p, .lst vs) :: k2) H) (hi : VP to σ F (k1 ++ (p, .lst vs) :: k2) (.ref p)) (h : EvD K te σ F (k1 ++ (p, .lst vs) :: k2) d (l1 ++ (p, .lst vs) :: l2)) (hl : vs.length < 100000)
    (q : ∀ v F2 H2, Gr F F2 → Sta F2 (l1 ++ (p, .lst (vs ++ [v])) :: l2) H2 → Dt K F2 v d → nx σ H2) : tDrop (tBM K "list" rAppend to (tCons te tNil)) ⟨nx, rt, bk, ct⟩ σ H :=
  hi F H .rfl s _ ⟨.inl ⟨rfl, _, .inl (.inl s.getAt)⟩, h F H .rfl s _ fun v F2 H2 g2 s2 h2 => ⟨p, vs, v, rfl, rfl, s2.getAt, szl hl, q v F2 _ g2 s2.putAt h2⟩⟩
theorem s_appFV {α : Type} {vf : α → V} {en : α → PyData} {k1 k2 l1 l2 : Cs} {to : TE} {p : Addr} {xs ys : List α} {x : α} (hw : ∀ F v x, Dt K F v (en x) → v = vf x) (s : Sta F (k1 ++ (p, .lst (xs.map vf)) :: k2) H) (hi : VP to σ F (k1 ++ (p, .lst (xs.map vf)) :: k2) (.ref p)) (h : EvD K te σ F (k1 ++ (p, .lst (xs.map vf)) :: k2) (en x) (l1 ++ (p, .lst (xs.map vf)) :: l2)) (hm : appM xs x = some ys)
    (q : ∀ F2 H2, Gr F F2 → Sta F2 (l1 ++ (p, .lst (ys.map vf)) :: l2) H2 → nx σ H2) : tDrop (tBM K "list" rAppend to (tCons te tNil)) ⟨nx, rt, bk, ct⟩ σ H := by
  obtain ⟨hl, rfl⟩ := appM_some hm
  refine s_appV s hi h (by rw [List.length_map]; exact hl) fun v F2 H2 g2 s2 h2 => q F2 H2 g2 ?_
  cases hw F2 v x h2
  rw [List.map_append]; exact s2
theorem s_appGV {α : Type} {en : α → PyData} {k1 k2 l1 l2 : Cs} {to : TE} {p : Addr} {vs : List V} {xs ys : List α} {x : α} (s : Sta F (k1 ++ (p, .lst vs) :: k2) H) (hf : Dts K F vs (xs.map en)) (hi : VP to σ F (k1 ++ (p, .lst vs) :: k2) (.ref p)) (h : EvD K te σ F (k1 ++ (p, .lst vs) :: k2) (en x) (l1 ++ (p, .lst vs) :: l2)) (hm : appM xs x = some ys)
    (q : ∀ us F2 H2, Gr F F2 → Sta F2 (l1 ++ (p, .lst us) :: l2) H2 → Dts K F2 us (ys.map en) → nx σ H2) : tDrop (tBM K "list" rAppend to (tCons te tNil)) ⟨nx, rt, bk, ct⟩ σ H := by
  obtain ⟨hl, rfl⟩ := appM_some hm
  refine s_appV s hi h (by rw [hf.len, List.length_map]; exact hl) fun v F2 H2 g2 s2 h2 => q _ F2 H2 g2 s2 ?_
  rw [List.map_append]; exact (hf.gr g2).app (.cons h2 .nil)
theorem s_itemV {k1 k2 m1 m2 l1 l2 : Cs} {to : TE} {p : Addr} {vs : List V} {ti : TE} {k : Int} {j : Nat} (s : Sta F (k1 ++ (p, .lst vs) :: k2) H) (hi : VP to σ F (m1 ++ (p, .lst vs) :: m2) (.ref p)) (h : EvD K te σ F (k1 ++ (p, .lst vs) :: k2) d (m1 ++ (p, .lst vs) :: m2))
    (h2 : EvD K ti σ F (m1 ++ (p, .lst vs) :: m2) (.int k) (l1 ++ (p, .lst vs) :: l2)) (hj : ixN vs.length k = some j) (q : ∀ v F2 H2, Gr F F2 → Sta F2 (l1 ++ (p, .lst (vs.set j v)) :: l2) H2 → Dt K F2 v d → nx σ H2) : tAsg te (gSub to ti rSetL) ⟨nx, rt, bk, ct⟩ σ H :=
  h F H .rfl s _ fun v F2 H2 g2 s2 hv => hi F2 H2 g2 s2 _ (h2 F2 H2 g2 s2 _ fun w F3 H3 g3 s3 hw => ⟨p, vs, k, j, rfl, hw.toInt, s3.getAt, hj, q v F3 _ (g2.tr g3) s3.putAt (hv.gr g3)⟩)
theorem s_itemFV {α : Type} {vf : α → V} {en : α → PyData} {k1 k2 m1 m2 l1 l2 : Cs} {to : TE} {p : Addr} {xs ys : List α} {x : α} {ti : TE} {k : Int} (hw : ∀ F v x, Dt K F v (en x) → v = vf x) (s : Sta F (k1 ++ (p, .lst (xs.map vf)) :: k2) H) (hi : VP to σ F (m1 ++ (p, .lst (xs.map vf)) :: m2) (.ref p)) (h : EvD K te σ F (k1 ++ (p, .lst (xs.map vf)) :: k2) (en x) (m1 ++ (p, .lst (xs.map vf)) :: m2))
    (h2 : EvD K ti σ F (m1 ++ (p, .lst (xs.map vf)) :: m2) (.int k) (l1 ++ (p, .lst (xs.map vf)) :: l2)) (hm : setM xs k x = some ys) (q : ∀ F2 H2, Gr F F2 → Sta F2 (l1 ++ (p, .lst (ys.map vf)) :: l2) H2 → nx σ H2) : tAsg te (gSub to ti rSetL) ⟨nx, rt, bk, ct⟩ σ H := by
  obtain ⟨j, hj, rfl⟩ := setM_some hm
  refine s_itemV (j := j) s hi h h2 (by rw [List.length_map]; exact hj) fun v F2 H2 g2 s2 hv => q F2 H2 g2 ?_
  cases hw F2 v x hv
  rw [List.map_set]; exact s2
theorem s_itemGV {α : Type} {en : α → PyData} {k1 k2 m1 m2 l1 l2 : Cs} {to : TE} {p : Addr} {vs : List V} {xs ys : List α} {x : α} {ti : TE} {k : Int} (s : Sta F (k1 ++ (p, .lst vs) :: k2) H) (hf : Dts K F vs (xs.map en)) (hi : VP to σ F (m1 ++ (p, .lst vs) :: m2) (.ref p)) (h : EvD K te σ F (k1 ++ (p, .lst vs) :: k2) (en x) (m1 ++ (p, .lst vs) :: m2))
    (h2 : EvD K ti σ F (m1 ++ (p, .lst vs) :: m2) (.int k) (l1 ++ (p, .lst vs) :: l2)) (hm : setM xs k x = some ys) (q : ∀ us F2 H2, Gr F F2 → Sta F2 (l1 ++ (p, .lst us) :: l2) H2 → Dts K F2 us (ys.map en) → nx σ H2) : tAsg te (gSub to ti rSetL) ⟨nx, rt, bk, ct⟩ σ H := by
  obtain ⟨j, hj, rfl⟩ := setM_some hm
  refine s_itemV (j := j) s hi h h2 (by rw [hf.len, List.length_map]; exact hj) fun v F2 H2 g2 s2 hv => q _ F2 H2 g2 s2 ?_
  rw [List.map_set]; exact (hf.gr g2).setAt j hv
theorem s_augSV {k1 k2 m1 m2 l1 l2 : Cs} {to : TE} {p : Addr} {xs ys : List Int} {ti : TE} {k w b : Int} {f : Int → Int → Int} (s : Sta F (k1 ++ (p, .lst (xs.map V.int)) :: k2) H) (hi : VP to σ F (k1 ++ (p, .lst (xs.map V.int)) :: k2) (.ref p)) (h1 : EvD K ti σ F (k1 ++ (p, .lst (xs.map V.int)) :: k2) (.int k) (m1 ++ (p, .lst (xs.map V.int)) :: m2)) (hg : atI xs k = some w)
    (h2 : EvD K te σ F (m1 ++ (p, .lst (xs.map V.int)) :: m2) (.int b) (l1 ++ (p, .lst (xs.map V.int)) :: l2)) (hm : setM xs k (f w b) = some ys) (q : ∀ F2 H2, Gr F F2 → Sta F2 (l1 ++ (p, .lst (ys.map V.int)) :: l2) H2 → nx σ H2) : tAugS to ti te (rIxL K) (ipI f) rSetL ⟨nx, rt, bk, ct⟩ σ H := by
  obtain ⟨j, hj, rfl⟩ := setM_some hm
  refine hi F H .rfl s _ (h1 F H .rfl s _ fun v F2 H2 g2 s2 hv => ⟨p, xs.map V.int, k, .int w, rfl, hv.toInt, .inl (.inl s2.getAt), by rw [atI_map, hg]; rfl, h2 F2 H2 g2 s2 _ fun y F3 H3 g3 s3 hy => ⟨w, b, rfl, hy.toInt, p, xs.map V.int, k, j, rfl, hv.toInt, s3.getAt, by rw [List.length_map]; exact hj, q F3 _ (g2.tr g3) ?_⟩⟩)
  rw [List.map_set]; exact s3.putAt
theorem s_popFV {α : Type} {vf : α → V} {en : α → PyData} {k1 k2 l1 l2 : Cs} {to : TE} {j : Nat} {p : Addr} {xs ys : List α} {x : α} {ti : TE} {k : Int} {σ' : St} (hd : ∀ F x, Dt K F (vf x) (en x)) (s : Sta F (k1 ++ (p, .lst (xs.map vf)) :: k2) H) (hi : VP to σ F (k1 ++ (p, .lst (xs.map vf)) :: k2) (.ref p))
    (h2 : EvD K ti σ F (k1 ++ (p, .lst (xs.map vf)) :: k2) (.int k) (l1 ++ (p, .lst (xs.map vf)) :: l2)) (hm : popM xs k = some (x, ys)) (hσ : σ.set j (some (vf x)) = σ') (q : ∀ F2 H2, Gr F F2 → Sta F2 (l1 ++ (p, .lst (ys.map vf)) :: l2) H2 → nx σ' H2) : tAsg (tBM K "list" rPopAt to (tCons ti tNil)) (gName j) ⟨nx, rt, bk, ct⟩ σ H := by
  obtain ⟨⟨a1, a2⟩, m, b1, b2, rfl⟩ := popM_some hm
  refine hi F H .rfl s _ ⟨.inl ⟨rfl, _, .inl (.inl s.getAt)⟩, h2 F H .rfl s _ fun w F3 H3 g3 s3 hw => ⟨p, xs.map vf, k, m, vf x, rfl, by cases hw.toInt; rfl, s3.getAt, a1, a2, by rw [List.length_map]; exact b1, by rw [List.getElem?_map, b2]; rfl, ?_⟩⟩
  show nx (σ.set j (some (vf x))) _
  rw [hσ]
  refine q F3 _ g3 ?_
  have s4 := s3.putAt (o' := .lst ((xs.map vf).eraseIdx m))
  rw [er_map]
  exact s4
theorem s_remFV {k1 k2 l1 l2 : Cs} {to : TE} {p : Addr} {xs ys : List Int} {ti : TE} {k : Int} (s : Sta F (k1 ++ (p, .lst (xs.map V.int)) :: k2) H) (hi : VP to σ F (k1 ++ (p, .lst (xs.map V.int)) :: k2) (.ref p))
    (h2 : EvD K ti σ F (k1 ++ (p, .lst (xs.map V.int)) :: k2) (.int k) (l1 ++ (p, .lst (xs.map V.int)) :: l2)) (hm : remM xs k = some ys) (q : ∀ F2 H2, Gr F F2 → Sta F2 (l1 ++ (p, .lst (ys.map V.int)) :: l2) H2 → nx σ H2) : tDrop (tBM K "list" rRemI to (tCons ti tNil)) ⟨nx, rt, bk, ct⟩ σ H := by
  unfold remM at hm; split at hm
  · rename_i hin
    cases hm
    obtain ⟨j, e1, e2, e3⟩ := rem_at hin
    refine hi F H .rfl s _ ⟨.inl ⟨rfl, _, .inl (.inl s.getAt)⟩, h2 F H .rfl s _ fun w F3 H3 g3 s3 hw => ⟨p, xs, k, j, rfl, by cases hw.toInt; rfl, s3.getAt, e1, e2, q F3 _ g3 ?_⟩⟩
    rw [e3]
    exact s3.putAt
  · cases hm
theorem s_extV {k1 k2 l1 l2 : Cs} {to : TE} {p : Addr} {vs : List V} {ds : List PyData} (s : Sta F (k1 ++ (p, .lst vs) :: k2) H) (hi : VP to σ F (k1 ++ (p, .lst vs) :: k2) (.ref p)) (h : EvC K te σ F (k1 ++ (p, .lst vs) :: k2) ds (l1 ++ (p, .lst vs) :: l2)) (hl : vs.length + ds.length ≤ 100000)
    (q : ∀ us F2 H2, Gr F F2 → Sta F2 (l1 ++ (p, .lst (vs ++ us)) :: l2) H2 → Dts K F2 us ds → nx σ H2) : tDrop (tBM K "list" rExtend to (tCons te tNil)) ⟨nx, rt, bk, ct⟩ σ H :=
  hi F H .rfl s _ ⟨.inl ⟨rfl, _, .inl (.inl s.getAt)⟩, h F H .rfl s _ fun b us F2 H2 g2 s2 h2 => ⟨p, b, vs, us, rfl, rfl, Sta.getAt (l1 := (b, .lst us) :: l1) s2, s2.at List.mem_cons_self, by rw [h2.len]; exact sz hl, q us _ _ (g2.tr s2.gfr) s2.froze.putAt (h2.gr s2.gfr)⟩⟩
theorem s_extFV {α : Type} {vf : α → V} {en : α → PyData} {k1 k2 l1 l2 : Cs} {to : TE} {p : Addr} {xs ys zs : List α} (hw : ∀ F vs (ys : List α), Dts K F vs (ys.map en) → vs = ys.map vf) (s : Sta F (k1 ++ (p, .lst (xs.map vf)) :: k2) H) (hi : VP to σ F (k1 ++ (p, .lst (xs.map vf)) :: k2) (.ref p)) (h : EvC K te σ F (k1 ++ (p, .lst (xs.map vf)) :: k2) (ys.map en) (l1 ++ (p, .lst (xs.map vf)) :: l2)) (hm : catM xs ys = some zs)
    (q : ∀ F2 H2, Gr F F2 → Sta F2 (l1 ++ (p, .lst (zs.map vf)) :: l2) H2 → nx σ H2) : tDrop (tBM K "list" rExtend to (tCons te tNil)) ⟨nx, rt, bk, ct⟩ σ H := by
  obtain ⟨hl, rfl⟩ := catM_some hm
  refine s_extV s hi h (by rw [List.length_map, List.length_map]; exact hl) fun us F2 H2 g2 s2 h2 => q F2 H2 g2 ?_
  cases hw F2 us ys h2
  rw [List.map_append]; exact s2
theorem s_extGV {α : Type} {en : α → PyData} {k1 k2 l1 l2 : Cs} {to : TE} {p : Addr} {vs : List V} {xs ys zs : List α} (s : Sta F (k1 ++ (p, .lst vs) :: k2) H) (hf : Dts K F vs (xs.map en)) (hi : VP to σ F (k1 ++ (p, .lst vs) :: k2) (.ref p)) (h : EvC K te σ F (k1 ++ (p, .lst vs) :: k2) (ys.map en) (l1 ++ (p, .lst vs) :: l2)) (hm : catM xs ys = some zs)
    (q : ∀ us F2 H2, Gr F F2 → Sta F2 (l1 ++ (p, .lst us) :: l2) H2 → Dts K F2 us (zs.map en) → nx σ H2) : tDrop (tBM K "list" rExtend to (tCons te tNil)) ⟨nx, rt, bk, ct⟩ σ H := by
  obtain ⟨hl, rfl⟩ := catM_some hm
  refine s_extV s hi h (by rw [hf.len, List.length_map, List.length_map]; exact hl) fun us F2 H2 g2 s2 h2 => q _ F2 H2 g2 s2 ?_
  rw [List.map_append]; exact (hf.gr g2).app h2
theorem s_clrV {l1 l2 : Cs} {to : TE} {p : Addr} {vs : List V} (s : Sta F (l1 ++ (p, .lst vs) :: l2) H) (hi : VP to σ F (l1 ++ (p, .lst vs) :: l2) (.ref p)) (q : Sta F (l1 ++ (p, .lst []) :: l2) (upd H p (.lst [])) → nx σ (upd H p (.lst []))) : tDrop (tBM0 K "list" rClear to) ⟨nx, rt, bk, ct⟩ σ H :=
  hi F H .rfl s _ ⟨.inl ⟨rfl, _, .inl (.inl s.getAt)⟩, p, vs, rfl, rfl, s.getAt, q s.putAt⟩
end
def Su (c c' : Cs) : Prop := ∃ l, c.Perm (l ++ c')
theorem su_rfl {cs : Cs} : Su cs cs := ⟨[], .refl _⟩
theorem su_perm {cs cs1 : Cs} (p : cs.Perm cs1) : Su cs cs1 := ⟨[], p⟩
theorem su_drop {c : Addr × HO} {cs : Cs} : Su (c :: cs) cs := ⟨[c], .refl _⟩
theorem Su.tr {cs cs1 cs2 : Cs} (h : Su cs cs1) (k : Su cs1 cs2) : Su cs cs2 := by
  obtain ⟨l, h⟩ := h
  obtain ⟨m, k⟩ := k
  exact ⟨l ++ m, h.trans (by rw [List.append_assoc]; exact k.append_left l)⟩
theorem sta_tl : ∀ {l : Cs} {cs : Cs} {F H : Hp}, Sta F (l ++ cs) H → Sta F cs H
  | [], _, _, _, s => s
  | c :: l, cs, F, H, s => sta_tl (l := l) (sb_drop (c := c) (cs := l ++ cs) F H s)
theorem Su.sb {cs cs1 : Cs} (h : Su cs cs1) : Sb cs cs1 := fun F H s => by
  obtain ⟨l, h⟩ := h
  exact sta_tl (s.perm h)
theorem su_app {cs cs1 c : Cs} (h : Su cs cs1) : Su (c ++ cs) (c ++ cs1) := by
  obtain ⟨l, h⟩ := h
  refine ⟨l, (h.append_left c).trans ?_⟩
  rw [← List.append_assoc, ← List.append_assoc]
  exact List.perm_append_comm.append_right cs1
section
variable {K : PySem.W.Frag} {σ : St} {F F' : Hp} {cs cs1 cs2 cs3 : Cs} {ta tb tc te : TE} {d e : PyData} {as : TA} {a b c : Int} {nx bk ct : St → Hp → Prop} {rt : VK} {H : Hp} {t u : TS}
/-- list(path) -/
theorem c_listV {l1 l2 : Cs} {to : TE} {p : Addr} {us : List V} {ds : List PyData} (hi : VP to σ F (l1 ++ (p, .lst us) :: l2) (.ref p)) (hd : Dts K F us ds) : EvC K (tCB (rListS K) (tCons to tNil)) σ F (l1 ++ (p, .lst us) :: l2) ds (l1 ++ (p, .lst us) :: l2) := fun F1 H1 g1 s Q q =>
  hi F1 H1 g1 s _ ⟨p, us, rfl, .inl (.inl (.inl s.getAt)), fun l nl => q _ _ _ _ .rfl (s.cell nl) (hd.gr g1)⟩
/-! a function that tells a new thing, some parts of which may change -/
def spR (K : PySem.W.Frag) {α β : Type} (A : α → List Ar) (C : β → List (List V)) (R : β → Hp → V → Cs → Prop) (f : α → Option β) : Sp := fun vs H Q _ => ∃ F cc cs x y, ArgR K F vs (A x) cc ∧ Sta F (cc ++ cs) H ∧ f x = some y ∧ ∀ v c F2 H2, Gr F F2 → Sta F2 (c ++ (upC cc (C y) ++ cs)) H2 → R y F2 v c → Q v H2
theorem o_callR {α β : Type} {A : α → List Ar} {C : β → List (List V)} {R : β → Hp → V → Cs → Prop} {f : α → Option β} {x : α} {y : β} {E : XK} {cc cs' : Cs} {Q : VK} (s : Sta F cs H) (h : EvR K as σ F cs (A x) cc cs1) (hp : Sb cs1 (cc ++ cs')) (hf : f x = some y) (hq : Su (upC cc (C y) ++ cs') cs2)
    (q : ∀ v c F2 H2, Gr F F2 → Sta F2 (c ++ cs2) H2 → R y F2 v c → Q v H2) : tCall (spR K A C R f) [] E as σ H Q :=
  h F H .rfl s _ fun vs F2 H2 g2 s2 h2 => ⟨F2, cc, cs', x, y, by rw [List.append_nil]; exact h2, hp _ _ s2, hf, fun v c F3 H3 g3 s3 r => q v c F3 H3 (g2.tr g3) ((su_app hq).sb _ _ s3) r⟩
theorem d_callR {α β : Type} {A : α → List Ar} {C : β → List (List V)} {R : β → Hp → V → Cs → Prop} {B : β → PyData} {f : α → Option β} {x : α} {y : β} {E : XK} {cc cs' : Cs} (hR : ∀ y F H v c cs, R y F v c → Sta F (c ++ cs) H → ∃ F', Gr F F' ∧ Sta F' cs H ∧ Dt K F' v (B y)) (h : EvR K as σ F cs (A x) cc cs1) (hp : Sb cs1 (cc ++ cs')) (hf : f x = some y) (hq : Su (upC cc (C y) ++ cs') cs2) : EvD K (tCall (spR K A C R f) [] E as) σ F cs (B y) cs2 := fun F1 H1 g1 s Q q =>
  h F1 H1 g1 s _ fun vs F2 H2 g2 s2 h2 => ⟨F2, cc, cs', x, y, by rw [List.append_nil]; exact h2, hp _ _ s2, hf, fun v c F3 H3 g3 s3 r => by
    obtain ⟨F4, g4, s4, d4⟩ := hR y F3 H3 v c cs2 r ((su_app hq).sb _ _ s3)
    exact q v F4 H3 ((g2.tr g3).tr g4) s4 d4⟩
end
end Bw

namespace Bw
open PySem L2
/-! data without lists -/
mutual
def noL : PyData → Bool
  | .list _ => false
  | .dict _ => false
  | .tuple ds => noLs ds
  | _ => true
def noLs : List PyData → Bool
  | [] => true
  | d :: ds => noL d && noLs ds
end
section
variable {K : PySem.W.Frag} {F F2 : Hp} {p : Addr} {us : List V}
mutual
theorem Dt.cutL (hp : F2 p = some (.lst us)) : ∀ {v : V} {d : PyData}, Dt K F2 v d → noL d = true → Dt K (cut F2 p) v d
  | _, _, .non, _ => .non
  | _, _, .bl b, _ => .bl b
  | _, _, .int i, _ => .int i
  | _, _, .str x, _ => .str x
  | _, _, .lst h a, n => by simp [noL] at n
  | _, _, .dct h, n => by simp [noL] at n
  | _, _, .tup (a := a) (ds := ds) h k, n => by
    have n' : noLs ds = true := by simpa [noL] using n
    refine .tup ?_ (Dts.cutL hp k n')
    rcases h with (h | ⟨o, h⟩) | h
    · refine .inl (.inl ?_)
      rw [cut_ne (fun z => by rw [z, hp] at h; cases h)]; exact h
    · refine .inl (.inr ⟨o, ?_⟩)
      rw [cut_ne (fun z => by rw [z, hp] at h; cases h)]; exact h
    · exact .inr h
theorem Dts.cutL (hp : F2 p = some (.lst us)) : ∀ {vs : List V} {ds : List PyData}, Dts K F2 vs ds → noLs ds = true → Dts K (cut F2 p) vs ds
  | _, _, .nil, _ => .nil
  | _, _, .cons h t, n => by
    rw [noLs, Bool.and_eq_true] at n
    exact .cons (Dt.cutL hp h n.1) (Dts.cutL hp t n.2)
end
end
def Nl {α : Type} (e : α → PyData) : Prop := ∀ x, noL (e x) = true
theorem nl_I : Nl eI := fun _ => rfl
theorem nl_B : Nl eB := fun _ => rfl
theorem nl_S : Nl eS := fun _ => rfl
theorem nl_N : Nl eN := fun _ => rfl
theorem nl_O {α : Type} {e : α → PyData} (h : Nl e) : Nl (eO e) := fun x => by cases x with
  | none => rfl
  | some y => exact h y
theorem nl_T2 {α β : Type} {e : α → PyData} {f : β → PyData} (h : Nl e) (k : Nl f) : Nl (eT2 e f) := fun x => by show (noL (e x.1) && (noL (f x.2) && true)) = true; rw [h, k]; rfl
theorem nl_T3 {α β γ : Type} {e : α → PyData} {f : β → PyData} {g : γ → PyData} (h : Nl e) (k : Nl f) (l : Nl g) : Nl (eT3 e f g) := fun x => by show (noL (e x.1) && (noL (f x.2.1) && (noL (g x.2.2) && true))) = true; rw [h, k, l]; rfl
theorem nl_T4 {α β γ δ : Type} {e : α → PyData} {f : β → PyData} {g : γ → PyData} {i : δ → PyData} (h : Nl e) (k : Nl f) (l : Nl g) (m : Nl i) : Nl (eT4 e f g i) := fun x => by show (noL (e x.1) && (noL (f x.2.1) && (noL (g x.2.2.1) && (noL (i x.2.2.2) && true)))) = true; rw [h, k, l, m]; rfl
theorem nls {α : Type} {e : α → PyData} (h : Nl e) : ∀ xs : List α, noLs (xs.map e) = true
  | [] => rfl
  | x :: xs => by show (noL (e x) && noLs (xs.map e)) = true; rw [h, nls h xs]; rfl
section
variable {K : PySem.W.Frag} {σ : St} {F F' : Hp} {cs cs1 cs2 cs3 : Cs} {ta tb tc te : TE} {d e : PyData} {as : TA}
theorem Ev.grC {ds : List PyData} (g : Gr F F') (h : EvC K te σ F cs ds cs1) : EvC K te σ F' cs ds cs1 := fun F1 H1 g1 s Q q => h F1 H1 (g.tr g1) s Q q
theorem Ev.grR {xs : List Ar} {cc : Cs} (g : Gr F F') (h : EvR K as σ F cs xs cc cs1) : EvR K as σ F' cs xs cc cs1 := fun F1 H1 g1 s Q q => h F1 H1 (g.tr g1) s Q q
theorem r_cv {xs : List Ar} {cc : Cs} {to : TE} {p : Addr} {us : List V} (hi : VP to σ F cs (.ref p)) (h2 : EvR K as σ F cs xs cc cs2) : EvR K (tCons to as) σ F cs (.c us :: xs) ((p, .lst us) :: cc) cs2 := fun F1 H1 g1 s Q q =>
  hi F1 H1 g1 s _ (h2 F1 H1 g1 s _ fun vs F2 H2 g2 s2 h => q _ F2 H2 g2 s2 (.c h))
/-- the first argument is a new list of flat things, which nobody keeps -/
theorem o_callRN {α β : Type} {A : α → List Ar} {C : β → List (List V)} {R : β → Hp → V → Cs → Prop} {f : α → Option β} {x : α} {y : β} {E : XK} {cc cs' : Cs} {ds : List PyData} {us : List V} {xs : List Ar} {H : Hp} {Q : VK} (s : Sta F cs H) (h : EvC K te σ F cs ds cs1) (hu : ∀ F vs, Dts K F vs ds → vs = us) (hA : A x = .c us :: xs) (h2 : ∀ p, EvR K as σ F ((p, .lst us) :: cs1) xs cc ((p, .lst us) :: cs2))
    (hp : ∀ p, Sb ((p, .lst us) :: cs2) ((p, .lst us) :: cc ++ cs')) (hf : f x = some y) (hq : ∀ p, Su (upC ((p, .lst us) :: cc) (C y) ++ cs') cs3) (q : ∀ v c F2 H2, Gr F F2 → Sta F2 (c ++ cs3) H2 → R y F2 v c → Q v H2) : tCall (spR K A C R f) [] E (tCons te as) σ H Q :=
  h F H .rfl s _ fun p vs F2 H2 g2 s2 hv => by
    cases hu F2 vs hv
    exact h2 p F2 H2 g2 s2 _ fun ws F3 H3 g3 s3 h3 => ⟨F3, (p, .lst us) :: cc, cs', x, y, by rw [List.append_nil, hA]; exact .c h3, hp p _ _ s3, hf, fun v c F4 H4 g4 s4 r => q v c F4 H4 ((g2.tr g3).tr g4) ((su_app (hq p)).sb _ _ s4) r⟩
theorem d_callRN {α β : Type} {A : α → List Ar} {C : β → List (List V)} {R : β → Hp → V → Cs → Prop} {B : β → PyData} {f : α → Option β} {x : α} {y : β} {E : XK} {cc cs' : Cs} {ds : List PyData} {us : List V} {xs : List Ar} (hR : ∀ y F H v c cs, R y F v c → Sta F (c ++ cs) H → ∃ F', Gr F F' ∧ Sta F' cs H ∧ Dt K F' v (B y)) (h : EvC K te σ F cs ds cs1) (hu : ∀ F vs, Dts K F vs ds → vs = us) (hA : A x = .c us :: xs) (h2 : ∀ p, EvR K as σ F ((p, .lst us) :: cs1) xs cc ((p, .lst us) :: cs2))
    (hp : ∀ p, Sb ((p, .lst us) :: cs2) ((p, .lst us) :: cc ++ cs')) (hf : f x = some y) (hq : ∀ p, Su (upC ((p, .lst us) :: cc) (C y) ++ cs') cs3) : EvD K (tCall (spR K A C R f) [] E (tCons te as)) σ F cs (B y) cs3 := fun F1 H1 g1 s Q q =>
  o_callRN s (Ev.grC g1 h) hu hA (fun p => Ev.grR g1 (h2 p)) hp hf hq fun v c F3 H3 g3 s3 r => by
    obtain ⟨F4, g4, s4, d4⟩ := hR y F3 H3 v c cs3 r s3
    exact q v F4 H3 (g3.tr g4) s4 d4
theorem d_lendT {l1 l2 m1 m2 : Cs} {p : Addr} {us : List V} (hn : noL d = true) (h : ∀ F1, Gr F F1 → F1 p = none → EvD K te σ (upd F1 p (.lst us)) (l1 ++ l2) d (m1 ++ m2)) : EvD K te σ F (l1 ++ (p, .lst us) :: l2) d (m1 ++ (p, .lst us) :: m2) := fun F1 H1 g1 s Q q => by
  refine h F1 g1 s.freeAt (upd F1 p (.lst us)) H1 .rfl s.frozeAt Q fun v F2 H2 g2 s2 h2 => ?_
  exact q v (cut F2 p) H2 (gr_cut s.freeAt g2) (Sta.lent g2 s2) (h2.cutL (g2 p _ upd_same) hn)
theorem c_lendT {l1 l2 m1 m2 : Cs} {p : Addr} {us : List V} {ds : List PyData} (hn : noLs ds = true) (h : ∀ F1, Gr F F1 → F1 p = none → EvC K te σ (upd F1 p (.lst us)) (l1 ++ l2) ds (m1 ++ m2)) : EvC K te σ F (l1 ++ (p, .lst us) :: l2) ds (m1 ++ (p, .lst us) :: m2) := fun F1 H1 g1 s Q q => by
  refine h F1 g1 s.freeAt (upd F1 p (.lst us)) H1 .rfl s.frozeAt Q fun a vs F2 H2 g2 s2 h2 => ?_
  exact q a vs (cut F2 p) H2 (gr_cut s.freeAt g2) (Sta.lent (l1 := (a, .lst vs) :: m1) g2 s2) (h2.cutL (g2 p _ upd_same) hn)
end
end Bw

namespace Bw
open PySem L2
/-! dicts with flat keys and flat values -/
def lookK {κ ν : Type} [DecidableEq κ] (d : List (κ × ν)) (k : κ) : Option ν := (d.find? fun p => decide (p.1 = k)).map (·.2)
def putKV {κ ν : Type} [DecidableEq κ] (d : List (κ × ν)) (k : κ) (v : ν) : List (κ × ν) := if (d.any fun p => decide (p.1 = k)) = true then d.map (fun p => if p.1 = k then (p.1, v) else p) else d ++ [(k, v)]
def hasK {κ ν : Type} [DecidableEq κ] (d : List (κ × ν)) (k : κ) : Bool := (lookK d k).isSome
def putM {κ ν : Type} [DecidableEq κ] (d : List (κ × ν)) (k : κ) (v : ν) : Option (List (κ × ν)) := if d.length < 100000 then some (putKV d k v) else none
def kvE {κ ν : Type} (kf : κ → Key) (vf : ν → V) (d : List (κ × ν)) : List (Key × V) := d.map fun p => (kf p.1, vf p.2)
def Inj {κ : Type} (kf : κ → Key) : Prop := ∀ a b, kf a = kf b → a = b
abbrev kS : Str → Key := fun x => Sum.inr x
abbrev kI : Int → Key := fun x => Sum.inl x
theorem inj_S : Inj kS := fun _ _ h => Sum.inr.inj h
theorem inj_I : Inj kI := fun _ _ h => Sum.inl.inj h
section
variable {κ ν : Type} [DecidableEq κ] {kf : κ → Key} {vf : ν → V}
theorem val_kv (hk : Inj kf) : ∀ (d : List (κ × ν)) (k : κ), valV (kvE kf vf d) (kf k) = (lookK d k).map vf
  | [], _ => rfl
  | p :: d, k => by
    have ih := val_kv hk d k
    unfold valV kvE lookK at ih ⊢
    rw [List.map_cons, List.find?_cons, List.find?_cons]
    by_cases h : p.1 = k
    · rw [decide_eq_true h, decide_eq_true (congrArg kf h)]; rfl
    · rw [decide_eq_false h, decide_eq_false (fun z => h (hk _ _ z))]; exact ih
theorem put_kv (hk : Inj kf) (d : List (κ × ν)) (k : κ) (v : ν) : putK (kvE kf vf d) (kf k) (vf v) = kvE kf vf (putKV d k v) := by
  have e : ∀ d : List (κ × ν), ((kvE kf vf d).any fun kv => decide (kv.1 = kf k)) = d.any fun p => decide (p.1 = k) := fun d => by
    unfold kvE
    rw [List.any_map]
    congr 1
    funext p
    by_cases h : p.1 = k
    · simp [h]
    · have : ¬ kf p.1 = kf k := fun z => h (hk _ _ z)
      simp [h, this]
  unfold putK putKV
  rw [e]
  by_cases q : (d.any fun p => decide (p.1 = k)) = true
  · rw [if_pos q, if_pos q]
    unfold kvE
    rw [List.map_map, List.map_map]
    apply List.map_congr_left
    intro p _
    show (if kf p.1 = kf k then (kf p.1, vf v) else (kf p.1, vf p.2)) = _
    by_cases h : p.1 = k
    · rw [if_pos (congrArg kf h)]; show _ = (kf (if p.1 = k then (p.1, v) else p).1, vf (if p.1 = k then (p.1, v) else p).2); rw [if_pos h]
    · rw [if_neg (fun z => h (hk _ _ z))]; show _ = (kf (if p.1 = k then (p.1, v) else p).1, vf (if p.1 = k then (p.1, v) else p).2); rw [if_neg h]
  · rw [if_neg q, if_neg q]
    unfold kvE
    rw [List.map_append]; rfl
theorem putM_some {d e : List (κ × ν)} {k : κ} {v : ν} (h : putM d k v = some e) : d.length < 100000 ∧ putKV d k v = e := by
  unfold putM at h; split at h
  · rename_i q; exact ⟨q, Option.some.inj h⟩
  · cases h
end
/-- how a key's value stands -/
structure KfOk {κ : Type} (kf : κ → Key) (ek : κ → PyData) : Prop where
  inj : Inj kf
  v : ∀ K F v x, Dt K F v (ek x) → v = kV (kf x)
theorem kf_S : KfOk kS eS := ⟨inj_S, fun _ _ _ _ h => h.toStr⟩
theorem kf_I : KfOk kI eI := ⟨inj_I, fun _ _ _ _ h => h.toInt⟩
section
variable {K : PySem.W.Frag} {σ : St} {F F' : Hp} {cs cs1 cs2 cs3 : Cs} {ta tb tc te td : TE} {d e : PyData} {as : TA} {a b c : Int} {nx bk ct : St → Hp → Prop} {rt : VK} {H : Hp} {t u : TS}
variable {κ ν : Type} [DecidableEq κ] {kf : κ → Key} {vf : ν → V} {ek : κ → PyData} {ev : ν → PyData}
/-- a new dict -/
theorem o_dict0 {Q : VK} (s : Sta F cs H) (q : ∀ p H2, Sta F ((p, .dK (kvE kf vf [])) :: cs) H2 → Q (.ref p) H2) : tDNewK σ H Q := fun p hp => q p _ (s.cell hp)
/-- k in d -/
theorem d_din {D : List (κ × ν)} {k : κ} {p : Addr} (hk : KfOk kf ek) (ha : EvD K ta σ F cs (ek k) cs1) (hd : VP td σ F cs1 (.ref p)) (hF : F p = some (.dK (kvE kf vf D))) : EvD K (tDIn ta td) σ F cs (.bool (hasK D k)) cs1 := fun F1 H1 g1 s Q q =>
  ha F1 H1 g1 s _ fun v F2 H2 g2 s2 h2 => hd F2 H2 (g1.tr g2) s2 _ ⟨p, valV (kvE kf vf D) (kf k), rfl, by rw [hk.v K F2 v k h2]; exact DGet.k (s2.fr _ _ ((g1.tr g2) _ _ hF)), by
    rw [val_kv hk.inj, Option.isSome_map]; exact q _ F2 H2 g2 s2 (.bl _)⟩
theorem d_dnin {D : List (κ × ν)} {k : κ} {p : Addr} (hk : KfOk kf ek) (ha : EvD K ta σ F cs (ek k) cs1) (hd : VP td σ F cs1 (.ref p)) (hF : F p = some (.dK (kvE kf vf D))) : EvD K (tDNotIn ta td) σ F cs (.bool (!hasK D k)) cs1 := fun F1 H1 g1 s Q q =>
  ha F1 H1 g1 s _ fun v F2 H2 g2 s2 h2 => hd F2 H2 (g1.tr g2) s2 _ ⟨p, valV (kvE kf vf D) (kf k), rfl, by rw [hk.v K F2 v k h2]; exact DGet.k (s2.fr _ _ ((g1.tr g2) _ _ hF)), by
    rw [val_kv hk.inj, Option.isSome_map]; exact q _ F2 H2 g2 s2 (.bl _)⟩
/-- d[k] -/
theorem d_dget {D : List (κ × ν)} {k : κ} {x : ν} {p : Addr} (hk : KfOk kf ek) (hv : ∀ F x, Dt K F (vf x) (ev x)) (hd : VP td σ F cs (.ref p)) (ha : EvD K ta σ F cs (ek k) cs1) (hF : F p = some (.dK (kvE kf vf D))) (hx : lookK D k = some x) : EvD K (tDGet td ta) σ F cs (ev x) cs1 := fun F1 H1 g1 s Q q =>
  hd F1 H1 g1 s _ (ha F1 H1 g1 s _ fun v F2 H2 g2 s2 h2 => ⟨p, vf x, rfl, by
    have := DGet.k (k := kf k) (s2.fr _ _ ((g1.tr g2) _ _ hF))
    rw [val_kv hk.inj, hx] at this
    rw [hk.v K F2 v k h2]; exact this, q _ F2 H2 g2 s2 (hv _ _)⟩)
/-- len(d) -/
abbrev rLenD : List V → Hp → VK → Prop := fun xs H Q => ∃ a kvs, xs = [V.ref a] ∧ H a = some (.dK kvs) ∧ Q (.int kvs.length) H
theorem d_lenK {D : List (κ × ν)} {p : Addr} (hd : VP td σ F cs (.ref p)) (hF : F p = some (.dK (kvE kf vf D))) : EvD K (tCB rLenD (tCons td tNil)) σ F cs (.int D.length) cs := fun F1 H1 g1 s Q q =>
  hd F1 H1 g1 s _ ⟨p, _, rfl, s.fr _ _ (g1 _ _ hF), q _ F1 H1 .rfl s (by unfold kvE; rw [List.length_map]; exact .int _)⟩
/-- d[k] = v, d a cell -/
theorem s_dput {k1 k2 m1 m2 l1 l2 : Cs} {D D2 : List (κ × ν)} {k : κ} {x : ν} {p : Addr} (hk : KfOk kf ek) (hw : ∀ F v x, Dt K F v (ev x) → v = vf x) (s : Sta F (k1 ++ (p, .dK (kvE kf vf D)) :: k2) H) (h : EvD K te σ F (k1 ++ (p, .dK (kvE kf vf D)) :: k2) (ev x) (m1 ++ (p, .dK (kvE kf vf D)) :: m2))
    (hd : VP td σ F (m1 ++ (p, .dK (kvE kf vf D)) :: m2) (.ref p)) (ha : EvD K ta σ F (m1 ++ (p, .dK (kvE kf vf D)) :: m2) (ek k) (l1 ++ (p, .dK (kvE kf vf D)) :: l2)) (hm : putM D k x = some D2)
    (q : ∀ F2 H2, Gr F F2 → Sta F2 (l1 ++ (p, .dK (kvE kf vf D2)) :: l2) H2 → nx σ H2) : sDPut td ta te ⟨nx, rt, bk, ct⟩ σ H :=
  h F H .rfl s _ fun v F2 H2 g2 s2 hv => hd F2 H2 g2 s2 _ (ha F2 H2 g2 s2 _ fun y F3 H3 g3 s3 hy => by
    obtain ⟨hl, rfl⟩ := putM_some hm
    refine ⟨p, _, rfl, ?_, q F3 _ (g2.tr g3) (s3.putAt (o' := .dK (kvE kf vf (putKV D k x))))⟩
    rw [hk.v K F3 y k hy, hw F2 v x hv, ← put_kv hk.inj]
    exact DPut.k s3.getAt (by unfold kvE; rw [List.length_map]; exact szl hl))
/-- .. for a new name -/
theorem s_setDict {i : Nat} {σ' : Addr → St} (s : Sta F cs H) (hσ : ∀ p, σ.set i (some (.ref p)) = σ' p) (q : ∀ p H2, Sta F ((p, .dK (kvE kf vf [])) :: cs) H2 → nx (σ' p) H2) : tAsg tDNewK (gName i) ⟨nx, rt, bk, ct⟩ σ H := fun p hp => by
  show nx (σ.set i (some (.ref p))) _
  rw [hσ]
  exact q p _ (s.cell hp)
end
/-! what no tuple is, cut out -/
def nTup (o : HO) : Prop := ∀ xs, o ≠ .tup xs ∧ ∀ ob, o ≠ .frz ob (.tup xs)
theorem nt_d (kvs : List (Key × V)) : nTup (.dK kvs) := fun xs => ⟨fun z => (nomatch z), fun _ z => (nomatch z)⟩
theorem nt_l (kvs : List V) : nTup (.lst kvs) := fun xs => ⟨fun z => (nomatch z), fun _ z => (nomatch z)⟩
section
variable {K : PySem.W.Frag} {F F2 : Hp} {p : Addr} {o : HO}
mutual
theorem Dt.cutO (hp : F2 p = some o) (ho : nTup o) : ∀ {v : V} {d : PyData}, Dt K F2 v d → noL d = true → Dt K (cut F2 p) v d
  | _, _, .non, _ => .non
  | _, _, .bl b, _ => .bl b
  | _, _, .int i, _ => .int i
  | _, _, .str x, _ => .str x
  | _, _, .lst h a, n => by simp [noL] at n
  | _, _, .dct h, n => by simp [noL] at n
  | _, _, .tup (a := a) (ds := ds) h k, n => by
    have n' : noLs ds = true := by simpa [noL] using n
    refine .tup ?_ (Dts.cutO hp ho k n')
    rcases h with (h | ⟨ob, h⟩) | h
    · refine .inl (.inl ?_)
      rw [cut_ne (fun z => by rw [z, hp] at h; exact (ho _).1 (Option.some.inj h))]; exact h
    · refine .inl (.inr ⟨ob, ?_⟩)
      rw [cut_ne (fun z => by rw [z, hp] at h; exact (ho _).2 ob (Option.some.inj h))]; exact h
    · exact .inr h
theorem Dts.cutO (hp : F2 p = some o) (ho : nTup o) : ∀ {vs : List V} {ds : List PyData}, Dts K F2 vs ds → noLs ds = true → Dts K (cut F2 p) vs ds
  | _, _, .nil, _ => .nil
  | _, _, .cons h t, n => by
    rw [noLs, Bool.and_eq_true] at n
    exact .cons (Dt.cutO hp ho h n.1) (Dts.cutO hp ho t n.2)
end
end
section
variable {K : PySem.W.Frag} {σ : St} {F F' : Hp} {cs cs1 cs2 cs3 : Cs} {ta tb tc te : TE} {d e : PyData} {as : TA}
theorem d_lendO {l1 l2 m1 m2 : Cs} {p : Addr} {o : HO} (ho : nTup o) (hn : noL d = true) (h : ∀ F1, Gr F F1 → F1 p = none → EvD K te σ (upd F1 p o) (l1 ++ l2) d (m1 ++ m2)) : EvD K te σ F (l1 ++ (p, o) :: l2) d (m1 ++ (p, o) :: m2) := fun F1 H1 g1 s Q q => by
  refine h F1 g1 s.freeAt (upd F1 p o) H1 .rfl s.frozeAt Q fun v F2 H2 g2 s2 h2 => ?_
  exact q v (cut F2 p) H2 (gr_cut s.freeAt g2) (Sta.lent g2 s2) (h2.cutO (g2 p _ upd_same) ho hn)
theorem c_lendO {l1 l2 m1 m2 : Cs} {p : Addr} {o : HO} {ds : List PyData} (ho : nTup o) (hn : noLs ds = true) (h : ∀ F1, Gr F F1 → F1 p = none → EvC K te σ (upd F1 p o) (l1 ++ l2) ds (m1 ++ m2)) : EvC K te σ F (l1 ++ (p, o) :: l2) ds (m1 ++ (p, o) :: m2) := fun F1 H1 g1 s Q q => by
  refine h F1 g1 s.freeAt (upd F1 p o) H1 .rfl s.frozeAt Q fun a vs F2 H2 g2 s2 h2 => ?_
  exact q a vs (cut F2 p) H2 (gr_cut s.freeAt g2) (Sta.lent (l1 := (a, .lst vs) :: m1) g2 s2) (h2.cutO (g2 p _ upd_same) ho hn)
theorem sb_drop2 {z c : Addr × HO} : Sb (z :: c :: cs) (z :: cs) := Sb.tr (sb_perm (.swap c z cs)) sb_drop
/-- xs.insert(i, x), a cell -/
def insM {α : Type} (xs : List α) (i : Int) (x : α) : Option (List α) := if xs.length < 100000 ∧ 0 ≤ i ∧ i < 2 ^ 63 then some (xs.take i.toNat ++ [x] ++ xs.drop i.toNat) else none
abbrev rInsert : V → List V → Hp → VK → Prop := fun x vs H Q => ∃ (l : Addr) (xs : List V) (i : Int) (y : V), x = .ref l ∧ vs = [.int i, y] ∧ H l = some (.lst xs) ∧ xs.length < sizeLine ∧ 0 ≤ i ∧ i < 2 ^ 63 ∧ Q .non (upd H l (.lst (xs.take i.toNat ++ [y] ++ xs.drop i.toNat)))
theorem s_insFV {α : Type} {vf : α → V} {en : α → PyData} {k1 k2 m1 m2 l1 l2 : Cs} {to ti : TE} {p : Addr} {xs ys : List α} {x : α} {k : Int} {nx bk ct : St → Hp → Prop} {rt : VK} {H : Hp} (hw : ∀ F v x, Dt K F v (en x) → v = vf x) (s : Sta F (k1 ++ (p, .lst (xs.map vf)) :: k2) H) (hi : VP to σ F (k1 ++ (p, .lst (xs.map vf)) :: k2) (.ref p))
    (h1 : EvD K ti σ F (k1 ++ (p, .lst (xs.map vf)) :: k2) (.int k) (m1 ++ (p, .lst (xs.map vf)) :: m2)) (h : EvD K te σ F (m1 ++ (p, .lst (xs.map vf)) :: m2) (en x) (l1 ++ (p, .lst (xs.map vf)) :: l2)) (hm : insM xs k x = some ys)
    (q : ∀ F2 H2, Gr F F2 → Sta F2 (l1 ++ (p, .lst (ys.map vf)) :: l2) H2 → nx σ H2) : tDrop (tBM K "list" rInsert to (tCons ti (tCons te tNil))) ⟨nx, rt, bk, ct⟩ σ H := by
  unfold insM at hm; split at hm
  · rename_i hl
    cases hm
    refine hi F H .rfl s _ ⟨.inl ⟨rfl, _, .inl (.inl s.getAt)⟩, h1 F H .rfl s _ fun v F2 H2 g2 s2 hv => h F2 H2 g2 s2 _ fun w F3 H3 g3 s3 hx => ⟨p, xs.map vf, k, w, rfl, by rw [hv.toInt], s3.getAt, by rw [List.length_map]; exact szl hl.1, hl.2.1, hl.2.2, q F3 _ (g2.tr g3) ?_⟩⟩
    cases hw F3 w x hx
    rw [List.map_append, List.map_append, List.map_take, List.map_drop]
    exact s3.putAt
  · cases hm
end
end Bw

namespace Bw
open PySem L2
theorem eqE_OI : EqE (eO eI) := fun x y => by
  cases x <;> cases y <;> simp [eO, PyData.eqv]
  exact beq_dec _ _
theorem eqE_OS : EqE (eO eS) := fun x y => by
  cases x <;> cases y <;> simp [eO, PyData.eqv]
  exact beq_dec _ _
theorem eqE_OB : EqE (eO eB) := fun x y => by
  cases x <;> cases y <;> simp [eO, PyData.eqv]
  exact beq_dec _ _
theorem sh_OI : ShE 0 (eO eI) := fun x => by cases x <;> exact ⟨by simp [eO, PyData.canLay0], by simp [eO, PyData.depth]⟩
theorem sh_OB : ShE 0 (eO eB) := fun x => by cases x <;> exact ⟨by simp [eO, PyData.canLay0], by simp [eO, PyData.depth]⟩
section
variable {K : PySem.W.Frag} {σ : St} {F F' : Hp} {cs cs1 cs2 cs3 : Cs} {ta tb tc te : TE} {d e : PyData} {as : TA} {nx bk ct : St → Hp → Prop} {rt : VK} {H : Hp}
theorem sqT_cut {p a : Addr} {o : HO} {xs : List V} (hp : F p = some o) (ho : nTup o) (h : SqT K F a xs) : SqT K (cut F p) a xs := by
  rcases h with (h | ⟨ob, h⟩) | h
  · refine .inl (.inl ?_)
    rw [cut_ne (fun z => by rw [z, hp] at h; exact (ho _).1 (Option.some.inj h))]; exact h
  · refine .inl (.inr ⟨ob, ?_⟩)
    rw [cut_ne (fun z => by rw [z, hp] at h; exact (ho _).2 ob (Option.some.inj h))]; exact h
  · exact .inr h
theorem i_tupM {α : Type} {en : α → PyData} {xs : List α} (h : EvD K te σ F cs (.tuple (xs.map en)) cs1) : EvI K (iTup K te) σ F cs (xs.map en) cs1 := i_tup h
/-- xs.pop(k), nothing kept -/
theorem s_popFD {α : Type} {vf : α → V} {k1 k2 l1 l2 : Cs} {to : TE} {p : Addr} {xs ys : List α} {x : α} {ti : TE} {k : Int} (s : Sta F (k1 ++ (p, .lst (xs.map vf)) :: k2) H) (hi : VP to σ F (k1 ++ (p, .lst (xs.map vf)) :: k2) (.ref p))
    (h2 : EvD K ti σ F (k1 ++ (p, .lst (xs.map vf)) :: k2) (.int k) (l1 ++ (p, .lst (xs.map vf)) :: l2)) (hm : popM xs k = some (x, ys)) (q : ∀ F2 H2, Gr F F2 → Sta F2 (l1 ++ (p, .lst (ys.map vf)) :: l2) H2 → nx σ H2) : tDrop (tBM K "list" rPopAt to (tCons ti tNil)) ⟨nx, rt, bk, ct⟩ σ H := by
  obtain ⟨⟨a1, a2⟩, m, b1, b2, rfl⟩ := popM_some hm
  refine hi F H .rfl s _ ⟨.inl ⟨rfl, _, .inl (.inl s.getAt)⟩, h2 F H .rfl s _ fun w F3 H3 g3 s3 hw => ⟨p, xs.map vf, k, m, vf x, rfl, by cases hw.toInt; rfl, s3.getAt, a1, a2, by rw [List.length_map]; exact b1, by rw [List.getElem?_map, b2]; rfl, ?_⟩⟩
  have s4 := s3.putAt (o' := .lst ((xs.map vf).eraseIdx m))
  refine q F3 _ g3 ?_
  rw [er_map]; exact s4
theorem Dts.erase : ∀ {vs : List V} {ds : List PyData} (n : Nat), Dts K F vs ds → Dts K F (vs.eraseIdx n) (ds.eraseIdx n)
  | _, _, _, .nil => .nil
  | _, _, 0, .cons _ t => t
  | _, _, n + 1, .cons h t => .cons h (Dts.erase n t)
theorem s_popGD {α : Type} {en : α → PyData} {k1 k2 l1 l2 : Cs} {to : TE} {p : Addr} {vs : List V} {xs ys : List α} {x : α} {ti : TE} {k : Int} (s : Sta F (k1 ++ (p, .lst vs) :: k2) H) (hf : Dts K F vs (xs.map en)) (hi : VP to σ F (k1 ++ (p, .lst vs) :: k2) (.ref p))
    (h2 : EvD K ti σ F (k1 ++ (p, .lst vs) :: k2) (.int k) (l1 ++ (p, .lst vs) :: l2)) (hm : popM xs k = some (x, ys)) (q : ∀ us F2 H2, Gr F F2 → Sta F2 (l1 ++ (p, .lst us) :: l2) H2 → Dts K F2 us (ys.map en) → nx σ H2) : tDrop (tBM K "list" rPopAt to (tCons ti tNil)) ⟨nx, rt, bk, ct⟩ σ H := by
  obtain ⟨⟨a1, a2⟩, m, b1, b2, rfl⟩ := popM_some hm
  have hl : vs.length = xs.length := by rw [hf.len, List.length_map]
  have hm' : m < vs.length := by rw [hl]; exact (List.getElem?_eq_some_iff.mp b2).1
  refine hi F H .rfl s _ ⟨.inl ⟨rfl, _, .inl (.inl s.getAt)⟩, h2 F H .rfl s _ fun w F3 H3 g3 s3 hw => ⟨p, vs, k, m, vs[m], rfl, by cases hw.toInt; rfl, s3.getAt, a1, a2, by rw [hl]; exact b1, List.getElem?_eq_getElem hm', ?_⟩⟩
  refine q _ F3 _ g3 (s3.putAt (o' := .lst (vs.eraseIdx m))) ?_
  rw [er_map]
  exact Dts.erase m (hf.gr g3)
end
end Bw

namespace Bw
open PySem PySem.Calls PyProof.Rows PySem.W
/-! list(zip(a, b)) -/
/-- the pairs told so far, each in a tuple of its own -/
structure ZG (xs ys : Array Value) (lo : Addr) (h : Heap) (as : List Addr) : Prop where
  rise : as.Pairwise (· < ·)
  above : ∀ a ∈ as, lo < a
  pairs : ∀ (j : Nat) (a : Addr), as[j]? = some a → ∃ x y, xs[j]? = some x ∧ ys[j]? = some y ∧ h.get? a = some { cls := .type "tuple", data := .seq #[x, y] }
theorem ZG.there {xs ys : Array Value} {lo : Addr} {h : Heap} {as : List Addr} (g : ZG xs ys lo h as) {a : Addr} (ha : a ∈ as) : a < h.objs.size := by
  obtain ⟨j, hj⟩ := List.mem_iff_getElem?.mp ha
  obtain ⟨_, _, _, _, e⟩ := g.pairs j a hj
  exact Heap.lt_size e
structure ZSt (h : Heap) (z TI TO i1 i2 l1 l2 S : Addr) (i : Nat) : Prop where
  ti : IsPair h TI (.ref i1) (.ref i2)
  it1 : h.IsListIter i1 l1 i
  it2 : h.IsListIter i2 l2 i
  out : (IsZip h z TI TO .none ∧ ∃ x y, IsPair h TO x y) ∨ ∃ T f oT, IsZipHeld h z TI TO T f ∧ h.get? T = some oT ∧ T ≠ z ∧ T ≠ i1 ∧ T ≠ i2 ∧ T ≠ S
theorem ZSt.keep {h h' : Heap} {z TI TO i1 i2 l1 l2 S : Addr} {i : Nat} (st : ZSt h z TI TO i1 i2 l1 l2 S i) (k : ∀ b o, b ≠ S → h.get? b = some o → h'.get? b = some o)
    (n1 : TI ≠ S) (n2 : i1 ≠ S) (n3 : i2 ≠ S) (n4 : z ≠ S) (n5 : TO ≠ S) : ZSt h' z TI TO i1 i2 l1 l2 S i where
  ti := k _ _ n1 st.ti
  it1 := st.it1.at fun o e => k _ o n2 e
  it2 := st.it2.at fun o e => k _ o n3 e
  out := by
    rcases st.out with ⟨a, x, y, b⟩ | ⟨T, f, oT, a, b, c1, c2, c3, c4⟩
    · exact .inl ⟨k _ _ n4 a, x, y, k _ _ n5 b⟩
    · exact .inr ⟨T, f, oT, k _ _ n4 a, k _ _ c4 b, c1, c2, c3, c4⟩
section
variable {prog : Program} {w : World} {A : Around} {E : Value → Shared → Prop} {s : Shared} {z TI TO i1 i2 l1 l2 S : Addr} {xs ys : Array Value}
theorem zl_item {i : Nat} {x y : Value} {Q : Option Value → Shared → Prop} (D : ZipApart z TI TO i1 i2 l1 l2) (st : ZSt s.heap z TI TO i1 i2 l1 l2 S i) (hS : S < s.heap.objs.size) (hl1 : s.heap.IsList l1 xs) (hl2 : s.heap.IsList l2 ys)
    (hx : xs[i]? = some x) (hy : ys[i]? = some y)
    (hQ : ∀ h', ZSt h' z TI TO i1 i2 l1 l2 S (i + 1) → IsPair h' s.heap.objs.size x y → h'.objs.size = s.heap.objs.size + 1 →
      (∀ c o, c ≠ z → c ≠ TO → c ≠ i1 → c ≠ i2 → s.heap.get? c = some o → h'.get? c = some o) → Q (some (.ref s.heap.objs.size)) { s with heap := h' }) : wpAny (model prog w) A (pyNext (.ref z)) Q E s := by
  have li1 : i1 < s.heap.objs.size := let ⟨_, e, _⟩ := st.it1; Heap.lt_size e
  have li2 : i2 < s.heap.objs.size := let ⟨_, e, _⟩ := st.it2; Heap.lt_size e
  rcases st.out with ⟨hz, a, b, hTO⟩ | ⟨T, f, oT, hz, hT, c1, c2, c3, c4⟩
  · have lz : z < s.heap.objs.size := Heap.lt_size hz
    exact wpAny_pyNext_zip_item D hz st.ti hTO st.it1 st.it2 hl1 hl2 hx hy fun h' hz' _ h1' h2' hp hsz hk =>
      hQ h' ⟨hk _ _ D.TIz D.TITO D.TIi1 D.TIi2 st.ti, h1', h2', .inr ⟨_, false, _, hz', hp, Nat.ne_of_gt lz, Nat.ne_of_gt li1, Nat.ne_of_gt li2, Nat.ne_of_gt hS⟩⟩ hp hsz hk
  · exact wpAny_pyNext_zip_item_held D hz hT st.ti st.it1 st.it2 hl1 hl2 hx hy fun h' hz' h1' h2' hp hsz hk =>
      hQ h' ⟨hk _ _ D.TIz D.TIi1 D.TIi2 st.ti, h1', h2', .inr ⟨T, true, oT, hz', hk _ _ c1 c2 c3 hT, c1, c2, c3, c4⟩⟩ hp hsz fun c o q1 _ q3 q4 e => hk c o q1 q3 q4 e
theorem zl_done {i : Nat} {Q : Option Value → Shared → Prop} (hh : A.handled = none) (D : ZipApart z TI TO i1 i2 l1 l2) (st : ZSt s.heap z TI TO i1 i2 l1 l2 S i) (hl1 : s.heap.IsList l1 xs) (hl2 : s.heap.IsList l2 ys)
    (hend : xs[i]? = none ∨ ys[i]? = none)
    (hQ : ∀ h', (∀ c o, c ≠ z → c ≠ TO → c ≠ i1 → c ≠ i2 → s.heap.get? c = some o → h'.get? c = some o) → Q none { s with heap := h' }) : wpAny (model prog w) A (pyNext (.ref z)) Q E s := by
  rcases st.out with ⟨hz, a, b, hTO⟩ | ⟨T, f, oT, hz, hT, c1, c2, c3, c4⟩
  · exact wpAny_pyNext_zip_end hh D hz st.ti hTO st.it1 st.it2 hl1 hl2 hend hQ
  · exact wpAny_pyNext_zip_end_held hh D hz hT st.ti st.it1 st.it2 hl1 hl2 hend fun h' hk => hQ h' fun c o q1 _ q3 q4 e => hk c o q1 q3 q4 e
end
section
variable {prog : Program} {w : World} {A : Around} {s : Shared} {R : Result → Shared → Prop} {z TI TO i1 i2 l1 l2 S : Addr} {xs ys : Array Value}
theorem zl_loop (hh : A.handled = none) (D : ZipApart z TI TO i1 i2 l1 l2) (nz : z < S) (nTI : TI < S) (nTO : TO < S) (n1 : i1 < S) (n2 : i2 < S) (nl1 : l1 < S) (nl2 : l2 < S) (hn : min xs.size ys.size ≤ sizeLine) (res : Value) {h₁ : Heap}
    (hR : ∀ h' tk acc c as, (∀ b o, b ≠ S → b ≠ z → b ≠ TO → b ≠ i1 → b ≠ i2 → h₁.get? b = some o → h'.get? b = some o) → h'.get? S = some { cls := .type "list", dict := none, data := .seq acc c, slots := #[] } → as.length = min xs.size ys.size →
      ZG xs ys S h' as → acc.toList = as.map Value.ref → R (.ok (.ret res)) { s with heap := h', toks := tk }) :
    ∀ (k i : Nat) (h : Heap) (tk c : Nat) (acc : Array Value) (as : List Addr), min xs.size ys.size - i = k → i ≤ min xs.size ys.size → ZSt h z TI TO i1 i2 l1 l2 S i → h.IsList l1 xs → h.IsList l2 ys →
      (∀ b o, b ≠ S → b ≠ z → b ≠ TO → b ≠ i1 → b ≠ i2 → h₁.get? b = some o → h.get? b = some o) →
      h.get? S = some { cls := .type "list", dict := none, data := .seq acc c, slots := #[] } → acc.toList = as.map Value.ref → as.length = i → ZG xs ys S h as →
      codeAny (model prog w) A (.builtin "list.extend.loop" ⟨[.ref S, .ref z, res], []⟩) R { s with heap := h, toks := tk } := by
  have a1 : S ≠ z := Nat.ne_of_gt nz
  have a2 : S ≠ TO := Nat.ne_of_gt nTO
  have a3 : S ≠ i1 := Nat.ne_of_gt n1
  have a4 : S ≠ i2 := Nat.ne_of_gt n2
  have gt : ∀ {b : Addr}, S < b → b ≠ S ∧ b ≠ z ∧ b ≠ TO ∧ b ≠ i1 ∧ b ≠ i2 := fun {b} hb => ⟨Nat.ne_of_gt hb, Nat.ne_of_gt (Nat.lt_trans nz hb), Nat.ne_of_gt (Nat.lt_trans nTO hb), Nat.ne_of_gt (Nat.lt_trans n1 hb), Nat.ne_of_gt (Nat.lt_trans n2 hb)⟩
  intro k
  induction k with
  | zero =>
    intro i h tk c acc as hk hi st hl1 hl2 hkeep hS hacc hal hG
    have hin : i = min xs.size ys.size := by omega
    refine codeAny_builtin PySem.F.entry_extend_loop ?_
    rw [Around.under_plainId PySem.F.plain_extend_loop _]
    show wpAny _ A.in1 (pyNext (.ref z) >>= _) _ _ _
    have hend : xs[i]? = none ∨ ys[i]? = none := by
      by_cases q : xs.size ≤ i
      · exact .inl (Array.getElem?_eq_none q)
      · exact .inr (Array.getElem?_eq_none (by omega))
    refine wpAny_bind (zl_done (s := { s with heap := h, toks := tk }) (A := A.in1) hh D st hl1 hl2 hend fun h' he => ?_)
    refine wpAny_pure (hR h' tk acc c as (fun b o q0 q1 q2 q3 q4 e => he b o q1 q2 q3 q4 (hkeep b o q0 q1 q2 q3 q4 e)) (he S _ a1 a2 a3 a4 hS) (by omega) ⟨hG.rise, hG.above, fun j a hj => ?_⟩ hacc)
    obtain ⟨x, y, e1, e2, e3⟩ := hG.pairs j a hj
    obtain ⟨_, q1, q2, q3, q4⟩ := gt (hG.above a (List.mem_of_getElem? hj))
    exact ⟨x, y, e1, e2, he a _ q1 q2 q3 q4 e3⟩
  | succ k ih =>
    intro i h tk c acc as hk hi st hl1 hl2 hkeep hS hacc hal hG
    have hlt : i < min xs.size ys.size := by omega
    have hx : xs[i]? = some xs[i] := Array.getElem?_eq_getElem (by omega)
    have hy : ys[i]? = some ys[i] := Array.getElem?_eq_getElem (by omega)
    generalize xs[i] = x at hx
    generalize ys[i] = y at hy
    have hsz : acc.size = i := by rw [← Array.length_toList, hacc, List.length_map, hal]
    refine codeAny_builtin PySem.F.entry_extend_loop ?_
    rw [Around.under_plainId PySem.F.plain_extend_loop _]
    show wpAny _ A.in1 (pyNext (.ref z) >>= _) _ _ _
    refine wpAny_bind (zl_item (s := { s with heap := h, toks := tk }) (S := S) D st (Heap.lt_size hS) hl1 hl2 hx hy fun h' st' ht hz hkp => ?_)
    dsimp only at ht hz hkp ⊢
    have hS' := hkp S _ a1 a2 a3 a4 hS
    have up : ∀ b o, b ≠ S → h'.get? b = some o → (h'.update S (Obj.mapSeq (·.push (Value.ref h.objs.size)))).get? b = some o := fun b o hb e => (Heap.get?_update_other _ _ (Ne.symm hb)).trans e
    have hSl : S < h.objs.size := Heap.lt_size hS
    show wpAny _ A.in1 (updateSeq S (·.push (Value.ref h.objs.size)) >>= _) _ _ _
    refine wpAny_bind ?_
    refine wpAny_updateSeq hS' rfl (wpAny_pure ⟨plainId_quiet PySem.F.plain_extend_loop _, ih (i + 1) _ tk _ (acc.push (Value.ref h.objs.size)) (as ++ [h.objs.size]) (by omega) hlt
      (st'.keep up (Nat.ne_of_lt nTI) (Nat.ne_of_lt n1) (Nat.ne_of_lt n2) (Nat.ne_of_lt nz) (Nat.ne_of_lt nTO)) (hl1.at fun o e => up l1 o (Nat.ne_of_lt nl1) (hkp l1 o D.l1z D.l1TO D.l1i1 D.l1i2 e)) (hl2.at fun o e => up l2 o (Nat.ne_of_lt nl2) (hkp l2 o D.l2z D.l2TO D.l2i1 D.l2i2 e))
      (fun b o q0 q1 q2 q3 q4 e => up b o q0 (hkp b o q1 q2 q3 q4 (hkeep b o q0 q1 q2 q3 q4 e))) (Heap.get?_update_self _ hS' rfl) (by rw [Array.toList_push, hacc, List.map_append]; rfl) (by rw [List.length_append, hal]; rfl) ⟨?_, ?_, ?_⟩⟩) (by rw [hsz]; omega) (by show (acc.push (Value.ref h.objs.size)).size ≤ sizeLine + 1; rw [Array.size_push, hsz]; omega)
    · refine List.pairwise_append.mpr ⟨hG.rise, List.pairwise_singleton _ _, fun a ha b hb => ?_⟩
      rw [List.mem_singleton.mp hb]
      exact hG.there ha
    · intro a ha
      rcases List.mem_append.mp ha with ha | ha
      · exact hG.above a ha
      · rw [List.mem_singleton.mp ha]; exact hSl
    · intro j b hj
      rcases Nat.lt_trichotomy j as.length with h1 | h1 | h1
      · rw [List.getElem?_append_left h1] at hj
        obtain ⟨x', y', e1, e2, e3⟩ := hG.pairs j b hj
        obtain ⟨q0, q1, q2, q3, q4⟩ := gt (hG.above b (List.mem_of_getElem? hj))
        exact ⟨x', y', e1, e2, up b _ q0 (hkp b _ q1 q2 q3 q4 e3)⟩
      · subst h1
        have hb : h.objs.size = b := by simpa using hj
        subst hb
        subst hal
        exact ⟨x, y, hx, hy, up _ _ (Nat.ne_of_gt hSl) ht⟩
      · have hnone : (as ++ [h.objs.size])[j]? = none := List.getElem?_eq_none (by rw [List.length_append, List.length_singleton]; omega)
        rw [hnone] at hj; cases hj
end
theorem zl_len : typeLookup (.type "zip") "__len__" = pure none := by rw [typeLookup_type, builtinLookup_eq_fast]; kernel_rfl
theorem zl_hin : typeLookup (.type "zip") "__length_hint__" = pure none := by rw [typeLookup_type, builtinLookup_eq_fast]; kernel_rfl
section
variable {prog : Program} {w : World} {A : Around} {E : Value → Shared → Prop} {s : Shared} {z TI TO i1 i2 l1 l2 S : Addr} {xs ys : Array Value}
theorem zl_hint {r : Addr} {Q : Bool → Shared → Prop} (hT : s.TypeIs (.ref r) "zip") (h : Q true s) : wpAny (model prog w) A (Builtin.List.listLengthHint (.ref r)) Q E s := by
  unfold Builtin.List.listLengthHint
  refine wpAny_bind (wpAny_specialOf hT zl_len ?_)
  refine wpAny_ite_split (fun hab => absurd hab (by decide)) (fun _ => ?_)
  refine wpAny_ite_split (fun hab => absurd hab (by decide)) (fun _ => ?_)
  refine wpAny_bind (wpAny_specialOf hT zl_hin ?_)
  exact wpAny_pure h
theorem zl_extend {R : Result → Shared → Prop} (hh : A.handled = none) (D : ZipApart z TI TO i1 i2 l1 l2) (st : ZSt s.heap z TI TO i1 i2 l1 l2 S 0) (hl1 : s.heap.IsList l1 xs) (hl2 : s.heap.IsList l2 ys)
    (nz : z < S) (nTI : TI < S) (nTO : TO < S) (n1 : i1 < S) (n2 : i2 < S) (nl1 : l1 < S) (nl2 : l2 < S) (hz : IsZip s.heap z TI TO .none) (res : Value) (c₀ : Nat) (hS : s.heap.get? S = some { cls := .type "list", data := .seq #[] c₀ })
    (hR : ∀ h' tk acc c as, (∀ b o, b ≠ S → b ≠ z → b ≠ TO → b ≠ i1 → b ≠ i2 → s.heap.get? b = some o → h'.get? b = some o) → h'.get? S = some { cls := .type "list", dict := none, data := .seq acc c, slots := #[] } → as.length = min xs.size ys.size →
      ZG xs ys S h' as → acc.toList = as.map Value.ref → R (.ok (.ret res)) { s with heap := h', toks := tk }) (hn : min xs.size ys.size ≤ sizeLine) :
    wpAny (model prog w) A.in1 (Builtin.List.listExtendWith (.ref S) (.ref z) res)
      (fun fin s' => match fin with | .done f => R (.ok f) s' | .again c' => c'.quiet = true ∧ codeAny (model prog w) A c' R s') (fun e s' => R (.error e) s') s := by
  have hT : s.TypeIs (.ref z) "zip" := ⟨_, hz, rfl⟩
  have key : ∀ (h : Heap) (c₁ tk : Nat), (∀ b o, b ≠ S → s.heap.get? b = some o → h.get? b = some o) →
      h.get? S = some { cls := .type "list", data := .seq #[] c₁ } → codeAny (model prog w) A (.builtin "list.extend.loop" ⟨[.ref S, .ref z, res], []⟩) R { s with heap := h, toks := tk } := by
    intro h c₁ tk hk hS₁
    exact zl_loop (s := s) (h₁ := s.heap) hh D nz nTI nTO n1 n2 nl1 nl2 hn res hR (min xs.size ys.size) 0 h tk c₁ #[] [] (Nat.sub_zero _) (Nat.zero_le _)
      (st.keep hk (Nat.ne_of_lt nTI) (Nat.ne_of_lt n1) (Nat.ne_of_lt n2) (Nat.ne_of_lt nz) (Nat.ne_of_lt nTO)) (hl1.at fun o e => hk _ o (Nat.ne_of_lt nl1) e) (hl2.at fun o e => hk _ o (Nat.ne_of_lt nl2) e)
      (fun b o hb _ _ _ _ e => hk b o hb e) hS₁ rfl rfl ⟨List.Pairwise.nil, (fun _ ha => nomatch ha), (fun j a hj => by simp at hj)⟩
  unfold Builtin.List.listExtendWith
  refine wpAny_bind (wpAny_typeOf (T := "zip") hT ?_)
  have h1 : Builtin.List.listSameRef (.ref S) (.ref z) = false := by simp [Builtin.List.listSameRef, Nat.ne_of_gt nz]
  have h2 : (Value.type "zip" == Value.type "list") = false := by decide
  have h3 : (Value.type "zip" == Value.type "tuple") = false := by decide
  simp only [h1, h2, h3, Bool.or_false, Bool.false_eq_true, if_false]
  refine wpAny_bind (wpAny_pyIter_zip hz ?_)
  refine wpAny_bind (wpAny_holding (zl_hint hT ?_))
  refine wpAny_ite_split (fun _ => ?_) (fun hab => absurd rfl hab)
  refine wpAny_bind (wpAny_rule ?_)
  refine wpAny_bind ?_
  show wpAny _ _ (updateSeq S (·.push .none) >>= fun _ => updateSeq S (·.pop)) _ _ _
  refine wpAny_bind (wpAny_updateSeq hS rfl ?_)
  have hS₂ := Heap.get?_update_self (Obj.mapSeq (·.push Value.none)) hS rfl
  refine wpAny_updateSeq (hz := by seq_fits) hS₂ rfl ?_
  have hS₃ := Heap.get?_update_self (Obj.mapSeq (·.pop)) hS₂ rfl
  refine wpAny_pure ⟨plainId_quiet PySem.F.plain_extend_loop _, key _ _ _ (fun b o hb e => ?_) hS₃⟩
  exact (Heap.get?_update_other _ _ (Ne.symm hb)).trans ((Heap.get?_update_other _ _ (Ne.symm hb)).trans e)
theorem zl_init {R : Result → Shared → Prop} (hh : A.handled = none) (D : ZipApart z TI TO i1 i2 l1 l2) (st : ZSt s.heap z TI TO i1 i2 l1 l2 S 0) (hl1 : s.heap.IsList l1 xs) (hl2 : s.heap.IsList l2 ys)
    (nz : z < S) (nTI : TI < S) (nTO : TO < S) (n1 : i1 < S) (n2 : i2 < S) (nl1 : l1 < S) (nl2 : l2 < S) (hz : IsZip s.heap z TI TO .none) (hS : s.heap.get? S = some { cls := .type "list", data := .seq #[] })
    (hR : ∀ h' tk acc c as, (∀ b o, b ≠ S → b ≠ z → b ≠ TO → b ≠ i1 → b ≠ i2 → s.heap.get? b = some o → h'.get? b = some o) → h'.get? S = some { cls := .type "list", dict := none, data := .seq acc c, slots := #[] } → as.length = min xs.size ys.size →
      ZG xs ys S h' as → acc.toList = as.map Value.ref → R (.ok (.ret .none)) { s with heap := h', toks := tk }) (hn : min xs.size ys.size ≤ sizeLine) :
    wpAny (model prog w) A.in1 (Builtin.«list.__init__» ⟨[.ref S, .ref z], []⟩)
      (fun fin s' => match fin with | .done f => R (.ok f) s' | .again c' => c'.quiet = true ∧ codeAny (model prog w) A c' R s') (fun e s' => R (.error e) s') s := by
  show wpAny _ _ (do let old ← Builtin.List.listItems (.ref S); Builtin.List.listUpdate (.ref S) (fun _ => #[]); letGo old.toList.reverse; Builtin.List.listExtendWith (.ref S) (.ref z) .none) _ _ s
  refine wpAny_bind ?_
  unfold Builtin.List.listItems
  refine wpAny_bind (wpAny_seqItems hS rfl (wpAny_pure ?_))
  show wpAny _ _ (updateSeq S (fun _ => #[]) >>= fun _ => letGo (#[] : Array Value).toList.reverse >>= fun _ => Builtin.List.listExtendWith (.ref S) (.ref z) .none) _ _ s
  refine wpAny_bind (wpAny_updateSeq hS rfl ?_)
  have hS₂ := Heap.get?_update_self (Obj.mapSeq (fun _ => (#[] : Array Value))) hS rfl
  have oth : ∀ b o, b ≠ S → s.heap.get? b = some o → (s.heap.update S (Obj.mapSeq (fun _ => (#[] : Array Value)))).get? b = some o :=
    fun b o hb e => (Heap.get?_update_other _ _ (Ne.symm hb)).trans e
  refine wpAny_bind (wpAny_letGo ?_)
  refine zl_extend hh D (st.keep oth (Nat.ne_of_lt nTI) (Nat.ne_of_lt n1) (Nat.ne_of_lt n2) (Nat.ne_of_lt nz) (Nat.ne_of_lt nTO)) (hl1.at fun o e => oth _ o (Nat.ne_of_lt nl1) e) (hl2.at fun o e => oth _ o (Nat.ne_of_lt nl2) e)
    nz nTI nTO n1 n2 nl1 nl2 (oth _ _ (Nat.ne_of_lt nz) hz) .none _ hS₂ (fun h' tk acc c as hk hS' hl hG hacc => ?_) hn
  exact hR h' tk acc c as (fun b o q0 q1 q2 q3 q4 e => hk b o q0 q1 q2 q3 q4 (oth b o q0 e)) hS' hl hG hacc
theorem zl_call {Q : Value → Shared → Prop} {a b : Value} (hh : A.handled = none) (D : ZipApart z TI TO i1 i2 l1 l2) (hz : IsZip s.heap z TI TO .none) (hTI : IsPair s.heap TI (.ref i1) (.ref i2)) (hTO : IsPair s.heap TO a b) (h1 : s.heap.IsListIter i1 l1 0) (h2 : s.heap.IsListIter i2 l2 0)
    (hl1 : s.heap.IsList l1 xs) (hl2 : s.heap.IsList l2 ys) (hn : min xs.size ys.size ≤ sizeLine)
    (hQ : ∀ h' tk acc c as, (∀ b o, b ≠ z → b ≠ TO → b ≠ i1 → b ≠ i2 → s.heap.get? b = some o → h'.get? b = some o) → h'.get? s.heap.objs.size = some { cls := .type "list", dict := none, data := .seq acc c, slots := #[] } → as.length = min xs.size ys.size →
      ZG xs ys s.heap.objs.size h' as → acc.toList = as.map Value.ref → Q (.ref s.heap.objs.size) { s with heap := h', toks := tk }) :
    wpAny (model prog w) A (call (.type "list") [.ref z]) Q E s := by
  refine callType_codes (Q₁ := fun obj s₁ => obj = .ref s.heap.objs.size ∧ s₁ = { s with heap := s.heap.push { cls := .type "list", data := .seq #[] } }) PySem.F.called_list (PySem.F.typeCall_list_1 _) PySem.F.entry_list_init
    (code_list_new _ ⟨rfl, rfl⟩) fun obj s₁ h₁ => ?_
  obtain ⟨rfl, rfl⟩ := h₁
  have hS : (s.heap.push { cls := .type "list", data := .seq #[] }).get? s.heap.objs.size = some { cls := .type "list", data := .seq #[] } := Heap.get?_push_size _ rfl
  have pk : ∀ b o, s.heap.get? b = some o → (s.heap.push { cls := .type "list", data := .seq #[] }).get? b = some o := fun b o e => Heap.get?_push_of_some _ e
  have li1 : i1 < s.heap.objs.size := let ⟨_, e, _⟩ := h1; Heap.lt_size e
  have li2 : i2 < s.heap.objs.size := let ⟨_, e, _⟩ := h2; Heap.lt_size e
  have ll1 : l1 < s.heap.objs.size := let ⟨_, e, _⟩ := hl1; Heap.lt_size e
  have ll2 : l2 < s.heap.objs.size := let ⟨_, e, _⟩ := hl2; Heap.lt_size e
  refine ⟨⟨_, hS, rfl⟩, PySem.F.args_list_init_2 _ _, zl_init (A := A.in1) hh D ⟨pk _ _ hTI, h1.at fun o e => pk _ o e, h2.at fun o e => pk _ o e, .inl ⟨pk _ _ hz, _, _, pk _ _ hTO⟩⟩ (hl1.at fun o e => pk _ o e) (hl2.at fun o e => pk _ o e)
    (Heap.lt_size hz) (Heap.lt_size hTI) (Heap.lt_size hTO) li1 li2 ll1 ll2 (pk _ _ hz) hS (fun h' tk acc c as hk hS' hl hG hacc => ?_) hn⟩
  exact ⟨rfl, hQ h' tk acc c as (fun b o q1 q2 q3 q4 e => hk b o (Nat.ne_of_lt (Heap.lt_size e)) q1 q2 q3 q4 (Heap.get?_push_of_some _ e)) hS' hl hG hacc⟩
end
end Bw
namespace Bw
open PySem L2
/-! the laid pairs -/
def layT : Hp → List (V × V) → List Addr → Hp
  | H, p :: ps, t :: ts => layT (upd H t (.tup [p.1, p.2])) ps ts
  | H, _, _ => H
def freT : Hp → List (V × V) → List Addr → Prop
  | H, p :: ps, t :: ts => H t = none ∧ freT (upd H t (.tup [p.1, p.2])) ps ts
  | _, [], [] => True
  | _, _, _ => False
theorem layT_ne : ∀ (ts : List Addr) (ps : List (V × V)) (H : Hp) (b : Addr), b ∉ ts → layT H ps ts b = H b
  | [], [], _, _, _ => rfl
  | [], _ :: _, _, _, _ => rfl
  | _ :: _, [], _, _, _ => rfl
  | t :: ts, p :: ps, H, b, h => by
    show layT (upd H t _) ps ts b = _
    have n : b ≠ t := fun q => h (by rw [q]; exact List.mem_cons_self)
    rw [layT_ne ts ps _ b fun q => h (List.mem_cons_of_mem _ q), upd_ne n]
theorem freT_of : ∀ (ts : List Addr) (ps : List (V × V)) (H : Hp), ts.length = ps.length → ts.Nodup → (∀ t ∈ ts, H t = none) → freT H ps ts
  | [], [], _, _, _, _ => trivial
  | [], _ :: _, _, h, _, _ => by simp at h
  | _ :: _, [], _, h, _, _ => by simp at h
  | t :: ts, p :: ps, H, hl, nd, hn => by
    rw [List.nodup_cons] at nd
    refine ⟨hn t List.mem_cons_self, freT_of ts ps _ (by simpa using hl) nd.2 fun u hu => ?_⟩
    have n : u ≠ t := fun q => nd.1 (by rw [← q]; exact hu)
    rw [upd_ne n]
    exact hn u (List.mem_cons_of_mem _ hu)
theorem layT_at : ∀ (ts : List Addr) (ps : List (V × V)) (H : Hp) (j : Nat) (t : Addr) (p : V × V), ts.Nodup → ts[j]? = some t → ps[j]? = some p → layT H ps ts t = some (.tup [p.1, p.2])
  | [], _, _, _, _, _, _, h, _ => by simp at h
  | _ :: _, [], _, _, _, _, _, _, h => by simp at h
  | u :: ts, q :: ps, H, j, t, p, nd, h1, h2 => by
    rw [List.nodup_cons] at nd
    show layT (upd H u _) ps ts t = _
    cases j with
    | zero =>
      simp only [List.getElem?_cons_zero, Option.some.injEq] at h1 h2
      subst h1; subst h2
      rw [layT_ne ts ps _ _ nd.1, upd_same]
    | succ j => exact layT_at ts ps _ j t p nd.2 (by simpa using h1) (by simpa using h2)
def tListZip (K : PySem.W.Frag) (ta : TA) : TE := fun σ H Q => ta σ H fun vs H1 => ∃ a b xs ys, vs = [.ref a, .ref b] ∧ SqL K H1 a xs ∧ SqL K H1 b ys ∧
  ∀ (ts : List Addr) (l : Addr), freT H1 (xs.zip ys) ts → layT H1 (xs.zip ys) ts l = none → Q (.ref l) (upd (layT H1 (xs.zip ys) ts) l (.lst (ts.map V.ref)))
/-- many things laid at once -/
theorem inv_many {X : Cx} {pins : List (Addr × Obj)} {σ : St} {H H' : Hp} {s : Shared} {h' : Heap} {t' : Nat} (I : Inv X pins σ H s) (k : ∀ b u, s.heap.get? b = some u → h'.get? b = some u)
    (same : ∀ b, b < s.heap.objs.size → H' b = H b) (new : ∀ b o, s.heap.objs.size ≤ b → H' b = some o → ObjOk X.prog X.w H' h' b o) : Inv X pins σ H' { s with heap := h', toks := t' } := by
  refine I.un ⟨fun b o e _ _ _ => k b o e, fun b o e _ _ _ => ⟨o.slots, k b o e⟩, fun b o e n _ => (same b (Heap.lt_size e)).trans n, fun b o e _ => ⟨o, k b o e⟩, fun b xs e => (same b (I.hok.lt e)).trans e, fun b o u e => (same b (I.hok.lt e)).trans e, fun b ps e => ⟨#[], by rw [same b (I.hok.lt e), e]; simp⟩⟩ fun b o e => ?_
  by_cases q : b < s.heap.objs.size
  · rw [same b q] at e
    exact (I.hok b o e).stay (fun c u _ z => k c u z) (fun c z => (same c (I.hok.lt z)).trans z) fun c xs z => (same c (I.hok.lt z)).trans z
  · exact new b o (Nat.le_of_not_lt q) e
theorem vals_refs : ∀ as : List Addr, Vals (as.map V.ref) (as.map Value.ref)
  | [] => .nil
  | _ :: as => .cons rfl (vals_refs as)
section
variable {X : Cx} {e e2 : Expr} {ta : TA} {p p0 pos pos0 : Pos}
theorem pe_listzip (hg0 : Gl X "list") (hm0 : X.mg "list" = none) (hg : Gl X "zip") (hm : X.mg "zip" = none) (ha : PA X [e, e2] ta) (hc : X.calm = true)
    (hs : starEach [e, e2] X.env = (false, eval e X.env) :: starEach [e2] X.env := by rfl) (hpl : (backTo pos (starEach [e2] X.env)).any (·.1) = false := by rfl) :
    PE X (.Call (.Name "list" p0) [.Call (.Name "zip" p) [e, e2] [] pos] [] pos0) (tListZip X.K ta) := by
  refine ⟨fun pins s σ H Q I h => ?_⟩
  refine wpAny_Call_Name_kw (ld_blt I hg0 hm0 PyProof.Rows.boot_list ?_)
  refine PyProof.Rows.callWith_type1 (Calls.spliced_cons ?_) rfl rfl
  refine PyProof.Rows.Call_ (ld_blt I hg hm PyProof.Rows.boot_zip (PyProof.Rows.callWith_type1 (thn (ha.run pos pins s σ H _ I h) fun us s1 ⟨vs, H1, I1, r1, q1⟩ => ?_) hs hpl))
  obtain ⟨a, b, xs, ys, ex, hqx, hqy, q⟩ := q1
  subst ex
  cases r1 with
  | cons r rr =>
    cases rr with
    | cons r' rr =>
      cases rr
      cases r
      cases r'
      obtain ⟨its, rv, p1, z1⟩ := I1.list hqx
      obtain ⟨its2, rv2, p2, z2⟩ := I1.list hqy
      have la : a < s1.heap.objs.size := p1.lt
      have lb : b < s1.heap.objs.size := p2.lt
      have e1 := rv.length
      have e2 := rv2.length
      refine call_zip_2 p1.isList p2.isList fun h' hz hTI hTO h1 h2 hsz hk => ?_
      refine Calls.spliced_nil ?_
      refine zl_call (s := { s1 with heap := h' }) (xs := its.toArray) (ys := its2.toArray) (I.ok.hd hc) (PySem.W.ktu_apart s1.heap.objs.size a b la lb) hz hTI hTO h1 h2 (p1.isList.at fun o x => hk _ o x) (p2.isList.at fun o x => hk _ o x) (by simp only [List.size_toArray]; omega) fun h'' tk acc c as hk2 hl hlen hG hacc => ?_
      dsimp only at hl hlen hG ⊢
      have keep : ∀ b o, s1.heap.get? b = some o → h''.get? b = some o := fun b o x => by
        have bl : b < s1.heap.objs.size := Heap.lt_size x
        have up : ∀ k : Nat, b ≠ s1.heap.objs.size + k := fun k => Nat.ne_of_lt (Nat.lt_of_lt_of_le bl (Nat.le_add_right _ _))
        exact hk2 b o (up 4) (up 3) (up 0) (up 1) (hk b o x)
      have sz' : s1.heap.objs.size ≤ h'.objs.size := by rw [hsz]; exact Nat.le_add_right _ _
      have nd : as.Nodup := hG.rise.imp fun hab => Nat.ne_of_lt hab
      have hab : ∀ t ∈ as, s1.heap.objs.size + 5 < t := fun t ht => hsz ▸ hG.above t ht
      have zl : (xs.zip ys).length = as.length := by rw [List.length_zip, hlen]; simp only [List.size_toArray]; omega
      have nl : h'.objs.size ∉ as := fun hm => Nat.lt_irrefl _ (hG.above _ hm)
      have fr : ∀ t ∈ as, H1 t = none := fun t ht => I1.hok.fresh (Nat.le_of_lt (Nat.lt_of_le_of_lt (Nat.le_add_right _ 5) (hab t ht)))
      have ln : layT H1 (xs.zip ys) as h'.objs.size = none := by rw [layT_ne _ _ _ _ nl]; exact I1.hok.fresh sz'
      have I2 : Inv X pins σ (upd (layT H1 (xs.zip ys) as) h'.objs.size (.lst (as.map V.ref))) { s1 with heap := h'', toks := tk } := by
        refine inv_many I1 keep (fun b hb => ?_) fun b o hb ho => ?_
        · rw [upd_ne (Nat.ne_of_lt (Nat.lt_of_lt_of_le hb sz')), layT_ne _ _ _ _ fun hm => Nat.lt_irrefl _ (Nat.lt_trans (Nat.lt_of_lt_of_le hb (Nat.le_add_right _ 5)) (hab b hm))]
        · by_cases q1 : b = h'.objs.size
          · subst q1
            rw [upd_same] at ho
            cases ho
            refine ⟨by rw [List.length_map, ← zl, List.length_zip]; omega, acc.toList, c, ?_, by rw [Array.toArray_toList]; exact hl⟩
            rw [hacc]
            exact vals_refs as
          · rw [upd_ne q1] at ho
            by_cases q2 : b ∈ as
            · obtain ⟨j, hj⟩ := List.mem_iff_getElem?.mp q2
              have hjl : j < as.length := (List.getElem?_eq_some_iff.mp hj).1
              have hjz : (xs.zip ys)[j]? = some (xs.zip ys)[j] := List.getElem?_eq_getElem (by omega)
              have hat := layT_at as (xs.zip ys) H1 j b _ nd hj hjz
              rw [hat] at ho
              cases ho
              obtain ⟨x, y, x1, y1, hT⟩ := hG.pairs j b hj
              have hx : xs[j]? = some (xs.zip ys)[j].1 := by
                rw [List.getElem_zip]; exact List.getElem?_eq_getElem _
              have hy : ys[j]? = some (xs.zip ys)[j].2 := by
                rw [List.getElem_zip]; exact List.getElem?_eq_getElem _
              obtain ⟨u, hu1, ru⟩ := rv.get hx
              obtain ⟨u2, hu2, ru2⟩ := rv2.get hy
              have x1' : its[j]? = some x := by simpa using x1
              have y1' : its2[j]? = some y := by simpa using y1
              rw [hu1] at x1'; cases x1'
              rw [hu2] at y1'; cases y1'
              exact ⟨by show 2 ≤ sizeLine; decide, [_, _], .cons ru (.cons ru2 .nil), ⟨_, hT, rfl, _, rfl⟩⟩
            · rw [layT_ne _ _ _ _ q2, I1.hok.fresh hb] at ho
              cases ho
      exact ⟨.ref h'.objs.size, _, I2, rfl, q as _ (freT_of _ _ _ zl.symm nd fr) ln⟩
end
section
variable {K : PySem.W.Frag} {σ : St} {F : Hp} {cs cs1 : Cs} {as : TA}
theorem lay_sta : ∀ (vs ws : List V) (ds es : List PyData) (ts : List Addr) (F H : Hp), Sta F cs H → freT H (vs.zip ws) ts → Dts K F vs ds → Dts K F ws es → ∃ F', Gr F F' ∧ Sta F' cs (layT H (vs.zip ws) ts) ∧ Dts K F' (ts.map V.ref) (List.zipWith (fun d e => PyData.tuple [d, e]) ds es)
  | [], _, _, _, ts, F, H, s, f, h1, h2 => by
    cases h1
    cases ts with
    | nil => exact ⟨F, Gr.rfl, s, .nil⟩
    | cons t ts => exact absurd f id
  | _ :: _, [], _, _, ts, F, H, s, f, h1, h2 => by
    cases h1
    cases h2
    cases ts with
    | nil => exact ⟨F, Gr.rfl, s, .nil⟩
    | cons t ts => exact absurd f id
  | v :: vs, w :: ws, _, _, ts, F, H, s, f, h1, h2 => by
    cases h1 with
    | cons a1 b1 =>
      cases h2 with
      | cons a2 b2 =>
        cases ts with
        | nil => exact absurd f id
        | cons t ts =>
          obtain ⟨nt, f⟩ := f
          have g0 : Gr F (upd F t (.tup [v, w])) := Gr.new (s.fr.back nt)
          obtain ⟨F', g, s', d⟩ := lay_sta vs ws _ _ ts _ _ (s.lay nt) f (b1.gr g0) (b2.gr g0)
          exact ⟨F', g0.tr g, s', .cons (.tup (.inl (.inl (g _ _ upd_same))) (.cons (a1.gr (g0.tr g)) (.cons (a2.gr (g0.tr g)) .nil))) d⟩
theorem c_listzip {α β : Type} {en : α → PyData} {em : β → PyData} {xs : List α} {ys : List β} (h : EvDs K as σ F cs [eL en xs, eL em ys] cs1) : EvC K (tListZip K as) σ F cs ((xs.zip ys).map (eT2 en em)) cs1 := fun F1 H1 g1 s Q q =>
  h F1 H1 g1 s _ fun v F2 H2 g2 s2 h2 => by
    obtain ⟨v, w, rfl, k1, k2⟩ := h2.two
    obtain ⟨p, vs, rfl, hs, hd⟩ := k1.toLst
    obtain ⟨p', ws, rfl, hs', hd'⟩ := k2.toLst
    refine ⟨p, p', vs, ws, rfl, gr_L s2.fr hs, gr_L s2.fr hs', fun ts l f nl => ?_⟩
    obtain ⟨F3, g3, s3, d3⟩ := lay_sta vs ws _ _ ts F2 H2 s2 f hd hd'
    rw [zip_map] at d3
    exact q l _ F3 _ (g2.tr g3) (s3.cell nl) d3
end
end Bw

namespace Bw
open PySem L2
/-! sorted, of ints -/
def insI (x : Int) : List Int → List Int
  | [] => [x]
  | y :: ys => if x ≤ y then x :: y :: ys else y :: insI x ys
def srtI : List Int → List Int
  | [] => []
  | x :: xs => insI x (srtI xs)
theorem insI_perm (x : Int) : ∀ ys, (insI x ys).Perm (x :: ys)
  | [] => List.Perm.refl _
  | y :: ys => by
    unfold insI
    split
    · exact List.Perm.refl _
    · exact ((insI_perm x ys).cons y).trans (List.Perm.swap x y ys)
theorem srtI_perm : ∀ xs, (srtI xs).Perm xs
  | [] => List.Perm.refl _
  | x :: xs => (insI_perm x _).trans ((srtI_perm xs).cons x)
theorem insI_sort (x : Int) : ∀ ys, ys.Pairwise (· ≤ ·) → (insI x ys).Pairwise (· ≤ ·)
  | [], _ => List.pairwise_singleton _ _
  | y :: ys, h => by
    rw [List.pairwise_cons] at h
    unfold insI
    split
    · rename_i q
      rw [List.pairwise_cons]
      exact ⟨fun z hz => by rcases List.mem_cons.mp hz with rfl | hz; (exact q); (exact Int.le_trans q (h.1 z hz)), List.pairwise_cons.mpr h⟩
    · rename_i q
      rw [List.pairwise_cons]
      refine ⟨fun z hz => ?_, insI_sort x ys h.2⟩
      rcases List.mem_cons.mp ((insI_perm x ys).mem_iff.mp hz) with rfl | hz
      · omega
      · exact h.1 z hz
theorem srtI_sort : ∀ xs, (srtI xs).Pairwise (· ≤ ·)
  | [] => List.Pairwise.nil
  | x :: xs => insI_sort x _ (srtI_sort xs)
theorem sort_uniq : ∀ (xs ys : List Int), xs.Perm ys → xs.Pairwise (· ≤ ·) → ys.Pairwise (· ≤ ·) → xs = ys
  | [], ys, p, _, _ => (List.Perm.nil_eq p)
  | x :: xs, [], p, _, _ => by have := p.length_eq; simp at this
  | x :: xs, y :: ys, p, h1, h2 => by
    rw [List.pairwise_cons] at h1 h2
    have e : x = y := by
      have hx : x ∈ y :: ys := p.mem_iff.mp List.mem_cons_self
      have hy : y ∈ x :: xs := p.mem_iff.mpr List.mem_cons_self
      rcases List.mem_cons.mp hx with e | hx
      · exact e
      · rcases List.mem_cons.mp hy with e | hy
        · exact e.symm
        · have := h1.1 y hy; have := h2.1 x hx; omega
    subst e
    rw [sort_uniq xs ys (List.Perm.cons_inv p) h1.2 h2.2]
section
variable {K : PySem.W.Frag} {σ : St} {F : Hp} {cs cs1 : Cs} {as : TA}
theorem c_sortedI {xs : List Int} (h : EvDs K as σ F cs [eL eI xs] cs1) : EvC K (tCB (rSortedI K) as) σ F cs ((srtI xs).map eI) cs1 := fun F1 H1 g1 s Q q =>
  h F1 H1 g1 s _ fun v F2 H2 g2 s2 h2 => by
    obtain ⟨v, rfl, k1⟩ := h2.one
    obtain ⟨p, vs, rfl, hs, hd⟩ := k1.toLst
    have := hd.ints
    subst this
    refine ⟨p, xs, rfl, gr_L s2.fr hs, fun ns' l pr so nl => ?_⟩
    rw [sort_uniq ns' (srtI xs) (pr.trans (srtI_perm xs).symm) so (srtI_sort xs)]
    exact q l _ F2 _ g2 (s2.cell nl) (Dts.of_ints _)
theorem d_sortedI {xs : List Int} (h : EvDs K as σ F cs [eL eI xs] cs1) : EvD K (tCB (rSortedI K) as) σ F cs (eL eI (srtI xs)) cs1 := (c_sortedI h).dd
/-- max, min of a list -/
def maxL : List Int → Option Int
  | [] => none
  | x :: xs => some (xs.foldl max x)
def minL : List Int → Option Int
  | [] => none
  | x :: xs => some (xs.foldl min x)
theorem foldl_max : ∀ (xs : List Int) (x : Int), (xs.foldl max x = x ∨ xs.foldl max x ∈ xs) ∧ x ≤ xs.foldl max x ∧ ∀ y ∈ xs, y ≤ xs.foldl max x
  | [], x => ⟨.inl rfl, Int.le_refl _, fun y hy => by cases hy⟩
  | z :: xs, x => by
    obtain ⟨h1, h2, h3⟩ := foldl_max xs (max x z)
    rw [List.foldl_cons]
    refine ⟨?_, by omega, fun y hy => ?_⟩
    · rcases h1 with h1 | h1
      · rw [h1]
        by_cases q : z ≤ x
        · left; omega
        · right; have : max x z = z := by omega
          rw [this]; exact List.mem_cons_self
      · exact .inr (List.mem_cons_of_mem _ h1)
    · rcases List.mem_cons.mp hy with rfl | hy
      · omega
      · exact h3 y hy
theorem foldl_min : ∀ (xs : List Int) (x : Int), (xs.foldl min x = x ∨ xs.foldl min x ∈ xs) ∧ xs.foldl min x ≤ x ∧ ∀ y ∈ xs, xs.foldl min x ≤ y
  | [], x => ⟨.inl rfl, Int.le_refl _, fun y hy => by cases hy⟩
  | z :: xs, x => by
    obtain ⟨h1, h2, h3⟩ := foldl_min xs (min x z)
    rw [List.foldl_cons]
    refine ⟨?_, by omega, fun y hy => ?_⟩
    · rcases h1 with h1 | h1
      · rw [h1]
        by_cases q : x ≤ z
        · left; omega
        · right; have : min x z = z := by omega
          rw [this]; exact List.mem_cons_self
      · exact .inr (List.mem_cons_of_mem _ h1)
    · rcases List.mem_cons.mp hy with rfl | hy
      · omega
      · exact h3 y hy
theorem d_maxL {xs : List Int} {m : Int} (h : EvDs K as σ F cs [eL eI xs] cs1) (hm : maxL xs = some m) : EvD K (tCB (rMax K) as) σ F cs (.int m) cs1 := fun F1 H1 g1 s Q q =>
  h F1 H1 g1 s _ fun v F2 H2 g2 s2 h2 => by
    obtain ⟨v, rfl, k1⟩ := h2.one
    obtain ⟨p, vs, rfl, hs, hd⟩ := k1.toLst
    have := hd.ints
    subst this
    cases xs with
    | nil => cases hm
    | cons x xs =>
      cases hm
      obtain ⟨a1, a2, a3⟩ := foldl_max xs x
      refine ⟨p, x :: xs, rfl, gr_L s2.fr hs, by simp, fun m hm hle => ?_⟩
      have e : m = xs.foldl max x := by
        have b1 : xs.foldl max x ≤ m := by
          rcases a1 with e | e
          · rw [e]; exact hle x List.mem_cons_self
          · exact hle _ (List.mem_cons_of_mem _ e)
        have b2 : m ≤ xs.foldl max x := by
          rcases List.mem_cons.mp hm with rfl | hm
          · exact a2
          · exact a3 m hm
        omega
      rw [e]
      exact q _ F2 H2 g2 s2 (.int _)
theorem d_minL {xs : List Int} {m : Int} (h : EvDs K as σ F cs [eL eI xs] cs1) (hm : minL xs = some m) : EvD K (tCB (rMin K) as) σ F cs (.int m) cs1 := fun F1 H1 g1 s Q q =>
  h F1 H1 g1 s _ fun v F2 H2 g2 s2 h2 => by
    obtain ⟨v, rfl, k1⟩ := h2.one
    obtain ⟨p, vs, rfl, hs, hd⟩ := k1.toLst
    have := hd.ints
    subst this
    cases xs with
    | nil => cases hm
    | cons x xs =>
      cases hm
      obtain ⟨a1, a2, a3⟩ := foldl_min xs x
      refine ⟨p, x :: xs, rfl, gr_L s2.fr hs, by simp, fun m hm hle => ?_⟩
      have e : m = xs.foldl min x := by
        have b1 : m ≤ xs.foldl min x := by
          rcases a1 with e | e
          · rw [e]; exact hle x List.mem_cons_self
          · exact hle _ (List.mem_cons_of_mem _ e)
        have b2 : xs.foldl min x ≤ m := by
          rcases List.mem_cons.mp hm with rfl | hm
          · exact a2
          · exact a3 m hm
        omega
      rw [e]
      exact q _ F2 H2 g2 s2 (.int _)
end
end Bw
namespace Bw
open PySem L2
section
variable {K : PySem.W.Frag} {σ : St} {F : Hp} {cs cs1 cs2 : Cs} {ta tb : TE} {b : Int}
theorem d_ixTH {α : Type} {e : α → PyData} {xs : List α} {z : α} (ha : EvD K ta σ F cs (.tuple (xs.map e)) cs1) (hb : EvD K tb σ F cs1 (.int b) cs2) (hz : atI xs b = some z) : EvD K (tOp (rIxT K) ta tb) σ F cs (e z) cs2 :=
  d_ixT ha hb (by rw [atI_map, hz]; rfl)
theorem dts_D {α : Type} {e : α → PyData} {xs : List α} {us : List V} (h : Dts K F us (xs.map e)) : Dts K F us ((xs.map e).map eD) := by
  have : (xs.map e).map eD = xs.map e := by rw [List.map_map]; rfl
  rw [this]; exact h
end
end Bw
namespace Bw
open PySem L2
section
variable {K : PySem.W.Frag} {F : Hp}
def tup2M {α : Type} : List α → Option (α × α)
  | [a, b] => some (a, b)
  | _ => none
def tup3M {α : Type} : List α → Option (α × α × α)
  | [a, b, c] => some (a, b, c)
  | _ => none
theorem tup2M_eq {α : Type} {xs : List α} {p : α × α} (h : tup2M xs = some p) : xs = [p.1, p.2] := by
  unfold tup2M at h; split at h
  · cases h; rfl
  · cases h
theorem tup3M_eq {α : Type} {xs : List α} {p : α × α × α} (h : tup3M xs = some p) : xs = [p.1, p.2.1, p.2.2] := by
  unfold tup3M at h; split at h
  · cases h; rfl
  · cases h
theorem ul2 {v : V} {d1 d2 : PyData} (h : Dt K F v (.list [d1, d2])) : ∃ p v1 v2, v = .ref p ∧ SqL K F p [v1, v2] ∧ Dt K F v1 d1 ∧ Dt K F v2 d2 := by
  obtain ⟨p, vs, rfl, h1, h2⟩ := h.toLst
  obtain ⟨v1, v2, rfl, k1, k2⟩ := h2.two
  exact ⟨p, v1, v2, rfl, h1, k1, k2⟩
theorem ul3 {v : V} {d1 d2 d3 : PyData} (h : Dt K F v (.list [d1, d2, d3])) : ∃ p v1 v2 v3, v = .ref p ∧ SqL K F p [v1, v2, v3] ∧ Dt K F v1 d1 ∧ Dt K F v2 d2 ∧ Dt K F v3 d3 := by
  obtain ⟨p, vs, rfl, h1, h2⟩ := h.toLst
  cases h2 with
  | cons a1 h2 =>
    obtain ⟨v2, v3, rfl, k2, k3⟩ := h2.two
    exact ⟨p, _, v2, v3, rfl, h1, a1, k2, k3⟩
end
end Bw

namespace Bw
open PySem L2
/-! exceptions that are kept -/
/-- an exception of the class at C, its dict at d (none: it has none), at a -/
def ExK (C : Addr) (d : Option Addr) (a : Addr) : HO := .ext fun h => ∃ (oe : Obj) (vs : Array Value), h.get? a = some oe ∧ oe.cls = .ref C ∧ oe.dict = d ∧ oe.data = .fields vs
def DOk (H : Hp) (d : Option Addr) : Prop := match d with
  | none => True
  | some dd => ∃ fs, H dd = some (.xd fs)
theorem exK_ok {P : Program} {w : World} {H : Hp} {h : Heap} {a C : Addr} {dd : Option Addr} {oe : Obj} {vs : Array Value} (e : h.get? a = some oe) (c : oe.cls = .ref C) (d : oe.dict = dd) (hd : oe.data = .fields vs) : ObjOk P w H h a (ExK C dd a) :=
  ⟨⟨oe, vs, e, c, d, hd⟩, ⟨oe, e⟩, fun _ _ ⟨o, v, q, r⟩ k => ⟨o, v, k o q, r⟩⟩
/-- what is known of an exception class -/
def ExC (K : PySem.W.Frag) (C : Addr) : Bool := (PySem.W.clsIn K C).isSome && PySem.W.findIn K (.ref C) "__getattribute__" == some (some (.builtin "BaseException.__getattribute__")) && (PySem.W.findIn K (.ref C) "__getattr__").isSome &&
  PySem.W.subIn K (.ref C) (.type "BaseException") == some true && PySem.W.findIn K (.ref C) "__class__" == some (some (.builtin "object.__class__")) && PySem.W.specialIn K (.builtin "object.__class__") "__get__" == some (some (.builtin "getset_descriptor.__get__")) &&
  PySem.W.takesIn K (.builtin "object.__class__") == some true && PySem.W.mroIn K C (.type "object") == some true
theorem kit_ex {K : PySem.W.Frag} {C x : Addr} {ox : Obj} {od : Option Obj} (h : ExC K C = true) : PySem.W.KitX K (.ref x) (.ref C) (fun h => PySem.W.InstAt h x ox C od) := by
  unfold ExC at h
  simp only [Bool.and_eq_true, beq_iff_eq] at h
  obtain ⟨⟨⟨⟨⟨⟨⟨h1, h2⟩, h3⟩, h4⟩, h5⟩, h6⟩, h7⟩, h8⟩ := h
  obtain ⟨gt, h3⟩ := Option.isSome_iff_exists.mp h3
  exact PySem.W.kitx_exc h1 h2 h3 h4 h5 h6 h7 h8
def rIsiE (K : PySem.W.Frag) : List V → Hp → VK → Prop := fun xs H Q => ∃ (a C : Addr) (d : Option Addr) (c : V) (u : Value) (b : Bool), xs = [.ref a, c] ∧ ClsV c u ∧ H a = some (ExK C d a) ∧ DOk H d ∧ ExC K C = true ∧ PySem.W.kitOne K (.ref C) u = some b ∧ Q (.bl b) H
def rIsiTE (K : PySem.W.Frag) : List V → Hp → VK → Prop := fun xs H Q => ∃ (a C : Addr) (d : Option Addr) (tp : Addr) (cs : List V) (us : List Value) (b : Bool), xs = [.ref a, .ref tp] ∧ H tp = some (.tup cs) ∧ Paired ClsV cs us ∧ H a = some (ExK C d a) ∧ DOk H d ∧ ExC K C = true ∧ PySem.W.kitAny K (.ref C) us = some b ∧ Q (.bl b) H
section
variable {X : Cx}
theorem exK_at {pins : List (Addr × Obj)} {σ : St} {H : Hp} {s : Shared} {a C : Addr} {d : Option Addr} (I : Inv X pins σ H s) (h : H a = some (ExK C d a)) (hx : DOk H d) : ∃ oe od, PySem.W.InstAt s.heap a oe C od := by
  have x : ObjOk X.prog X.w H s.heap a (.ext fun h => ∃ (oe : Obj) (vs : Array Value), h.get? a = some oe ∧ oe.cls = .ref C ∧ oe.dict = d ∧ oe.data = .fields vs) := I.hok a _ h
  obtain ⟨⟨oe, vs, e, c, dd, hd⟩, _⟩ := x
  obtain ⟨oc, od, dt, sl⟩ := oe
  dsimp only at c dd hd
  subst c dd hd
  cases od with
  | none => exact ⟨_, none, e, rfl, rfl, trivial⟩
  | some z =>
    obtain ⟨fs, hz⟩ := hx
    obtain ⟨mA, hns, hr⟩ := (show ObjOk X.prog X.w H s.heap z (.xd fs) from I.hok z _ hz)
    obtain ⟨oz, ho, hl⟩ := lookIn_ns hns
    exact ⟨_, some oz, e, rfl, rfl, ho⟩
theorem cr_isiE : CallR X (.builtin "isinstance") (rIsiE X.K) := by
  intro pins s σ H xs us Q I r h
  obtain ⟨a, C, d, c, u, b, rfl, k, ha, hd, hC, e, q⟩ := h
  obtain ⟨u1, u2, rfl, r1, r2⟩ := vals2 r
  have e2 := k.eq r2
  subst e2
  cases (show u1 = Value.ref a from r1)
  obtain ⟨oe, od, J⟩ := exK_at I ha hd
  exact PySem.W.kia_one (kit_ex (ox := oe) (od := od) hC) I.kIn J e (fun z => nomatch z) fun tk => ⟨.bl b, H, I.tok tk, rfl, q⟩
theorem cr_isiTE : CallR X (.builtin "isinstance") (rIsiTE X.K) := by
  intro pins s σ H xs us Q I r h
  obtain ⟨a, C, d, tp, cs, ws, b, rfl, hT, k, ha, hd, hC, e, q⟩ := h
  obtain ⟨u1, u2, rfl, r1, r2⟩ := vals2 r
  cases (show u2 = Value.ref tp from r2)
  cases (show u1 = Value.ref a from r1)
  obtain ⟨oe, od, J⟩ := exK_at I ha hd
  obtain ⟨_, its, rv, o, h1, h2, n, h3⟩ := (show ObjOk X.prog X.w H s.heap tp (.tup cs) from I.hok tp _ hT)
  have e3 := ClsV.all k rv
  subst e3
  obtain ⟨oc, od', dt, sl⟩ := o
  simp only at h2 h3
  subst h2 h3
  exact PySem.W.kia_tup (kit_ex (ox := oe) (od := od) hC) I.kIn J h1 e (fun z => nomatch z) fun tk => ⟨.bl b, H, I.tok tk, rfl, q⟩
/-- an object that was not tracked is tracked from now on -/
theorem inv_track {pins : List (Addr × Obj)} {σ : St} {H : Hp} {s : Shared} {a : Addr} {o : HO} {oe : Obj} {vs : Array Value} (I : Inv X pins σ H s) (na : H a = none) (e : s.heap.get? a = some oe) (hd : oe.data = .fields vs) (nL : a ≠ X.env.locals)
    (n0 : X.s_0.heap.get? a = none) (np : ∀ p ∈ X.pn ++ pins, p.1 ≠ a) (new : ObjOk X.prog X.w (upd H a o) s.heap a o) : Inv X pins σ (upd H a o) s := by
  have ne : ∀ b u, H b = some u → b ≠ a := fun b u q z => by rw [z, na] at q; cases q
  refine ⟨I.ok, I.os, I.bare, ⟨I.base.keep, I.base.slot, fun b ob q n hx => ?_, I.base.there, fun b xs q => ?_, fun b ob u q => ?_, fun b ps q => ?_⟩, I.loc, I.cell, ?_, fun x c q => ?_, fun p hp => ?_, fun b u q => ?_, I.len⟩
  · have : b ≠ a := fun z => by rw [z, n0] at q; cases q
    rw [upd_ne this]; exact I.base.free b ob q n hx
  · have := I.base.tups b xs q
    rw [upd_ne (ne b _ this)]; exact this
  · have := I.base.frzs b ob u q
    rw [upd_ne (ne b _ this)]; exact this
  · obtain ⟨more, q⟩ := I.base.tbls b ps q
    exact ⟨more, by rw [upd_ne (ne b _ q)]; exact q⟩
  · rw [upd_ne (Ne.symm nL)]; exact I.free
  · have : c ≠ a := fun z => by
      obtain ⟨v, oc, h1, h2⟩ := I.cell x c q
      rw [z, e] at h1
      cases h1
      rw [hd] at h2
      cases h2
    rw [upd_ne this]; exact I.freeC x c q
  · obtain ⟨q1, q2, q3⟩ := I.pin p hp
    exact ⟨q1, by rw [upd_ne (np p hp)]; exact q2, q3⟩
  · by_cases z : b = a
    · subst z; rw [upd_same] at q; cases q; exact new
    · rw [upd_ne z] at q
      exact (I.hok b u q).stay (fun c v _ q => q) (fun c q => by rw [upd_ne (ne c _ q)]; exact q) fun c xs q => by rw [upd_ne (ne c _ q)]; exact q
end
/-- 'except x as n: suite', where what is caught may be kept behind the suite -/
def wKeep (K : PySem.W.Frag) (c : Value) (i : Nat) (ts : Addr → Value → Option Addr → TS) (Wout : WX) (D : Ends) : WX := fun cls d σ H =>
  ∃ b, PySem.W.exmOne K cls c = some b ∧ (b = true → ∃ C, cls = .ref C ∧ ∀ a, H a = none → ts a cls d { nx := fun σ' H' => H' a = none ∧ D.nx (σ'.set i none) (upd H' a (ExK C d a)), rt := fun _ _ => False, bk := fun _ _ => False, ct := fun _ _ => False } (σ.set i (some (.ref a))) H) ∧
    (b = false → Wout cls d σ H)
section
open PySem.Spec PyProof.Rows
variable {X : Cx} {x n : Str} {c : Value} {i : Nat} {body suite : List Stmt} {b₀ : Stmt} {np pos pos' : Pos} {tb : WX → TS} {ts : Addr → Value → Option Addr → TS} {Wout : WX}
theorem ps_try_keep (hs : X.stack = X.env :: X.outer) (hf : X.env.frame = some X.env.locals) (hex : X.ex = []) (hN : X.N.Nodup) (hi : X.N[i]? = some n) (hln : X.env.kindOf n = some .local) (hc : Names X x c) (tk : Takes X Wout)
    (hb : ∀ (W : WX) (pn : List (Addr × Obj)) (xe : Value → Shared → Prop), Takes (X.tr pn xe) W → PassesOwn (model X.prog X.w) X.A X.env xe → PSs (X.tr pn xe) body (tb W))
    (hsu : ∀ (a : Addr) (oe : Obj) (cls : Value) (d : Option Addr) (pn : List (Addr × Obj)), Zc cls d oe → (∃ vs, oe.data = .fields vs) → PSs (X.suite a ((a, oe) :: pn)) (b₀ :: suite) (ts a cls d)) :
    PS X (.Try body [.ExceptHandler (some (.Name x np)) (some n) (b₀ :: suite) pos'] [] [] pos) (fun D σ H => tb (wKeep X.K c i ts Wout D) D σ H) := by
  refine ⟨fun pins s σ H D I h => ?_⟩
  have ok := I.ok
  have hfr : X.A.frames = some (X.env :: X.outer) := by rw [ok.frames, hs]
  have hloc : Loc X.env.scope n := .inl hln
  refine wpAny_Try_except ?_
  refine wpAny_mono ((hb (wKeep X.K c i ts Wout D) (X.pn ++ pins) (fun e s₁ => wpAny (model X.prog X.w) X.A (noteFrame e X.env) (fun _ s₂ => wpAny (model X.prog X.w) X.A (setFlight e none) (fun _ s₃ =>
    wpAny (model X.prog X.w) X.A (handleBy e X.env [.ExceptHandler (some (.Name x np)) (some n) (b₀ :: suite) pos']) (SP X pins D) X.xe s₃) X.xe s₂) X.xe s₁) (fun u s' xx => ?_) PassesOwn.looking).run [] s σ H D (I.toTry _) h) (fun f s1 hsp => ?_) (fun e s1 he => he)
  · obtain ⟨a, B, sI, pins', σ', H', cls, d, rfl, J', nb, up, sky, na, os, ag, b, hb1, hyes, hno⟩ := xx
    have J : Inv X pins σ' H' sI := J'.ofTry ok
    have sky' : Sky B (X.env :: X.outer) a (Zc cls d) X.env.locals s'.heap := by rw [← hs]; exact sky
    show wpAny (model X.prog X.w) X.A (noteFrame (.ref a) X.env) _ _ _
    refine Sky.land Zc.steady hfr hf sky' fun h3 fl3 up3 => ?_
    have J3 : Inv X pins σ' H' { s' with heap := h3 } := J.landed nb fl3.1 (up.trans up3) os ag
    obtain ⟨oe3, vs3, he3, hz3, hd3⟩ := fl3.there
    have hBn : B.get? a = none := fl3.2.1
    have notFr : ∀ {h : Heap} {o : Obj} {vs : Array Value}, h.FunFrames B (X.env :: X.outer) → h.get? a = some o → o.data = .fields vs → a ∉ frs (X.env :: X.outer) := fun {h o vs} ff e dd hm => by
      obtain ⟨_, o', e', hnf⟩ := ff.mem hm
      rw [e] at e'; cases e'
      exact hnf _ dd
    have nfr := notFr fl3.2.2.1 he3 hd3
    have nL : a ≠ X.env.locals := fun z => nfr (List.mem_filterMap.mpr ⟨X.env, List.mem_cons_self, by rw [hf, z]⟩)
    have nF : a ∉ X.fs := fun hm => by
      obtain ⟨e, he, q⟩ := List.mem_filterMap.mp hm
      exact nfr (List.mem_filterMap.mpr ⟨e, List.mem_cons_of_mem _ he, q⟩)
    have nSI : sI.heap.get? a = none := by
      cases q : sI.heap.get? a with
      | none => rfl
      | some o =>
        have := nb a o q (by rw [hs]; exact nfr)
        rw [hBn] at this; cases this
    have n0 : X.s_0.heap.get? a = none := by
      cases q : X.s_0.heap.get? a with
      | none => rfl
      | some o =>
        obtain ⟨o', q'⟩ := J.base.there a o q (by rw [hex]; exact List.not_mem_nil)
        rw [nSI] at q'; cases q'
    have npin : ∀ p ∈ X.pn ++ pins, p.1 ≠ a := fun p hp z => by
      have := (J.pin p hp).1
      rw [z, nSI] at this; cases this
    have S3 := J3.suite he3 hd3 na nL nF
    refine wpAny_handleBy_cons (codeAny_handlers_test ?_) (by intro q; cases q)
    have LT : PySem.W.Looks (model X.prog X.w) h3 (typeOf (.ref a)) cls := fun A Q E s k q => wpAny_typeOf_ref (k _ _ he3) (by rw [hz3.1]; exact q)
    have LM := PySem.W.exm_one (M := model X.prog X.w) (J3.kIn) LT hb1
    have test : ∀ {Q : Value → Shared → Prop} {E : Value → Shared → Prop}, Q c { s' with heap := h3 } → wpAny (model X.prog X.w) (X.A.mark (some (.ref a))) (eval (.Name x np) X.env) Q E { s' with heap := h3 } := fun {Q E} q => by
      obtain ⟨hg, hdbg, hm | ⟨hm, hv, hnn⟩⟩ := hc
      · exact ld_glob (X := X.suite a ((a, oe3) :: (X.pn ++ pins))) S3 hg hm q hdbg
      · exact ld_blt (X := X.suite a ((a, oe3) :: (X.pn ++ pins))) S3 hg hm hv q hnn hdbg
    refine test (LM.here ?_)
    cases b with
    | true =>
      obtain ⟨C, hcls, hyes⟩ := hyes rfl
      refine codeAny_handlers_suite_as ?_
      refine HandSPX.lands_againZ fl3 fun h4 fl4 up4 => ?_
      have J4 : Inv X pins σ' H' { s' with heap := h4 } := J.landed nb fl4.1 ((up.trans up3).trans up4) os ag
      obtain ⟨oe4, vs4, he4, hz4, hd4⟩ := fl4.there
      have S4 := J4.suite he4 hd4 na nL nF
      refine store_ok (X := X.suite a ((a, oe4) :: (X.pn ++ pins))) (v := .ref a) S4 hN hi hloc rfl (fun s5 S5 => ?_) (.inr hln)
      refine wpAny_mono ((hsu a oe4 cls d (X.pn ++ pins) hz4 ⟨_, hd4⟩).run [] s5 _ H' _ S5 (hyes a na)) (fun f s6 hsp => ?_) (fun _ _ z => False.elim z)
      cases f with
      | next =>
        obtain ⟨σ6, H6, S6, na6, q6⟩ := hsp
        refine gone_ok (X := X.suite a ((a, oe4) :: (X.pn ++ pins))) S6 hN hi hln fun s7 S7 => ?_
        have he7 : s7.heap.get? a = some oe4 := (S7.pin (a, oe4) (by simp)).1
        have J7 : Inv X pins (σ6.set i none) H6 s7 := S7.unsuite ok
        exact ⟨_, _, inv_track J7 na6 he7 hd4 nL n0 npin (exK_ok he7 (hz4.1.trans hcls) hz4.2 hd4), q6⟩
      | brk =>
        obtain ⟨σ6, H6, S6, q6⟩ := hsp
        exact False.elim q6
      | cont =>
        obtain ⟨σ6, H6, S6, q6⟩ := hsp
        exact False.elim q6
      | ret u =>
        obtain ⟨v6, σ6, H6, S6, r6, q6⟩ := hsp
        exact False.elim q6
    | false =>
      show wpAny _ X.A (handleBy (.ref a) X.env []) _ _ _
      refine wpAny_handleBy_nil ?_
      obtain ⟨k1, k2, k3, oe, vs, T, oT, ts', he, hz, hd, h1, hr⟩ := id fl3
      unfold PySem.passOn
      refine wpAny_bind (wpAny_field he hd h1 ?_)
      rw [if_neg (show ¬ ((Value.ref T == Value.none) = true) from by simp)]
      have fin : wpAny (model X.prog X.w) X.A (setFlight (.ref a) X.env.frame) (fun _ s4 => wpAny (model X.prog X.w) X.A (throw (.ref a) : Sem Flow) (SP X pins D) X.xe s4) X.xe { s' with heap := h3 } := by
        rw [hf]
        refine HandSPX.setFlight_upZ fl3 fun h4 hh4 up4 => wpAny_throw (tk _ _ ?_)
        exact ⟨a, B, sI, pins, σ', H', cls, d, rfl, J, nb, (up.trans up3).trans up4, .inr (.inr (by rw [hs]; exact hh4)), na, os, ag, hno rfl⟩
      first
        | exact wpAny_bind (wpAny_pure (wpAny_bind fin))
        | exact wpAny_bind fin
  · cases f with
    | next =>
      obtain ⟨σ', H', J', q⟩ := hsp
      exact wpAny_execs_nil ⟨σ', H', J'.ofTry ok, q⟩
    | brk =>
      obtain ⟨σ', H', J', q⟩ := hsp
      exact ⟨σ', H', J'.ofTry ok, q⟩
    | cont =>
      obtain ⟨σ', H', J', q⟩ := hsp
      exact ⟨σ', H', J'.ofTry ok, q⟩
    | ret u =>
      obtain ⟨v, σ', H', J', r, q⟩ := hsp
      exact ⟨v, σ', H', J'.ofTry ok, r, q⟩
end
end Bw

namespace Bw
open PySem L2
/-! what raises -/
/-- a class's name, and what its field holds -/
abbrev Xe := Str × PyData
inductive Rs (β : Type) where
  | ok (y : β)
  | ex (c : Xe)
/-- the field of a class -/
def fld (c : Str) : Option Str := if c = "NoStore" then some "part" else if c = "NoPlan" then some "at" else if c = "NoPaper" then some "at" else none
/-- what d, an exception's dict, holds -/
def Xd (K : PySem.W.Frag) (F : Hp) (e : Xe) (d : Option Addr) : Prop := match fld e.1 with
  | none => d = none
  | some f => ∃ a v, d = some a ∧ F a = some (.xd [(f, v)]) ∧ Dt K F v e.2
theorem Xd.gr {K : PySem.W.Frag} {F F' : Hp} {e : Xe} {d : Option Addr} (g : Gr F F') (h : Xd K F e d) : Xd K F' e d := by
  unfold Xd at h ⊢
  split at h
  · exact h
  · obtain ⟨a, v, h1, h2, h3⟩ := h
    exact ⟨a, v, h1, g _ _ h2, h3.gr g⟩
theorem Xd.ok {K : PySem.W.Frag} {F H : Hp} {e : Xe} {d : Option Addr} (g : Gr F H) (h : Xd K F e d) : DOk H d := by
  unfold Xd at h
  split at h
  · subst h; trivial
  · obtain ⟨a, v, rfl, h2, h3⟩ := h
    exact ⟨_, g _ _ h2⟩
def okM {β : Type} : Rs β → Option β
  | .ok y => some y
  | .ex _ => none
theorem okM_some {β : Type} {r : Rs β} {y : β} (h : okM r = some y) : r = .ok y := by
  cases r with
  | ok z => cases h; rfl
  | ex c => cases h
def Rs.map {α β : Type} (g : α → β) : Rs α → Rs β
  | .ok y => .ok (g y)
  | .ex c => .ex c
/-- a promise that may end by an exception of a class of the program -/
def spPX (K : PySem.W.Frag) {α β : Type} (A : α → List PyData) (B : β → PyData) (f : α → Option (Rs β)) : Sp := fun vs H Q E => ∃ F cs x r, Dts K F vs (A x) ∧ Sta F cs H ∧ f x = some r ∧
  (∀ y, r = .ok y → ∀ v F2 H2, Gr F F2 → Sta F2 cs H2 → Dt K F2 v (B y) → Q v H2) ∧ ∀ c, r = .ex c → ∀ d F2 H2, Gr F F2 → Sta F2 cs H2 → Xd K F2 c d → E (.ref (He.ga K c.1)) d H2
structure OkX (P : Program) (w : World) (K : PySem.W.Frag) (mg : Str → Option Value) (base : Heap) (k : Nat) (x : Str) (ps : List Str) (sp : Sp) : Prop where
  ex : ∃ fd, FnOk P w K mg base (L2.CX P w) k (He.ga K x) fd ps sp ∧ Binds K fd ps [] ∧ Lk K (He.ga K x) fd
  kp : PySem.W.keepIn K (.ref (He.ga K x)) = true
  gm : mg x = some (.ref (He.ga K x))
abbrev XF0 : XK := fun _ _ _ => False
abbrev WF0 : WX := fun _ _ _ _ => False
theorem passF {X : Cx} (σ : St) : PassesAt (L2.CX X.prog X.w) X σ XF0 := fun _ _ _ e s' I c => by
  obtain ⟨a, B, H', cls, d, _, _, _, _, _, _, _, h⟩ := c
  exact False.elim h
section
variable {K : PySem.W.Frag} {σ : St} {F : Hp} {cs cs1 : Cs} {H : Hp} {as : TA} {te : TE} {nx bk ct : St → Hp → Prop} {rt : V → Hp → Prop} {W : WX}
/-- called where it does not raise -/
theorem dx_call {α β : Type} {A : α → List PyData} {B : β → PyData} {f : α → Option (Rs β)} {x : α} {y : β} {E : St → XK} (h : EvDs K as σ F cs (A x) cs1) (hf : f x = some (.ok y)) : EvD K (tCallS (spPX K A B f) E as) σ F cs (B y) cs1 := fun F1 H1 g1 s Q q =>
  h F1 H1 g1 s _ fun vs F2 H2 g2 s2 h2 => ⟨F2, cs1, x, .ok y, h2, s2, hf, fun z hz v F3 H3 g3 s3 h3 => by cases hz; exact q v F3 H3 (g2.tr g3) s3 h3, fun c hc => nomatch hc⟩
/-- what may raise: r the end -/
def EvX (K : PySem.W.Frag) (te : TE) (W : WX) (σ : St) (F : Hp) (cs : Cs) (r : Rs PyData) (cs' : Cs) : Prop :=
  ∀ F1 H1, Gr F F1 → Sta F1 cs H1 → ∀ Q : VK, (∀ d, r = .ok d → ∀ v F2 H2, Gr F1 F2 → Sta F2 cs' H2 → Dt K F2 v d → Q v H2) → (∀ c, r = .ex c → ∀ d F2 H2, Gr F1 F2 → Sta F2 cs' H2 → Xd K F2 c d → W (.ref (He.ga K c.1)) d σ H2) → te σ H1 Q
theorem x_call {α β : Type} {A : α → List PyData} {B : β → PyData} {f : α → Option (Rs β)} {x : α} {r : Rs β} (h : EvDs K as σ F cs (A x) cs1) (hf : f x = some r) : EvX K (tCallS (spPX K A B f) (WE W) as) W σ F cs (r.map B) cs1 := fun F1 H1 g1 s Q q qx =>
  h F1 H1 g1 s _ fun vs F2 H2 g2 s2 h2 => ⟨F2, cs1, x, r, h2, s2, hf, fun y hy v F3 H3 g3 s3 h3 => by subst hy; exact q _ rfl v F3 H3 (g2.tr g3) s3 h3, fun c hc d F3 H3 g3 s3 xd => by subst hc; exact qx c rfl d F3 H3 (g2.tr g3) s3 xd⟩
theorem s_dropX {α : Type} {B : α → PyData} {r : Rs α} (s : Sta F cs H) (h : EvX K te W σ F cs (r.map B) cs1) (q : ∀ y, r = .ok y → ∀ F2 H2, Gr F F2 → Sta F2 cs1 H2 → nx σ H2)
    (qx : ∀ c, r = .ex c → ∀ d F2 H2, Gr F F2 → Sta F2 cs1 H2 → Xd K F2 c d → W (.ref (He.ga K c.1)) d σ H2) : tDrop te ⟨nx, rt, bk, ct⟩ σ H :=
  h F H .rfl s _ (fun d hd v F2 H2 g2 s2 _ => by
    cases r with
    | ok y => exact q y rfl F2 H2 g2 s2
    | ex c => cases hd) (fun c hc d F2 H2 g2 s2 xd => by
    cases r with
    | ok y => cases hc
    | ex c' => cases hc; exact qx c rfl d F2 H2 g2 s2 xd)
theorem s_setX {α : Type} {B : α → PyData} {r : Rs α} {i : Nat} {σ' : V → St} (s : Sta F cs H) (h : EvX K te W σ F cs (r.map B) cs1) (hσ : ∀ v, σ.set i (some v) = σ' v) (q : ∀ y, r = .ok y → ∀ v F2 H2, Gr F F2 → Sta F2 cs1 H2 → Dt K F2 v (B y) → nx (σ' v) H2)
    (qx : ∀ c, r = .ex c → ∀ d F2 H2, Gr F F2 → Sta F2 cs1 H2 → Xd K F2 c d → W (.ref (He.ga K c.1)) d σ H2) : tAsg te (gName i) ⟨nx, rt, bk, ct⟩ σ H :=
  h F H .rfl s _ (fun d hd v F2 H2 g2 s2 h2 => by
    cases r with
    | ok y =>
      cases hd
      show nx (σ.set i (some v)) H2
      rw [hσ v]; exact q y rfl v F2 H2 g2 s2 h2
    | ex c => cases hd) (fun c hc d F2 H2 g2 s2 xd => by
    cases r with
    | ok y => cases hc
    | ex c' => cases hc; exact qx c rfl d F2 H2 g2 s2 xd)
theorem s_retX {α : Type} {B : α → PyData} {r : Rs α} (s : Sta F cs H) (h : EvX K te W σ F cs (r.map B) cs1) (q : ∀ y, r = .ok y → ∀ v F2 H2, Gr F F2 → Sta F2 cs1 H2 → Dt K F2 v (B y) → rt v H2)
    (qx : ∀ c, r = .ex c → ∀ d F2 H2, Gr F F2 → Sta F2 cs1 H2 → Xd K F2 c d → W (.ref (He.ga K c.1)) d σ H2) : tRet te ⟨nx, rt, bk, ct⟩ σ H :=
  h F H .rfl s _ (fun d hd v F2 H2 g2 s2 h2 => by
    cases r with
    | ok y => cases hd; exact q y rfl v F2 H2 g2 s2 h2
    | ex c => cases hd) (fun c hc d F2 H2 g2 s2 xd => by
    cases r with
    | ok y => cases hc
    | ex c' => cases hc; exact qx c rfl d F2 H2 g2 s2 xd)
/-- a kept exception, or None -/
def Xv (K : PySem.W.Frag) (cl : List Str) (F : Hp) (v : V) : Option Xe → Prop
  | none => v = .non
  | some c => c.1 ∈ cl ∧ ∃ a d, v = .ref a ∧ F a = some (ExK (He.ga K c.1) d a) ∧ Xd K F c d
theorem Xv.gr {cl : List Str} {F F' : Hp} {v : V} {o : Option Xe} (g : Gr F F') (h : Xv K cl F v o) : Xv K cl F' v o := by
  cases o with
  | none => exact h
  | some c => obtain ⟨h0, a, d, h1, h2, h3⟩ := h; exact ⟨h0, a, d, h1, g _ _ h2, h3.gr g⟩
def subX (c d : Str) : Bool := c == d || d == "CartError"
def isX (o : Option Xe) (d : Str) : Bool := match o with
  | none => false
  | some c => subX c.1 d
def anyX (o : Option Xe) (ds : List Str) : Bool := ds.any fun d => isX o d
/-- what is known of the classes: cl may be raised, ts are asked for -/
structure XFc (K : PySem.W.Frag) (cl ts : List Str) : Prop where
  ex : ∀ c ∈ cl, ExC K (He.ga K c) = true
  kit : ∀ c ∈ cl, ∀ d ∈ ts, PySem.W.kitOne K (.ref (He.ga K c)) (.ref (He.ga K d)) = some (subX c d)
  kitV : ∀ c ∈ cl, PySem.W.kitOne K (.ref (He.ga K c)) (.type "ValueError") = some true
  kitN : ∀ d ∈ ts, PySem.W.kitOne K (.type "NoneType") (.ref (He.ga K d)) = some false
  exm : ∀ c ∈ cl, PySem.W.exmOne K (.ref (He.ga K c)) (.ref (He.ga K "CartError")) = some true
  fl : ∀ c ∈ cl, ∀ f, fld c = some f → xfB K (He.ga K c) = true ∧ PySem.W.findIn K (.ref (He.ga K c)) f = some none
abbrev rIsiX (K : PySem.W.Frag) : List V → Hp → VK → Prop := fun xs H Q => rIsi K xs H Q ∨ rIsiE K xs H Q
abbrev rIsiXT (K : PySem.W.Frag) : List V → Hp → VK → Prop := fun xs H Q => rIsiT K xs H Q ∨ rIsiTE K xs H Q
theorem cr_isiX {X : Cx} : CallR X (.builtin "isinstance") (rIsiX X.K) := call_isi.or cr_isiE
theorem cr_isiXT {X : Cx} : CallR X (.builtin "isinstance") (rIsiXT X.K) := call_isiT.or cr_isiTE
theorem kitN_V : kitB "NoneType" "ValueError" = some false := by decide +kernel
theorem d_isiX {cl ts : List Str} {o : Option Xe} {v : V} {i : Nat} {d : Str} (X : XFc K cl ts) (hi : σ[i]? = some (some v)) (hx : Xv K cl F v o) (hd : d ∈ ts) : EvD K (tCB (rIsiX K) (tCons (tVar i) (tCons (tC (.ref (He.ga K d))) tNil))) σ F cs (.bool (isX o d)) cs := fun F1 H1 g1 s Q q => by
  refine ⟨v, hi, ?_⟩
  show rIsiX K [v, .ref (He.ga K d)] H1 Q
  cases o with
  | none =>
    cases (show v = .non from hx)
    exact .inl ⟨.non, _, .type "NoneType", .ref (He.ga K d), false, rfl, .own _, .base .non, X.kitN d hd, q _ F1 H1 .rfl s (.bl _)⟩
  | some c =>
    obtain ⟨hc, a, dd, rfl, ha, hxd⟩ := hx
    exact .inr ⟨a, He.ga K c.1, dd, _, .ref (He.ga K d), subX c.1 d, rfl, .own _, s.fr _ _ (g1 _ _ ha), hxd.ok (g1.tr s.fr), X.ex c.1 hc, X.kit c.1 hc d hd, q _ F1 H1 .rfl s (.bl _)⟩
theorem d_isiXV {cl ts : List Str} {o : Option Xe} {v : V} {i : Nat} (X : XFc K cl ts) (hi : σ[i]? = some (some v)) (hx : Xv K cl F v o) : EvD K (tCB (rIsiX K) (tCons (tVar i) (tCons (tC (.ty "ValueError")) tNil))) σ F cs (.bool o.isSome) cs := fun F1 H1 g1 s Q q => by
  refine ⟨v, hi, ?_⟩
  show rIsiX K [v, .ty "ValueError"] H1 Q
  cases o with
  | none =>
    cases (show v = .non from hx)
    exact .inl ⟨.non, _, .type "NoneType", .type "ValueError", false, rfl, .ty _, .base .non, kit_ty kitN_V, q _ F1 H1 .rfl s (.bl _)⟩
  | some c =>
    obtain ⟨hc, a, dd, rfl, ha, hxd⟩ := hx
    exact .inr ⟨a, He.ga K c.1, dd, _, .type "ValueError", true, rfl, .ty _, s.fr _ _ (g1 _ _ ha), hxd.ok (g1.tr s.fr), X.ex c.1 hc, X.kitV c.1 hc, q _ F1 H1 .rfl s (.bl _)⟩
def clsV (K : PySem.W.Frag) (ds : List Str) : List V := ds.map fun d => .ref (He.ga K d)
theorem clsV_paired : ∀ ds : List Str, Paired ClsV (clsV K ds) (ds.map fun d => Value.ref (He.ga K d))
  | [] => .nil
  | d :: ds => .cons (.own _) (clsV_paired ds)
theorem kitAny_none {cl ts : List Str} (X : XFc K cl ts) : ∀ ds : List Str, (∀ d ∈ ds, d ∈ ts) → PySem.W.kitAny K (.type "NoneType") (ds.map fun d => Value.ref (He.ga K d)) = some false
  | [], _ => rfl
  | d :: ds, h => kitAny_cons (X.kitN d (h d List.mem_cons_self)) (fun _ => kitAny_none X ds fun e he => h e (List.mem_cons_of_mem _ he)) (fun z => nomatch z)
theorem kitAny_some {cl ts : List Str} (X : XFc K cl ts) {c : Xe} (hc : c.1 ∈ cl) : ∀ ds : List Str, (∀ d ∈ ds, d ∈ ts) → PySem.W.kitAny K (.ref (He.ga K c.1)) (ds.map fun d => Value.ref (He.ga K d)) = some (anyX (some c) ds)
  | [], _ => rfl
  | d :: ds, h => by
    refine kitAny_cons (X.kit c.1 hc d (h d List.mem_cons_self)) (fun z => ?_) (fun z => ?_)
    · have := kitAny_some X hc ds fun e he => h e (List.mem_cons_of_mem _ he)
      rw [this]
      show some _ = some (subX c.1 d || _)
      rw [z]; rfl
    · show (subX c.1 d || _) = true
      rw [z]; rfl
/-- isinstance(x, (A, B, ..)); ta the written tuple's parts -/
theorem d_isiXT {cl ts ds : List Str} {o : Option Xe} {v : V} {i : Nat} {ta : TA} (X : XFc K cl ts) (hi : σ[i]? = some (some v)) (hx : Xv K cl F v o) (hd : ∀ d ∈ ds, d ∈ ts) (hl : ds.length ≤ 100000)
    (ht : ∀ H (Q : List V → Hp → Prop), Q (clsV K ds) H → ta σ H Q) : EvD K (tCB (rIsiXT K) (tCons (tVar i) (tCons (tTup ta) tNil))) σ F cs (.bool (anyX o ds)) cs := fun F1 H1 g1 s Q q => by
  refine ⟨v, hi, ?_⟩
  show tTup ta σ H1 fun w H2 => rIsiXT K [v, w] H2 Q
  refine ht H1 _ ⟨by unfold clsV; rw [List.length_map]; exact sz hl, fun p hp => ?_⟩
  have s2 : Sta (upd F1 p (.tup (clsV K ds))) cs (upd H1 p (.tup (clsV K ds))) := s.lay hp
  have g2 : Gr F1 (upd F1 p (.tup (clsV K ds))) := Gr.new (s.fr.back hp)
  cases o with
  | none =>
    cases (show v = .non from hx)
    refine .inl ⟨.non, p, clsV K ds, .type "NoneType", _, false, rfl, upd_same, clsV_paired ds, .base .non, kitAny_none X ds hd, ?_⟩
    have : anyX none ds = false := by unfold anyX; rw [List.any_eq_false]; intro d _; exact Bool.false_ne_true
    rw [this] at q
    exact q _ _ _ g2 s2 (.bl _)
  | some c =>
    obtain ⟨hc, a, dd, rfl, ha, hxd⟩ := hx
    exact .inr ⟨a, He.ga K c.1, dd, p, clsV K ds, _, anyX (some c) ds, rfl, upd_same, clsV_paired ds, s2.fr _ _ (g2 _ _ (g1 _ _ ha)), hxd.ok ((g1.tr g2).tr s2.fr), X.ex c.1 hc, kitAny_some X hc ds hd, q _ _ _ g2 s2 (.bl _)⟩
/-- caught and kept: `except CartError as e: kept = e`; i is e's place, j the keeper's -/
theorem s_catch {cl ts : List Str} {i j : Nat} {c : Xe} {dd : Option Addr} {D : Ends} {Wout : WX} {σ' : Addr → St} (X : XFc K cl ts) (hc : c.1 ∈ cl) (s : Sta F cs H) (xd : Xd K F c dd) (hij : ∀ v, (σ.set i (some v))[i]? = some (some v)) (hσ : ∀ a, (((σ.set i (some (.ref a))).set j (some (.ref a))).set i none) = σ' a)
    (q : ∀ a F2 H2, Gr F F2 → Sta F2 cs H2 → Xv K cl F2 (.ref a) (some c) → D.nx (σ' a) H2) :
    wKeep K (.ref (He.ga K "CartError")) i (fun _ _ _ => tAsg (tVar i) (gName j)) Wout D (.ref (He.ga K c.1)) dd σ H := by
  refine ⟨true, X.exm c.1 hc, fun _ => ⟨_, rfl, fun a ha => ?_⟩, fun z => nomatch z⟩
  refine ⟨.ref a, hij _, ha, ?_⟩
  rw [hσ a]
  exact q a _ _ (Gr.new (s.fr.back ha)) (s.lay ha) ⟨hc, a, dd, rfl, upd_same, xd.gr (Gr.new (s.fr.back ha))⟩
end
end Bw

namespace Bw
open PySem L2
/-! tuple(xs), list(a tuple), tuple + tuple -/
abbrev rTupleL (K : PySem.W.Frag) : List V → Hp → VK → Prop := fun xs H Q => ∃ p ys, xs = [.ref p] ∧ ((SqL K H p ys ∧ ∀ l, H l = none → Q (.ref l) (upd H l (.tup ys))) ∨ (SqT K H p ys ∧ Q (.ref p) H))
theorem cr_tuple {X : Cx} : CallR X (.type "tuple") (rTupleL X.K) := call_tuple_of
section
variable {K : PySem.W.Frag} {σ : St} {F : Hp} {cs cs1 cs2 : Cs} {as : TA} {ta tb : TE}
theorem d_tupleL {ds : List PyData} (h : EvDs K as σ F cs [.list ds] cs1) : EvD K (tCB (rTupleL K) as) σ F cs (.tuple ds) cs1 := fun F1 H1 g1 s Q q =>
  h F1 H1 g1 s _ fun v F2 H2 g2 s2 h2 => by
    obtain ⟨v, rfl, k⟩ := h2.one
    obtain ⟨p, ys, rfl, hl, hd⟩ := k.toLst
    refine ⟨p, ys, rfl, .inl ⟨gr_L s2.fr hl, fun l nl => ?_⟩⟩
    have g3 : Gr F2 (upd F2 l (.tup ys)) := Gr.new (s2.fr.back nl)
    exact q _ _ _ (g2.tr g3) (s2.lay nl) (.tup (.inl (.inl upd_same)) (hd.gr g3))
theorem d_tupleT {ds : List PyData} (h : EvDs K as σ F cs [.tuple ds] cs1) : EvD K (tCB (rTupleL K) as) σ F cs (.tuple ds) cs1 := fun F1 H1 g1 s Q q =>
  h F1 H1 g1 s _ fun v F2 H2 g2 s2 h2 => by
    obtain ⟨v, rfl, k⟩ := h2.one
    obtain ⟨p, ys, rfl, hl, hd⟩ := k.toTup
    exact ⟨p, ys, rfl, .inr ⟨gr_T s2.fr hl, q _ _ _ g2 s2 (.tup hl hd)⟩⟩
theorem c_listT {ds : List PyData} (h : EvDs K as σ F cs [.tuple ds] cs1) : EvC K (tCB (rListS K) as) σ F cs ds cs1 := fun F1 H1 g1 s Q q =>
  h F1 H1 g1 s _ fun v F2 H2 g2 s2 h2 => by
    obtain ⟨v, rfl, k⟩ := h2.one
    obtain ⟨p, ys, rfl, hl, hd⟩ := k.toTup
    exact ⟨p, ys, rfl, .inr (gr_T s2.fr hl), fun l nl => q _ _ _ _ g2 (s2.cell nl) hd⟩
theorem d_catT {ds es : List PyData} (ha : EvD K ta σ F cs (.tuple ds) cs1) (hb : EvD K tb σ F cs1 (.tuple es) cs2) (hn : ds ≠ []) (he : es ≠ []) (hl : ds.length + es.length ≤ 100000) : EvD K (tOp (rCatT K) ta tb) σ F cs (.tuple (ds ++ es)) cs2 :=
  d_op ha hb fun x y F2 H2 hx hy s _ Q q => by
    obtain ⟨p, vs, rfl, h1, k1⟩ := hx.toTup
    obtain ⟨p', ws, rfl, h2, k2⟩ := hy.toTup
    have l1 := k1.len
    have l2 := k2.len
    have e2 : ws ≠ [] := fun z => he (List.length_eq_zero_iff.mp (by rw [← l2, z]; rfl))
    refine ⟨p, p', vs, ws, rfl, rfl, gr_T s.fr h1, gr_T s.fr h2, fun z => hn (List.length_eq_zero_iff.mp (by rw [← l1, z]; rfl)), by rw [l1, l2]; exact sz hl, fun z => absurd z e2, fun _ l nl => ?_⟩
    have g3 : Gr F2 (upd F2 l (.tup (vs ++ ws))) := Gr.new (s.fr.back nl)
    exact q _ _ _ g3 (s.lay nl) (.tup (.inl (.inl upd_same)) ((k1.gr g3).app (k2.gr g3)))
end
end Bw

namespace Bw
open PySem L2
/-! raise and try, put together for the generator -/
abbrev WX0 (E : XK) : WX := fun cls d _ H => E cls d H
def tRaiseX (W : WX) (C : Addr) : TS := fun _ σ H => W (.ref C) none σ H
/-- a plain exception class of the program -/
def excB (K : PySem.W.Frag) (x : Str) : Bool := PySem.W.excIn K (He.ga K x) [.type "ValueError", .type "Exception", .type "BaseException", .type "object"] "ValueError.__new__" && PySem.W.keepIn K (.ref (He.ga K x)) &&
  PySem.W.subIn K (.ref (He.ga K x)) (.type "BaseException") == some true && PySem.W.typeIn K (.ref (He.ga K x)) == some (.type "type")
structure ExD (K : PySem.W.Frag) (mg : Str → Option Value) (x : Str) : Prop where
  b : excB K x = true
  gm : mg x = some (.ref (He.ga K x))
section
variable {X : Cx} {W : WX} {body : List Stmt} {t : TS}
theorem pss_tk (tk : Takes X W) (h : Takes X W → PSs X body t) : PSs X body t := h tk
theorem ps_raiseX {x m : Str} {j : Nat} {p p2 pos pos' : Pos} (hc : X.calm = true) (tk : Takes X W) (e : ExD X.K X.mg x) (hg : Gl X x) (hdb : (x == ("__debug__" : Str)) = false := by decide) :
    PS X (.Raise (some (.Call (.Name x p) [.Constant (.str m) j p2] [] pos)) none pos') (tRaiseX W (He.ga X.K x)) := by
  have hb := e.b
  unfold excB at hb
  simp only [Bool.and_eq_true, beq_iff_eq] at hb
  obtain ⟨⟨⟨h1, h2⟩, h3⟩, h4⟩ := hb
  exact ps_raise hc tk (pmk_own PySem.F.excBase_ValueError h1 e.gm h2 (raises_own h3 h4) hg hdb)
theorem takesF : Takes X.nox WF0 := fun u s' h => by
  obtain ⟨a, B, sI, pins, σ, H, cls, d, _, _, _, _, _, _, _, _, w⟩ := h
  exact False.elim w
def tTryK (K : PySem.W.Frag) (i j : Nat) (Wout : WX) (tb : WX → TS) : TS := fun D σ H => tb (wKeep K (.ref (He.ga K "CartError")) i (fun _ _ _ => tAsg (tVar i) (gName j)) Wout D) D σ H
end
section
variable {K : PySem.W.Frag} {σ : St} {F : Hp} {cs : Cs} {H : Hp} {W : WX} {D : Ends}
theorem s_raise {C : Addr} (h : W (.ref C) none σ H) : tRaiseX W C D σ H := h
end
end Bw
namespace Bw
open PySem L2
def tupD2 : PyData → Option (PyData × PyData)
  | .tuple [a, b] => some (a, b)
  | _ => none
def tupD3 : PyData → Option (PyData × PyData × PyData)
  | .tuple [a, b, c] => some (a, b, c)
  | _ => none
def tupD4 : PyData → Option (PyData × PyData × PyData × PyData)
  | .tuple [a, b, c, d] => some (a, b, c, d)
  | _ => none
theorem tupD2_eq {d : PyData} {p : PyData × PyData} (h : tupD2 d = some p) : d = .tuple [p.1, p.2] := by
  unfold tupD2 at h; split at h
  · cases h; rfl
  · cases h
theorem tupD3_eq {d : PyData} {p : PyData × PyData × PyData} (h : tupD3 d = some p) : d = .tuple [p.1, p.2.1, p.2.2] := by
  unfold tupD3 at h; split at h
  · cases h; rfl
  · cases h
theorem tupD4_eq {d : PyData} {p : PyData × PyData × PyData × PyData} (h : tupD4 d = some p) : d = .tuple [p.1, p.2.1, p.2.2.1, p.2.2.2] := by
  unfold tupD4 at h; split at h
  · cases h; rfl
  · cases h
end Bw
namespace Bw
open PySem L2
theorem s_tryJ {K : PySem.W.Frag} {σ : St} {H : Hp} {nx bk ct : St → Hp → Prop} {rt : V → Hp → Prop} {i j : Nat} {Wout : WX} {tb : WX → TS} (J : St → Hp → Prop) (rest : ∀ σ' H', J σ' H' → nx σ' H')
    (body : (∀ σ' H', J σ' H' → nx σ' H') → tb (wKeep K (.ref (He.ga K "CartError")) i (fun _ _ _ => tAsg (tVar i) (gName j)) Wout ⟨nx, rt, bk, ct⟩) ⟨nx, rt, bk, ct⟩ σ H) : tTryK K i j Wout tb ⟨nx, rt, bk, ct⟩ σ H := body rest
end Bw
namespace Bw
open PySem L2
/-! the facts of the classes, told by the head -/
def ceB (K : PySem.W.Frag) : Bool := PySem.W.specialIn K (.ref (He.ga K "CartError")) "__getattribute__" == some (some (.builtin "type.__getattribute__")) && PySem.W.readsIn K (He.ga K "CartError") (.type "type") && (match PySem.W.findCls K (.ref (He.ga K "CartError")) (.type "type") "__init__" with
  | some (.val (.builtin n)) => n == "ValueError.__init__"
  | _ => false) && PySem.W.keepIn K (.ref (He.ga K "CartError"))
/-- a class with an own __init__ and a field -/
def oexB (K : PySem.W.Frag) (C : Addr) (f : Str) : Bool := (match K.lookup C with
  | some ⟨.type "type", _, .cls cd, sl⟩ => (match cd.mro, sl.toList with
    | .ref C' :: bm, [_, _, _, _, some (.builtin n), _] => C' == C && n == "ValueError.__new__" && !cd.hasDel && cd.hasDict && HandSPX.refsVE bm
    | _, _ => false)
  | _ => false) && PySem.W.findIn K (.ref C) "__setattr__" == some (some (.builtin "object.__setattr__")) && PySem.W.subIn K (.ref C) (.type "BaseException") == some true && PySem.W.typeIn K (.ref C) == some (.type "type") && PySem.W.keepIn K (.ref C) &&
  PySem.W.findIn K (.ref C) "__init__" == some (some (.ref (He.ma K C "__init__"))) && PySem.W.typeIn K (.ref (He.ma K C "__init__")) == some (.type "function") && xfB K C && PySem.W.findIn K (.ref C) f == some none
structure OexF (K : PySem.W.Frag) (C : Addr) (f : Str) : Prop where
  T : OexC K C
  iC : PySem.W.findIn K (.ref C) "__init__" = some (some (.ref (He.ma K C "__init__")))
  tI : PySem.W.typeIn K (.ref (He.ma K C "__init__")) = some (.type "function")
  xf : xfB K C = true
  no : PySem.W.findIn K (.ref C) f = some none
theorem oex_of {K : PySem.W.Frag} {C : Addr} {f : Str} (h : oexB K C f = true) : OexF K C f := by
  unfold oexB at h
  simp only [Bool.and_eq_true, beq_iff_eq] at h
  obtain ⟨⟨⟨⟨⟨⟨⟨⟨q, h2⟩, h3⟩, h4⟩, h5⟩, h6⟩, h7⟩, h8⟩, h9⟩ := h
  refine ⟨⟨?_, h2, h3, h4, h5⟩, h6, h7, h8, h9⟩
  split at q
  · rename_i dd cd sl ho
    split at q
    · rename_i C' bm k0 k1 k2 k3 n k5 hm hs
      simp only [Bool.and_eq_true, beq_iff_eq, Bool.not_eq_true'] at q
      obtain ⟨⟨⟨⟨rfl, rfl⟩, hdel⟩, hdi⟩, ht⟩ := q
      obtain ⟨nm, bs, mro, ns, qn, hd, sn, sub, ab, col, del⟩ := cd
      dsimp only at hm hdel hdi
      subst hm hdel hdi
      have hsl : sl = #[k0, k1, k2, k3, some (.builtin "ValueError.__new__"), k5] := by
        obtain ⟨l⟩ := sl
        simp only at hs
        rw [hs]
      subst hsl
      exact ⟨nm, qn, ns, bs, bm, sn, sub, ab, col, dd, k0, k1, k2, k3, k5, ho, ht⟩
    · cases q
  · cases q
def xfcB (cl ts : List Str) (K : PySem.W.Frag) : Bool := (cl.all fun c => ExC K (He.ga K c) && (ts.all fun d => PySem.W.kitOne K (.ref (He.ga K c)) (.ref (He.ga K d)) == some (subX c d)) && PySem.W.kitOne K (.ref (He.ga K c)) (.type "ValueError") == some true &&
  PySem.W.exmOne K (.ref (He.ga K c)) (.ref (He.ga K "CartError")) == some true && (match fld c with
    | none => excB K c
    | some f => oexB K (He.ga K c) f)) && (ts.all fun d => PySem.W.kitOne K (.type "NoneType") (.ref (He.ga K d)) == some false) && ceB K
theorem xfc_of {cl ts : List Str} {K : PySem.W.Frag} (h : xfcB cl ts K = true) : XFc K cl ts := by
  unfold xfcB at h
  rw [Bool.and_eq_true, Bool.and_eq_true, List.all_eq_true, List.all_eq_true] at h
  obtain ⟨⟨h1, h2⟩, _⟩ := h
  have k : ∀ c ∈ cl, _ := fun c hc => h1 c hc
  simp only [Bool.and_eq_true, List.all_eq_true, beq_iff_eq] at k h2
  refine ⟨fun c hc => (k c hc).1.1.1.1, fun c hc d hd => (k c hc).1.1.1.2 d hd, fun c hc => (k c hc).1.1.2, fun d hd => h2 d hd, fun c hc => (k c hc).1.2, fun c hc f hf => ?_⟩
  have z := (k c hc).2
  rw [hf] at z
  exact ⟨(oex_of z).xf, (oex_of z).no⟩
theorem ce_of {cl ts : List Str} {K : PySem.W.Frag} (h : xfcB cl ts K = true) : ceB K = true := by
  unfold xfcB at h
  rw [Bool.and_eq_true] at h
  exact h.2
theorem oxf_of {cl ts : List Str} {K : PySem.W.Frag} (h : xfcB cl ts K = true) {c f : Str} (hc : c ∈ cl) (hf : fld c = some f) : OexF K (He.ga K c) f := by
  unfold xfcB at h
  rw [Bool.and_eq_true, Bool.and_eq_true, List.all_eq_true] at h
  have k := h.1.1 c hc
  simp only [Bool.and_eq_true] at k
  have z := k.2
  rw [hf] at z
  exact oex_of z
theorem exd_of {cl ts : List Str} {K : PySem.W.Frag} {mg : Str → Option Value} (h : xfcB cl ts K = true) {c : Str} (hc : c ∈ cl) (hf : fld c = none) (g : mg c = some (.ref (He.ga K c))) : ExD K mg c := by
  unfold xfcB at h
  rw [Bool.and_eq_true, Bool.and_eq_true, List.all_eq_true] at h
  have k := h.1.1 c hc
  simp only [Bool.and_eq_true] at k
  have z := k.2
  rw [hf] at z
  exact ⟨z, g⟩
def asCS (g : Addr → Option Obj) (n : Nat) : List Addr := He.asD g n ++ [cStatics]
def hookB (n : Nat) (fa : List He.Fa) (fn : List He.DefD) (ex : PySem.W.Frag → Bool) : PySem.W.Hook where
  α := He.AlD × Bool
  obs := fun s => (He.obsD fa fn (He.frG s.heap.get? (asCS s.heap.get? n)), ex (He.frG s.heap.get? (asCS s.heap.get? n)))
  val := fun _ => (He.valD fn, true)
  says := fun _ h => ∃ K : PySem.W.Frag, K.In h ∧ He.SaysD fa fn K ∧ ex K = true
  of := fun _ _ e => ⟨_, He.frG_in, congrArg (fun z : He.AlD × Bool => z.1) e, congrArg (fun z : He.AlD × Bool => z.2) e⟩
  keeps := fun _ _ _ ⟨K, hK, c⟩ k => ⟨K, PySem.W.Frag.In.keeps hK k, c⟩
def obsB (n : Nat) (fa : List He.Fa) (fn : List He.DefD) (ex : PySem.W.Frag → Bool) (g : Addr → Option Obj) : He.AlD × Bool := (He.obsD fa fn (He.frG g (asCS g n)), ex (He.frG g (asCS g n)))
theorem obsB_eq {n : Nat} {fa : List He.Fa} {fn : List He.DefD} {ex : PySem.W.Frag → Bool} {g : Addr → Option Obj} {s : Shared} (h : ∀ a, g a = s.heap.get? a) : obsB n fa fn ex g = (hookB n fa fn ex).obs s := by
  have e : g = s.heap.get? := funext h
  rw [e]; rfl
end Bw

namespace Bw
open PySem L2
/-! dict(a list of pairs) -/
abbrev rDictP (K : PySem.W.Frag) : List V → Hp → VK → Prop := fun xs H Q => ∃ (a : Addr) (ps : List Addr) (kvs : List (Key × V)), xs = [.ref a] ∧ SqL K H a (ps.map V.ref) ∧ Paired (fun p kv => SqT K H p [kV kv.1, kv.2]) ps kvs ∧ ∀ p, H p = none → Q (.ref p) (upd H p (.dK (mergeK [] kvs)))
theorem cr_dictP {X : Cx} (hc : X.calm = true) : CallR X (.type "dict") (rDictP X.K) := call_dictP hc
section
variable {K : PySem.W.Frag} {σ : St} {F : Hp} {cs cs1 : Cs} {as : TA}
theorem dts_pairs {ν : Type} {ev : ν → PyData} {vf : ν → V} (hv : ∀ F v x, Dt K F v (ev x) → v = vf x) {H : Hp} (g : Gr F H) : ∀ {xs : List (Str × ν)} {vs : List V}, Dts K F vs (xs.map (eT2 eS ev)) → ∃ ps : List Addr, vs = ps.map V.ref ∧ Paired (fun p kv => SqT K H p [kV kv.1, kv.2]) ps (kvE kS vf xs)
  | [], vs, h => by cases h; exact ⟨[], rfl, .nil⟩
  | x :: xs, vs, h => by
    cases h with
    | cons a b =>
      obtain ⟨p, v1, v2, rfl, hT, k1, k2⟩ := u2 a
      obtain ⟨ps, rfl, hp⟩ := dts_pairs hv g b
      cases k1.toStr
      cases hv _ _ _ k2
      exact ⟨p :: ps, rfl, .cons (gr_T g hT) hp⟩
/-- .. as a thing -/
theorem d_dictP {ν : Type} {ev : ν → PyData} {vf : ν → V} (hv : ∀ F v x, Dt K F v (ev x) → v = vf x) {xs : List (Str × ν)} (h : EvDs K as σ F cs [eL (eT2 eS ev) xs] cs1) : EvD K (tCB (rDictP K) as) σ F cs (.dict []) cs1 := fun F1 H1 g1 s Q q =>
  h F1 H1 g1 s _ fun v F2 H2 g2 s2 h2 => by
    obtain ⟨v, rfl, k⟩ := h2.one
    obtain ⟨p, ys, rfl, hl, hd⟩ := k.toLst
    obtain ⟨ps, rfl, hp⟩ := dts_pairs hv s2.fr hd
    exact ⟨p, ps, _, rfl, gr_L s2.fr hl, hp, fun l nl => q _ _ _ (g2.tr (Gr.new (s2.fr.back nl))) (s2.lay nl) (.dct upd_same)⟩
end
end Bw

namespace Bw
open PySem L2
/-! exceptions with a field: raised, kept, read -/
/-- what may stand in the text of an exception -/
def FmV (v : V) : Prop := (∃ y : Str, v = .str y ∧ y.length ≤ 1000) ∨ ∃ i : Int, v = .int i ∧ i.natAbs.log2 < 1920 ∧ (toString i : Str).length ≤ 1000
def spI (C : Addr) (f : Str) : Sp := fun vs H Q _ => ∃ a v, vs = [.ref a, v] ∧ H a = some (exo a C none) ∧ FmV v ∧ ∀ dx, H dx = none → dx ≠ a → Q .non (upd (upd H dx (exd dx [(f, v)])) a (exo a C (some dx)))
theorem spI_len {C : Addr} {f : Str} {vs : List V} {H : Hp} {Q : VK} {E : XK} (h : spI C f vs H Q E) : vs.length = 2 := by
  obtain ⟨a, v, rfl, _⟩ := h; rfl
structure OkI (P : Program) (w : World) (K : PySem.W.Frag) (mg : Str → Option Value) (base : Heap) (x f : Str) : Prop where
  ex : ∃ fd, FnOk P w K mg base CX0 1 (He.ma K (He.ga K x) "__init__") fd ["self", f] (spI (He.ga K x) f) ∧ Binds K fd ["self", f] []
  gm : mg x = some (.ref (He.ga K x))
  T : OexF K (He.ga K x) f
section
variable {X : Cx} {e : Expr} {es : List Expr} {te : TE} {ta : TA} {p1 p2 pos p pos' : Pos} {W : WX}
theorem pe_ceinit {pl : Sem Bool} (hg : Gl X "CartError") (hm : X.mg "CartError" = some (.ref (He.ga X.K "CartError"))) (ce : ceB X.K = true) (ha : PA X (e :: es) ta)
    (hc : eval (.Call (.Attribute (.Name "CartError" p1) "__init__" p2) (e :: es) [] pos) X.env = (do
      let ov ← eval (.Name "CartError" p1) X.env
      standAt p2.atName
      let (f, first) ← holding [ov] (getMethod ov "__init__" pl)
      callWith pos f first (backTo pos (starEach (e :: es) X.env)) (backToKw pos (keywordEach [] X.env))) := by rfl)
    (he : starEach (e :: es) X.env = (false, eval e X.env) :: starEach es X.env := by rfl) (hpl : (backTo pos (starEach es X.env)).any (·.1) = false := by rfl) :
    PE X (.Call (.Attribute (.Name "CartError" p1) "__init__" p2) (e :: es) [] pos) (tVeI X.K ta) := by
  unfold ceB at ce
  simp only [Bool.and_eq_true, beq_iff_eq] at ce
  obtain ⟨⟨⟨c1, c2⟩, c3⟩, c4⟩ := ce
  have vV : PySem.W.findCls X.K (.ref (He.ga X.K "CartError")) (.type "type") "__init__" = some (.val (.builtin "ValueError.__init__")) := by
    split at c3
    · rename_i n h; rw [h]; rw [beq_iff_eq] at c3; rw [c3]
    · cases c3
  refine ⟨fun pins s σ H Q I h => ?_⟩
  refine PySem.W.methodCall_KW (ld_glob I hg hm ?_ (by decide)) hc
  refine PySem.W.method_cls I.kIn c1 (PySem.W.cls_value I.kIn c2 vV (by decide +kernel) ?_)
  show wpAny _ _ (callWith pos (Value.builtin "ValueError.__init__") [] (backTo pos (starEach (e :: es) X.env)) []) _ _ _
  refine PyProof.Rows.callWith_method1 (thn (ha.run pos pins _ σ H _ (I.tok _) h) fun us s1 ⟨vs, H1, I1, r1, a, C, ws, ev, hl, T, ea, q⟩ => ?_) he hpl
  subst ev
  cases r1 with
  | @cons _ u0 _ ur ra rw' =>
    obtain rfl : u0 = Value.ref a := ra
    have hlen : ur.length ≤ sizeLine := by
      rw [← Paired.length rw', sizeLine_eq]
      omega
    exact oinit_ok T I1 ea hlen fun s' J => ⟨.non, H1, J, rfl, q⟩
def tRaiseF (K : PySem.W.Frag) (W : WX) (x f : Str) (te : TE) : TS := fun _ σ H => tMkO (He.ga K x) (spI (He.ga K x) f) [] (tCons te tNil) σ H fun cls d H' => W cls d σ H'
theorem ps_raiseF {x f : Str} (hc : X.calm = true) (tk : Takes X W) (F : OkI X.prog X.w X.K X.mg X.base x f) (hr : Room 2 X.A) (hg : Gl X x) (he : PE X e te) (hdb : (x == ("__debug__" : Str)) = false := by decide)
    (hs : starEach [e] X.env = (false, eval e X.env) :: starEach [] X.env := by rfl) (hpl : (backTo pos (starEach [] X.env)).any (·.1) = false := by rfl) :
    PS X (.Raise (some (.Call (.Name x p) [e] [] pos)) none pos') (tRaiseF X.K W x f te) := by
  obtain ⟨fd, F1, hb⟩ := F.ex
  exact ps_raise hc tk (pmk_oex F.T.T F.T.iC F.T.tI F1 hr hb .nil pass0 hg F.gm (pa_cons he pa_nil (hs := hs)) hdb hs hpl)
/-- x.f, where x holds an exception that is kept -/
def tXat (K : PySem.W.Frag) (f : Str) (te : TE) : TE := fun σ H Q => te σ H fun x H1 => ∃ (a C dd : Addr) (fs : List (Str × V)) (v : V), x = .ref a ∧ H1 a = some (ExK C (some dd) a) ∧ H1 dd = some (.xd fs) ∧ xfB K C = true ∧ PySem.W.findIn K (.ref C) f = some none ∧ fs.lookup f = some v ∧ Q v H1
theorem pe_xat {n : Str} (he : PE X e te) (hb : attributeBase e n X.env (eval e X.env) = eval e X.env := by rfl) : PE X (.Attribute e n pos) (tXat X.K n te) := by
  refine ⟨fun pins s σ H Q I h => ?_⟩
  refine attr_of hb (thn (he.run pins s σ H _ I h) fun u s1 hh => ?_)
  obtain ⟨x, H1, I1, rx, a, C, dd, fs, v, ex, ha, ea, xf, hno, l, q⟩ := hh
  subst ex
  obtain rfl : u = Value.ref a := rx
  have T := xfB_ok xf
  have hk : ObjOk X.prog X.w H1 s1.heap a (.ext fun h => ∃ (oe : Obj) (vs : Array Value), h.get? a = some oe ∧ oe.cls = .ref C ∧ oe.dict = some dd ∧ oe.data = .fields vs) := I1.hok a _ ha
  obtain ⟨⟨oe, vs, e1, e2, e3, hd⟩, _⟩ := hk
  have hx : ObjOk X.prog X.w H1 s1.heap dd (.xd fs) := I1.hok dd _ ea
  obtain ⟨mA, hns, hr⟩ := hx
  obtain ⟨od, ho, hl⟩ := lookIn_ns hns
  obtain ⟨u, hu, ru⟩ := RelO.some_of (v := v) (o := mA n) (by rw [← l]; exact hr n)
  have J : PySem.W.InstAt s1.heap a oe C (some od) := ⟨e1, e2, by unfold PySem.W.notCls; rw [hd] <;> rfl, by rw [e3]; exact ho⟩
  exact HandSPX.exc_get I1.kIn J T.ga T.gg T.exC (PySem.W.findObj_own T.hdC hno rfl (by rw [hl, hu])) (handed_of ru) ⟨v, H1, I1.tok _, ru, q⟩
end
/-- self, x: CartError.__init__(self, f'm{x}'); self.x = x -/
def tInit (K : PySem.W.Frag) (f m : Str) : TS := tSeq (tDrop (tVeI K (tCons (tVar 0) (tCons (fun σ H Q => tJs [tC (.str m), tFmt (tVar 1)] Str.empty σ H fun out H1 => Q (.str out) H1) tNil)))) (tOst K f (tVar 0) (tVar 1))
theorem w_init {K : PySem.W.Frag} {C : Addr} {f m : Str} {vs : List V} {H : Hp} {Q : VK} {E : XK} (T : OexF K C f) (hm : m.length ≤ 1000) (h : spI C f vs H Q E) : tInit K f m { nx := fun _ H' => Q .non H', rt := Q } (start ["self", f] vs) H := by
  obtain ⟨a, v, rfl, ha, fm, q⟩ := h
  have sl : sizeLine = sizeLine := rfl
  refine ⟨.ref a, rfl, m, rfl, ?_, v, rfl, ?_⟩
  · rw [sizeLine_eq, Str.length_append]; have : Str.empty.length = 0 := rfl; omega
  have fin : ∀ y : Str, y.length ≤ 1000 → ∃ z : Str, V.str y = V.str z ∧ (Str.empty ++ m ++ z).length ≤ sizeLine ∧ tJs [] (Str.empty ++ m ++ z) [some (.ref a), some v] H fun out H1 => tNil [some (.ref a), some v] H1 fun ws H2 => ∃ (a' C' : Addr) (ws' : List V), (.ref a :: .str out :: ws) = .ref a' :: ws' ∧ ws'.length ≤ 1000 ∧ OexC K C' ∧ H2 a' = some (exo a' C' none) ∧ tOst K f (tVar 0) (tVar 1) { nx := fun _ H' => Q .non H', rt := Q } [some (.ref a), some v] H2 := fun y hy => by
    refine ⟨y, rfl, ?_, ?_⟩
    · rw [sizeLine_eq, Str.length_append, Str.length_append]; have : Str.empty.length = 0 := rfl; omega
    · refine ⟨a, C, _, rfl, Nat.le_of_ble_eq_true rfl, T.T, ha, ?_⟩
      exact ⟨v, rfl, .ref a, rfl, a, C, rfl, T.T, T.no, .inl ⟨ha, fun dx hx hn => q dx hx hn⟩⟩
  rcases fm with ⟨y, rfl, hy⟩ | ⟨i, rfl, hi, hy⟩
  · refine .inl ⟨y, rfl, by rw [sizeLine_eq]; omega, ?_⟩
    exact fin y hy
  · exact .inr ⟨i, rfl, hi, fin _ hy⟩
section
variable {K : PySem.W.Frag} {σ : St} {F : Hp} {cs cs1 : Cs} {H : Hp} {te : TE} {W : WX} {D : Ends}
/-- a thing that may stand in the text of an exception -/
def fmB : PyData → Bool
  | .str y => decide (y.length ≤ 1000)
  | .int i => decide (i.natAbs.log2 < 1920) && decide ((toString i : Str).length ≤ 1000)
  | _ => false
theorem fmV_of {v : V} {d : PyData} (h : Dt K F v d) (b : fmB d = true) : FmV v := by
  cases d with
  | str y => cases h.toStr; exact .inl ⟨y, rfl, of_decide_eq_true b⟩
  | int i =>
    cases h.toInt
    obtain ⟨b1, b2⟩ := Bool.and_eq_true_iff.mp b
    exact .inr ⟨i, rfl, of_decide_eq_true b1, of_decide_eq_true b2⟩
  | _ => cases b
theorem s_raiseF {d : PyData} {x f : Str} (s : Sta F cs H) (h : EvD K te σ F cs d cs1) (b : fmB d = true) (hf : fld x = some f) (q : ∀ dd F2 H2, Gr F F2 → Sta F2 cs1 H2 → Xd K F2 (x, d) dd → W (.ref (He.ga K x)) dd σ H2) : tRaiseF K W x f te D σ H := by
  refine h F H .rfl s _ fun v F2 H2 g2 s2 hv => ⟨Nat.le_of_ble_eq_true rfl, fun a ha => ?_⟩
  refine ⟨a, v, rfl, upd_same, fmV_of hv b, fun dx hx hn => ⟨rfl, dx, [(f, v)], upd_same, ?_, ?_, ?_⟩⟩
  · rw [upd_ne hn, upd_same]
  · rw [upd_ne hn] at hx; exact hx
  · rw [upd_ne hn] at hx
    have e : upd (del (upd (upd (upd H2 a (exo a (He.ga K x) none)) dx (exd dx [(f, v)])) a (exo a (He.ga K x) (some dx))) a) dx (.xd [(f, v)]) = upd H2 dx (.xd [(f, v)]) := by
      funext z
      by_cases hz : z = dx
      · rw [hz, upd_same, upd_same]
      · rw [upd_ne hz, upd_ne hz]
        by_cases hza : z = a
        · rw [hza, del_same, ha]
        · rw [del_ne hza, upd_ne hza, upd_ne hz, upd_ne hza]
    rw [e]
    have g3 : Gr F2 (upd F2 dx (.xd [(f, v)])) := Gr.new (s2.fr.back hx)
    refine q _ _ _ (g2.tr g3) (s2.lay hx) ?_
    unfold Xd
    rw [hf]
    exact ⟨dx, v, rfl, upd_same, hv.gr g3⟩
def partM (f : Str) (o : Option Xe) : Option PyData := match o with
  | some e => if fld e.1 = some f then some e.2 else none
  | none => none
theorem d_xat {cl ts : List Str} {o : Option Xe} {v : V} {i : Nat} {f : Str} {d : PyData} (X : XFc K cl ts) (hi : σ[i]? = some (some v)) (hx : Xv K cl F v o) (h : partM f o = some d) : EvD K (tXat K f (tVar i)) σ F cs d cs := fun F1 H1 g1 s Q q => by
  cases o with
  | none => cases h
  | some e =>
    obtain ⟨hc, a, dd, rfl, ha, hxd⟩ := hx
    unfold partM at h
    dsimp only at h
    split at h
    · rename_i hf
      cases h
      unfold Xd at hxd
      rw [hf] at hxd
      obtain ⟨z, w, rfl, hz, hw⟩ := hxd
      obtain ⟨x1, x2⟩ := X.fl _ hc f hf
      refine ⟨.ref a, hi, a, He.ga K e.1, z, [(f, w)], w, rfl, s.fr _ _ (g1 _ _ ha), s.fr _ _ (g1 _ _ hz), x1, x2, ?_, q w F1 H1 .rfl s (hw.gr g1)⟩
      simp [List.lookup]
    · cases h
end
end Bw
namespace Bw
open PySem L2
theorem xd0 {K : PySem.W.Frag} {F : Hp} {c : Str} {d : PyData} (h : fld c = none) : Xd K F (c, d) none := by
  unfold Xd; rw [h]
def fmM (d : PyData) : Option Unit := if fmB d = true then some () else none
theorem fmM_ok {d : PyData} {u : Unit} (h : fmM d = some u) : fmB d = true := by
  unfold fmM at h
  split at h
  · assumption
  · cases h
end Bw

namespace Bw
open PySem PySem.Spec PyProof.Rows L2
/-! an old list, repeated -/
def rRepS (K : PySem.W.Frag) : R2 := fun x y H Q => ∃ l k xs, x = .ref l ∧ y = .int k ∧ SqL K H l xs ∧ -(2 ^ 63) ≤ k ∧ k < 2 ^ 63 ∧ xs.length * k.toNat ≤ sizeLine ∧
  ∀ p, H p = none → Q (.ref p) (upd H p (.lst (List.replicate k.toNat xs).flatten))
theorem rmulW (a : Int) (t : Tok) (l : Addr) (items : Array Value) (n : Nat) (dd : Option Addr) (sl : Array (Option Value)) :
    Meets (Builtin.«int.__rmul__» ⟨[.int a t, .ref l], []⟩) (fun _ R s => s.heap.get? l = some { cls := .type "list", dict := dd, data := .seq items n, slots := sl } ∧ R (.ok (.ret Value.notImplemented)) s) :=
  .of_wp fun prog w A R s h => by
    obtain ⟨hp, g, d, tk, os⟩ := s; obtain ⟨hl, h⟩ := h
    wp_walk using PyProof.Rows.wpAny_loadPart' hl
    exact ⟨_, rfl, h⟩
theorem mulW (l : Addr) (items : Array Value) (n : Nat) (dd : Option Addr) (sl : Array (Option Value)) (x : Int) (u : Tok) (hc0 : ¬(!Builtin.List.listFitsIndex x) = true) (hc1 : ¬items.size * x.toNat > (2 ^ 63 - 1) / 8) (hc2 : ¬Builtin.List.listTooLong (items.size * x.toNat) = true) :
    Meets (Builtin.«list.__mul__» ⟨[.ref l, .int x u], []⟩) (fun _ R s => s.heap.get? l = some { cls := .type "list", dict := dd, data := .seq items n, slots := sl } ∧ R (.ok (.ret (Value.ref s.heap.objs.size))) { s with heap := s.heap.push { cls := Value.type "list", data := Data.seq (List.foldl (fun x1 x2 => x1 ++ x2) #[] (List.replicate (if items.isEmpty = true then 0 else x.toNat) items)) }, toks := s.toks }) :=
  .of_wp fun prog w A R s h => by
    obtain ⟨hp, g, d, tk, os⟩ := s; obtain ⟨hl, h⟩ := h
    have hsz := PySem.AutoListH.joined_fits hc2
    wp_walk using PyProof.Rows.wpAny_loadPart' hl
    refine wpAny_ite_false (decide_eq_false (Nat.not_lt.mpr hsz)) ?_
    wp_walk using PyProof.Rows.wpAny_loadPart' hl
    exact ⟨_, rfl, h⟩
theorem op_repS {X : Cx} : OpR X (binaryOp .Mult) (rRepS X.K) := by
  intro pins s σ H x y v u Q I rx ry h
  obtain ⟨l, k, xs, rfl, rfl, hH, h1, h2, hz, q⟩ := h
  cases rx
  obtain ⟨t, rfl⟩ := ry
  obtain ⟨its, r, pl, _⟩ := I.list hH
  have hl := r.length
  obtain ⟨⟨cls, dd, data, sl⟩, e, hc, n, hd⟩ := pl.isList
  simp only at hc hd
  subst hc hd
  have hlen : its.toArray.size * k.toNat ≤ sizeLine := by rw [List.size_toArray, ← hl]; exact hz
  have hcap : ¬ its.toArray.size * k.toNat > (2 ^ 63 - 1) / 8 := by
    have : (sizeLine : Nat) ≤ (2 ^ 63 - 1) / 8 := by decide
    omega
  have hfit : ¬ (!Builtin.List.listFitsIndex k) = true := by
    rw [fitsIndex_both h1 h2]
    exact Bool.false_ne_true
  have hlong : ¬ Builtin.List.listTooLong (its.toArray.size * k.toNat) = true := by
    rw [notLongL hlen]
    exact Bool.false_ne_true
  have hnew : List.foldl (fun x1 x2 => x1 ++ x2) #[] (List.replicate (if its.toArray.isEmpty = true then 0 else k.toNat) its.toArray) = (List.replicate k.toNat its).flatten.toArray := by
    have f0 : ∀ m : Nat, List.foldl (fun x1 x2 => x1 ++ x2) #[] (List.replicate m its.toArray) = (List.replicate m its).flatten.toArray := fun m => by
      have := foldl_rep its m []
      rw [List.nil_append] at this
      exact this
    rw [f0]
    cases its with
    | nil => simp
    | cons a r' => rw [if_neg (by simp)]
  refine wpAny_binaryOp_repeat_ref (T := "list") (U := "int") (by decide) ⟨_, e, rfl⟩ (fun s' => typeIs_int s' k t) PySem.noFill_list_mul F.fills_int_mul F.slot_int_rmul PySem.repeat_list F.slot_int_index.lookup
    (call_meets F.slot_int_rmul (typeIs_int s k t) F.entry_int_rmul (F.args_int_rmul_2 _ _) (rmulW k t l its.toArray n dd sl)
      ⟨e, rfl, ⟨_, e, rfl⟩, call_meets F.slot_list_mul ⟨_, e, rfl⟩ F.entry_list_mul (F.args_list_mul_2 _ _) (mulW l its.toArray n dd sl k t hfit hcap hlong) ⟨e, ?_⟩⟩)
  rw [hnew]
  exact ⟨.ref _, _, I.lnew (t' := s.toks) (r.rep k.toNat) (by rw [PyProof.Rows.lm_len_rep_flat, Nat.mul_comm]; exact hz), rfl, q _ I.fresh⟩
end Bw
namespace Bw
open PySem L2
section
variable {K : PySem.W.Frag} {σ : St} {F : Hp} {cs cs1 cs2 cs3 : Cs} {ta tb te : TE} {as : TA} {b : Int} {d : PyData}
theorem c_repS {α : Type} {en : α → PyData} {xs zs : List α} (ha : EvD K ta σ F cs (eL en xs) cs1) (hb : EvD K tb σ F cs1 (.int b) cs2) (hz : repM xs b = some zs) : EvC K (tOp (rRepS K) ta tb) σ F cs (zs.map en) cs2 := fun F1 H1 g1 s Q q =>
  ha F1 H1 g1 s _ fun v F2 H2 g2 s2 h2 => hb F2 H2 (g1.tr g2) s2 _ fun w F3 H3 g3 s3 h3 => by
    cases h3.toInt
    obtain ⟨p, vs, rfl, hl, hd⟩ := (h2.gr g3).toLst
    obtain ⟨⟨h4, h5, h6⟩, rfl⟩ := repM_some hz
    refine ⟨p, b, vs, rfl, rfl, gr_L s3.fr hl, h4, h5, ?_, fun l nl => q _ _ _ _ (g2.tr g3) (s3.cell nl) ?_⟩
    · rw [hd.len, List.length_map]; exact sz h6
    · rw [List.map_flatten, List.map_replicate]; exact hd.rep b.toNat
/-- {} as a thing -/
theorem d_dnew : EvD K tDNewK σ F cs (.dict []) cs := fun F1 H1 g1 s Q q => fun p hp => q _ _ _ (Gr.new (s.fr.back hp)) (s.lay hp) (.dct upd_same)
/-! a new list among the arguments -/
def EvN (K : PySem.W.Frag) (ta : TA) (σ : St) (F : Hp) (cs : Cs) (as : List Ar) (us : List V) (cc cs' : Cs) : Prop :=
  ∀ F1 H1, Gr F F1 → Sta F1 cs H1 → ∀ Q : List V → Hp → Prop, (∀ p vs F2 H2, Gr F1 F2 → Sta F2 ((p, .lst us) :: cs') H2 → ArgR K F2 vs as ((p, .lst us) :: cc) → Q vs H2) → ta σ H1 Q
theorem n_new {xs : List Ar} {cc : Cs} {ds : List PyData} {us : List V} (h : EvC K te σ F cs ds cs1) (hu : ∀ F vs, Dts K F vs ds → vs = us) (h2 : ∀ p, EvR K as σ F ((p, .lst us) :: cs1) xs cc ((p, .lst us) :: cs2)) : EvN K (tCons te as) σ F cs (.c us :: xs) us cc cs2 := fun F1 H1 g1 s Q q =>
  h F1 H1 g1 s _ fun p vs F2 H2 g2 s2 hv => by
    cases hu F2 vs hv
    exact h2 p F2 H2 (g1.tr g2) s2 _ fun ws F3 H3 g3 s3 h3 => q p _ F3 H3 (g2.tr g3) s3 (.c h3)
theorem n_d {xs : List Ar} {cc : Cs} {us : List V} (h : EvD K te σ F cs d cs1) (h2 : EvN K as σ F cs1 xs us cc cs2) : EvN K (tCons te as) σ F cs (.d d :: xs) us cc cs2 := fun F1 H1 g1 s Q q =>
  h F1 H1 g1 s _ fun v F2 H2 g2 s2 hv => h2 F2 H2 (g1.tr g2) s2 _ fun p vs F3 H3 g3 s3 h3 => q p _ F3 H3 (g2.tr g3) s3 (.d (hv.gr g3) h3)
theorem d_callM {α β : Type} {A : α → List Ar} {B : β → PyData} {C : β → List (List V)} {f : α → Option β} {x : α} {y : β} {E : XK} {cc cs' : Cs} {us : List V} (h : EvN K as σ F cs (A x) us cc cs2)
    (hp : ∀ p, Sb ((p, .lst us) :: cs2) ((p, .lst us) :: cc ++ cs')) (hf : f x = some y) (hq : ∀ p, Sb (upC ((p, .lst us) :: cc) (C y) ++ cs') cs3) : EvD K (tCall (spC K A B C f) [] E as) σ F cs (B y) cs3 := fun F1 H1 g1 s Q q =>
  h F1 H1 g1 s _ fun p vs F3 H3 g3 s3 h3 => ⟨F3, (p, .lst us) :: cc, cs', x, y, by rw [List.append_nil]; exact h3, hp p _ _ s3, hf, fun v F4 H4 g4 s4 h4 => q v F4 H4 (g3.tr g4) (hq p _ _ s4) h4⟩
theorem c_callM {α β : Type} {A : α → List Ar} {B : β → List PyData} {C : β → List (List V)} {f : α → Option β} {x : α} {y : β} {E : XK} {cc cs' : Cs} {us : List V} (h : EvN K as σ F cs (A x) us cc cs2)
    (hp : ∀ p, Sb ((p, .lst us) :: cs2) ((p, .lst us) :: cc ++ cs')) (hf : f x = some y) (hq : ∀ p z, Sb (z :: (upC ((p, .lst us) :: cc) (C y) ++ cs')) (z :: cs3)) : EvC K (tCall (spF K A B C f) [] E as) σ F cs (B y) cs3 := fun F1 H1 g1 s Q q =>
  h F1 H1 g1 s _ fun p vs F3 H3 g3 s3 h3 => ⟨F3, (p, .lst us) :: cc, cs', x, y, by rw [List.append_nil]; exact h3, hp p _ _ s3, hf, fun p' us' F4 H4 g4 s4 h4 => q p' us' F4 H4 (g3.tr g4) (hq p _ _ _ s4) h4⟩
theorem o_callRM {α β : Type} {A : α → List Ar} {C : β → List (List V)} {R : β → Hp → V → Cs → Prop} {f : α → Option β} {x : α} {y : β} {E : XK} {cc cs' : Cs} {us : List V} {H : Hp} {Q : VK} (s : Sta F cs H) (h : EvN K as σ F cs (A x) us cc cs2)
    (hp : ∀ p, Sb ((p, .lst us) :: cs2) ((p, .lst us) :: cc ++ cs')) (hf : f x = some y) (hq : ∀ p, Su (upC ((p, .lst us) :: cc) (C y) ++ cs') cs3) (q : ∀ v c F2 H2, Gr F F2 → Sta F2 (c ++ cs3) H2 → R y F2 v c → Q v H2) : tCall (spR K A C R f) [] E as σ H Q :=
  h F H .rfl s _ fun p vs F3 H3 g3 s3 h3 => ⟨F3, (p, .lst us) :: cc, cs', x, y, by rw [List.append_nil]; exact h3, hp p _ _ s3, hf, fun v c F4 H4 g4 s4 r => q v c F4 H4 (g3.tr g4) ((su_app (hq p)).sb _ _ s4) r⟩
theorem d_callRM {α β : Type} {A : α → List Ar} {C : β → List (List V)} {R : β → Hp → V → Cs → Prop} {B : β → PyData} {f : α → Option β} {x : α} {y : β} {E : XK} {cc cs' : Cs} {us : List V} (hR : ∀ y F H v c cs, R y F v c → Sta F (c ++ cs) H → ∃ F', Gr F F' ∧ Sta F' cs H ∧ Dt K F' v (B y)) (h : EvN K as σ F cs (A x) us cc cs2)
    (hp : ∀ p, Sb ((p, .lst us) :: cs2) ((p, .lst us) :: cc ++ cs')) (hf : f x = some y) (hq : ∀ p, Su (upC ((p, .lst us) :: cc) (C y) ++ cs') cs3) : EvD K (tCall (spR K A C R f) [] E as) σ F cs (B y) cs3 := fun F1 H1 g1 s Q q =>
  o_callRM s (fun F2 H2 g2 => h F2 H2 (g1.tr g2)) hp hf hq fun v c F3 H3 g3 s3 r => by
    obtain ⟨F4, g4, s4, d4⟩ := hR y F3 H3 v c cs3 r s3
    exact q v F4 H3 (g3.tr g4) s4 d4
/-! a function of one thing, a kept exception or None -/
def spX (K : PySem.W.Frag) (cl : List Str) {β : Type} (B : β → PyData) (f : Option Xe → Option β) : Sp := fun vs H Q _ => ∃ F cs v o y, vs = [v] ∧ Xv K cl F v o ∧ Sta F cs H ∧ f o = some y ∧ ∀ v2 F2 H2, Gr F F2 → Sta F2 cs H2 → Dt K F2 v2 (B y) → Q v2 H2
theorem d_callX1 {cl : List Str} {β : Type} {B : β → PyData} {f : Option Xe → Option β} {o : Option Xe} {y : β} {v : V} {i : Nat} {E : XK} (hi : σ[i]? = some (some v)) (hx : Xv K cl F v o) (hf : f o = some y) : EvD K (tCall (spX K cl B f) [] E (tCons (tVar i) tNil)) σ F cs (B y) cs := fun F1 H1 g1 s Q q =>
  ⟨v, hi, F1, cs, v, o, y, rfl, hx.gr g1, s, hf, fun v2 F2 H2 g2 s2 h2 => q v2 F2 H2 g2 s2 h2⟩
end
end Bw
namespace Bw
open PySem L2
section
variable {K : PySem.W.Frag} {σ : St} {F : Hp} {cs cs1 cs2 : Cs} {ta tb : TE}
/-! and, or: where a later part changes cells -/
theorem t_andC {t u : TT} {a r : Bool} (h1 : EvT t σ F cs a cs1) (h2 : a = true → EvT u σ F cs1 r cs2) (h4 : a = false → r = false ∧ cs1 = cs2) : EvT (tAnd t u) σ F cs r cs2 := fun F1 H1 g1 s Q q => h1 F1 H1 g1 s _ fun F2 H2 g2 s2 => by
  cases a with
  | true => exact h2 rfl F2 H2 (g1.tr g2) s2 Q fun F3 H3 g3 s3 => q F3 H3 (g2.tr g3) s3
  | false => obtain ⟨e1, e2⟩ := h4 rfl; rw [e1] at q; rw [e2] at s2; exact q F2 H2 g2 s2
theorem t_orC {t u : TT} {a r : Bool} (h1 : EvT t σ F cs a cs1) (h2 : a = false → EvT u σ F cs1 r cs2) (h4 : a = true → r = true ∧ cs1 = cs2) : EvT (tOr t u) σ F cs r cs2 := fun F1 H1 g1 s Q q => h1 F1 H1 g1 s _ fun F2 H2 g2 s2 => by
  cases a with
  | false => exact h2 rfl F2 H2 (g1.tr g2) s2 Q fun F3 H3 g3 s3 => q F3 H3 (g2.tr g3) s3
  | true => obtain ⟨e1, e2⟩ := h4 rfl; rw [e1] at q; rw [e2] at s2; exact q F2 H2 g2 s2
theorem d_andC {a r : Bool} (h1 : EvD K ta σ F cs (.bool a) cs1) (h2 : a = true → EvD K tb σ F cs1 (.bool r) cs2) (h4 : a = false → r = false ∧ cs1 = cs2) : EvD K (tAndV ta tb) σ F cs (.bool r) cs2 := fun F1 H1 g1 s Q q => h1 F1 H1 g1 s _ fun v F2 H2 g2 s2 hv => ⟨a, hv.toBl, by
  cases a with
  | true => exact h2 rfl F2 H2 (g1.tr g2) s2 Q fun v F3 H3 g3 s3 k => q v F3 H3 (g2.tr g3) s3 k
  | false => obtain ⟨e1, e2⟩ := h4 rfl; rw [e1] at q; rw [e2] at s2; exact q _ F2 H2 g2 s2 (.bl false)⟩
theorem d_orC {a r : Bool} (h1 : EvD K ta σ F cs (.bool a) cs1) (h2 : a = false → EvD K tb σ F cs1 (.bool r) cs2) (h4 : a = true → r = true ∧ cs1 = cs2) : EvD K (tOrV ta tb) σ F cs (.bool r) cs2 := fun F1 H1 g1 s Q q => h1 F1 H1 g1 s _ fun v F2 H2 g2 s2 hv => ⟨a, hv.toBl, by
  cases a with
  | false => exact h2 rfl F2 H2 (g1.tr g2) s2 Q fun v F3 H3 g3 s3 k => q v F3 H3 (g2.tr g3) s3 k
  | true => obtain ⟨e1, e2⟩ := h4 rfl; rw [e1] at q; rw [e2] at s2; exact q _ F2 H2 g2 s2 (.bl true)⟩
end
end Bw
namespace Bw
open PySem L2
def clsB : Stmt → List Stmt
  | .ClassDef (body := b) .. => b
  | _ => []
abbrev eT5 {α β γ δ ε : Type} (e : α → PyData) (f : β → PyData) (g : γ → PyData) (h : δ → PyData) (i : ε → PyData) (x : α × β × γ × δ × ε) : PyData := .tuple [e x.1, f x.2.1, g x.2.2.1, h x.2.2.2.1, i x.2.2.2.2]
end Bw

namespace L2
open PySem PySem.Spec PyProof.Rows
/-! an instance is made, and its __init__ may raise -/
def tMakeS (C : Addr) (sp : Sp) (E : St → XK) (t : TA) : TE := fun σ H Q => t σ H fun vs H1 => ∀ x dx, H1 x = none → H1 dx = none → dx ≠ x →
  sp (.ref x :: vs) (upd (upd H1 dx (.own x)) x (.ins C dx [])) (fun v H2 => v = .non ∧ Q (.ref x) H2) (E σ)
section
variable {X : Cx} {CX : CXT} {k : Nat} {f C : Addr} {fd : FuncData} {ps : List Str} {sp : Sp} {E : St → XK} {x m : Str} {p pos apos : Pos} {e o : Expr} {es : List Expr} {ta : TE} {t : TA}
theorem run_makeS {pins : List (Addr × Obj)} {σ : St} {H : Hp} {s : Shared} {Q : VK} {us : List Value} {vs : List V} (M : Mk X.K C f) (F : FnOk X.prog X.w X.K X.mg X.base CX k f fd ps sp) (hr : Room (k + 1) X.A) (hb : Binds X.K fd ps [])
    (hx : PassesAt CX X σ (E σ)) (I : Inv X pins σ H s) (r : Vals vs us)
    (h : ∀ x dx, H x = none → H dx = none → dx ≠ x → sp (.ref x :: vs) (upd (upd H dx (.own x)) x (.ins C dx [])) (fun v H2 => v = .non ∧ Q (.ref x) H2) (E σ)) :
    wpAny (model X.prog X.w) X.A (call (.ref C) us) (EP X pins σ Q) X.xe s := by
  have hq := h (s.heap.objs.size + 1) s.heap.objs.size (I.hok.fresh (Nat.le_succ _)) (I.hok.fresh (Nat.le_refl _)) (Nat.ne_of_lt (Nat.lt_succ_self _))
  have I2 := Inv.made (C := C) I
  have r2 : Vals (V.ref (s.heap.objs.size + 1) :: vs) (Value.ref (s.heap.objs.size + 1) :: us) := .cons rfl r
  have hl : (Value.ref (s.heap.objs.size + 1) :: us).length = ps.length := by
    have e := r2.length
    rw [F.len _ _ _ _ hq] at e
    exact e.symm
  have b := hb _ (Value.ref (s.heap.objs.size + 1) :: us) I2.kIn (by rw [List.append_nil]; exact hl)
  rw [List.append_nil] at b
  refine wpAny_call (make_map (f := f) I.kIn M.makes M.init (beq_iff_eq.mp M.fn) (codeAny_mono (F.run _ X.stack _ _ ⟨Value.ref (s.heap.objs.size + 1) :: us, []⟩ (Value.ref (s.heap.objs.size + 1) :: us) _ _ (E σ) (hr.make C us [])
    (I2.env0.make C us []) b r2 hq) fun r s' hq' => ?_))
  cases r with
  | error e => exact hx pins _ _ e s' I2 hq'
  | ok fl =>
    cases fl with
    | ret u =>
      obtain ⟨v, H', I3, rv, ev, q3⟩ := I2.after hq'
      subst ev
      exact ⟨rv, ⟨V.ref (s.heap.objs.size + 1), H', I3, rfl, q3⟩⟩
    | next => exact False.elim hq'
    | brk => exact False.elim hq'
    | cont => exact False.elim hq'
theorem pe_makeS (M : Mk X.K C f) (F : FnOk X.prog X.w X.K X.mg X.base CX k f fd ps sp) (hr : Room (k + 1) X.A) (hg : Gl X x) (hm : X.mg x = some (.ref C)) (hb : Binds X.K fd ps []) (hx : ∀ σ, PassesAt CX X σ (E σ))
    (ha : PA X (e :: es) t) (hdb : (x == ("__debug__" : Str)) = false := by decide) (he : starEach (e :: es) X.env = (false, eval e X.env) :: starEach es X.env := by rfl) (hpl : (backTo pos (starEach es X.env)).any (·.1) = false := by rfl) :
    PE X (.Call (.Name x p) (e :: es) [] pos) (tMakeS C sp E t) := by
  refine ⟨fun pins s σ H Q I h => ?_⟩
  refine wpAny_Call_Name_kw (ld_glob I hg hm ?_ hdb)
  refine PySem.W.callWith_K (h₀ := X.base) I.ok.mod.kin M.kp (thn (ha.run pos pins s σ H _ I h) fun us s1 ⟨vs, H1, I1, r, q⟩ => ⟨I1.kIn, ?_⟩) he hpl
  exact run_makeS M F hr hb (hx σ) I1 r q
end
end L2
namespace Bw
open PySem L2
/-- a promise of an __init__ that ends by an exception -/
def spMX (K : PySem.W.Frag) (C : Addr) {α : Type} (A : α → List PyData) (f : α → Option (Rs Unit)) : Sp := fun vs H _ E => ∃ F cs a dx ws x e, vs = .ref a :: ws ∧ Dts K F ws (A x) ∧ Sta F ((a, .ins C dx []) :: (dx, .own a) :: cs) H ∧ f x = some (.ex e) ∧
  ∀ d F2 H2, Gr F F2 → Sta F2 cs H2 → Xd K F2 e d → E (.ref (He.ga K e.1)) d H2
structure OkM (P : Program) (w : World) (K : PySem.W.Frag) (mg : Str → Option Value) (base : Heap) (k : Nat) (x : Str) (ps : List Str) (sp : Sp) : Prop where
  ex : ∃ fd, FnOk P w K mg base (L2.CX P w) k (He.ma K (He.ga K x) "__init__") fd ps sp ∧ Binds K fd ps []
  gm : mg x = some (.ref (He.ga K x))
  mkr : Mk K (He.ga K x) (He.ma K (He.ga K x) "__init__")
/-- a method's def -/
def DfM (K : PySem.W.Frag) (c m q : Str) (st : Stmt) : Prop := ∃ fd, FunD K m q (defArgs st) (defBody st) (defScope st) [] [] (He.ma K (He.ga K c) m) fd
section
variable {K : PySem.W.Frag} {σ : St} {F : Hp} {cs cs1 : Cs} {H : Hp} {as : TA} {W : WX}
theorem x_makeX {α : Type} {C : Addr} {A : α → List PyData} {f : α → Option (Rs Unit)} {x : α} {e : Xe} (h : EvDs K as σ F cs (A x) cs1) (hf : f x = some (.ex e)) : EvX K (tMakeS C (spMX K C A f) (WE W) as) W σ F cs (.ex e) cs1 := fun F1 H1 g1 s Q q qx =>
  h F1 H1 g1 s _ fun vs F2 H2 g2 s2 h2 => fun a dx ha hdx hne => by
    have s3 : Sta F2 ((dx, .own a) :: cs1) (upd H2 dx (.own a)) := s2.cell hdx
    have s4 : Sta F2 ((a, .ins C dx []) :: (dx, .own a) :: cs1) (upd (upd H2 dx (.own a)) a (.ins C dx [])) := s3.cell (by rw [upd_ne (Ne.symm hne)]; exact ha)
    exact ⟨F2, cs1, a, dx, vs, x, e, rfl, h2, s4, hf, fun d F3 H3 g3 s5 xd => qx e rfl d F3 H3 (g2.tr g3) s5 xd⟩
end
end Bw
namespace Bw
open PySem L2
theorem exinj {β : Type} {c e : Xe} (h : some (Rs.ex c : Rs β) = some (.ex e)) : c = e := by cases h; rfl
end Bw
namespace Bw
open PySem L2
theorem ref_inj {a b : Addr} (h : (some (Value.ref a) : Option Value) = some (Value.ref b)) : a = b := by cases h; rfl
end Bw
namespace Bw
open PySem L2
section
variable {K : PySem.W.Frag} {σ : St} {F : Hp} {te : TE}
theorem s_insGV {α : Type} {en : α → PyData} {k1 k2 m1 m2 l1 l2 : Cs} {to ti : TE} {p : Addr} {vs : List V} {xs ys : List α} {x : α} {k : Int} {nx bk ct : St → Hp → Prop} {rt : VK} {H : Hp} (s : Sta F (k1 ++ (p, .lst vs) :: k2) H) (hf : Dts K F vs (xs.map en)) (hi : VP to σ F (k1 ++ (p, .lst vs) :: k2) (.ref p))
    (h1 : EvD K ti σ F (k1 ++ (p, .lst vs) :: k2) (.int k) (m1 ++ (p, .lst vs) :: m2)) (h : EvD K te σ F (m1 ++ (p, .lst vs) :: m2) (en x) (l1 ++ (p, .lst vs) :: l2)) (hm : insM xs k x = some ys)
    (q : ∀ us F2 H2, Gr F F2 → Sta F2 (l1 ++ (p, .lst us) :: l2) H2 → Dts K F2 us (ys.map en) → nx σ H2) : tDrop (tBM K "list" rInsert to (tCons ti (tCons te tNil))) ⟨nx, rt, bk, ct⟩ σ H := by
  unfold insM at hm; split at hm
  · rename_i hl
    cases hm
    refine hi F H .rfl s _ ⟨.inl ⟨rfl, _, .inl (.inl s.getAt)⟩, h1 F H .rfl s _ fun v F2 H2 g2 s2 hv => h F2 H2 g2 s2 _ fun w F3 H3 g3 s3 hx => ⟨p, vs, k, w, rfl, by rw [hv.toInt], s3.getAt, by rw [hf.len, List.length_map]; exact szl hl.1, hl.2.1, hl.2.2, q _ F3 _ (g2.tr g3) s3.putAt ?_⟩⟩
    rw [List.map_append, List.map_append, List.map_take, List.map_drop]
    have hf3 := hf.gr (g2.tr g3)
    exact ((hf3.take _).app (.cons hx .nil)).app (hf3.drop _)
  · cases hm
end
end Bw

namespace Bw
open PySem L2
/-! a dict that is walked is locked the while -/
theorem nt_f {o : Obj} {kvs : List (Key × V)} : nTup (.frz o (.dK kvs)) := fun xs => ⟨fun z => (nomatch z), fun _ z => by cases z⟩
theorem Sta.lockAt {F : Hp} {l1 l2 : Cs} {H : Hp} {p : Addr} {o o' : HO} (s : Sta F (l1 ++ (p, o) :: l2) H) : Sta (upd F p o') (l1 ++ l2) (upd H p o') := (s.putAt (o' := o')).frozeAt
theorem Sta.unlockAt {F F2 : Hp} {l1 l2 : Cs} {H2 : Hp} {p : Addr} {o o' : HO} (g : Gr (upd F p o') F2) (s : Sta F2 (l1 ++ l2) H2) : Sta (cut F2 p) (l1 ++ (p, o) :: l2) (upd H2 p o) := (Sta.lent g s).putAt
section
variable {K : PySem.W.Frag} {σ : St} {F : Hp} {cs cs1 : Cs} {te : TE} {d : PyData}
theorem c_lock {l1 l2 m1 m2 : Cs} {p : Addr} {kvs : List (Key × V)} {ds : List PyData} (hn : noLs ds = true) (h : ∀ od F1, Gr F F1 → F1 p = none → EvC K te σ (upd F1 p (.frz od (.dK kvs))) (l1 ++ l2) ds (m1 ++ m2)) :
    EvC K (tLockE te) σ F (l1 ++ (p, .dK kvs) :: l2) ds (m1 ++ (p, .dK kvs) :: m2) := fun F1 H1 g1 s Q q => by
  refine ⟨p, .dK kvs, s.getAt, True.intro, fun od => ?_⟩
  refine h od F1 g1 s.freeAt (upd F1 p (.frz od (.dK kvs))) _ .rfl s.lockAt _ fun a vs F2 H2 g2 s2 h2 => ?_
  refine ⟨s2.fr _ _ (g2 p _ upd_same), ?_⟩
  exact q a vs (cut F2 p) _ (gr_cut s.freeAt g2) (Sta.unlockAt (l1 := (a, .lst vs) :: m1) g2 s2) (h2.cutO (g2 p _ upd_same) nt_f hn)
theorem src_items {κ ν : Type} {p : Addr} {od : Obj} {xs : List (κ × ν)} {kf : κ → Key} {vf : ν → V} {ek : κ → PyData} {ev : ν → PyData} (hk : ∀ F k, Dt K F (kV (kf k)) (ek k)) (hv : ∀ F x, Dt K F (vf x) (ev x)) (h : F p = some (.frz od (.dK (kvE kf vf xs)))) : Src K (Iti p od (kvE kf vf xs)) F (xs.map (eT2 ek ev)) := fun F1 c1 H1 g s => by
  have hH : H1 p = some (.frz od (.dK (kvE kf vf xs))) := s.fr _ _ (g _ _ h)
  have w := walk_items (d := p) (o := od) (kvs := kvE kf vf xs)
  have len : (kvE kf vf xs).length = xs.length := List.length_map ..
  refine ⟨fun i hi => w.goes i H1 (by rw [len]; simpa using hi) hH, ?_, fun i v H2 d e y => ?_⟩
  · have := w.stops H1 hH
    rw [len] at this
    rw [List.length_map]; exact this
  · rw [List.getElem?_map] at e
    cases ex : xs[i]? with
    | none => rw [ex] at e; cases e
    | some kv =>
      rw [ex] at e
      cases e
      have hi := (List.getElem?_eq_some_iff.mp ex).1
      obtain ⟨T, x, z, rfl, nT, rfl, hx, hz⟩ := w.yields i H1 v H2 (by rw [len]; exact hi) hH y
      have ek : (kvE kf vf xs)[i]? = some (kf kv.1, vf kv.2) := by unfold kvE; rw [List.getElem?_map, ex]; rfl
      dsimp only at hx hz
      rw [ek] at hx hz
      cases hx
      cases hz
      have gg := Gr.new (o := .tup [kV (kf kv.1), vf kv.2]) (s.fr.back nT)
      exact ⟨_, gg, s.lay nT, .tup (.inl (.inl upd_same)) (.cons (hk _ _) (.cons (hv _ _) .nil))⟩
theorem i_items {κ ν : Type} {p : Addr} {od : Obj} {xs : List (κ × ν)} {kf : κ → Key} {vf : ν → V} {ek : κ → PyData} {ev : ν → PyData} (hk : ∀ F k, Dt K F (kV (kf k)) (ek k)) (hv : ∀ F x, Dt K F (vf x) (ev x)) (hi : VP te σ F cs (.ref p)) (h : F p = some (.frz od (.dK (kvE kf vf xs)))) : EvI K (iItems te) σ F cs (xs.map (eT2 ek ev)) cs := fun F1 H1 g1 s R q =>
  hi F1 H1 g1 s _ ⟨p, od, _, rfl, s.fr _ _ (g1 _ _ h), q _ F1 H1 .rfl s (src_items hk hv (g1 _ _ h))⟩
end
end Bw

namespace Bw
open PySem L2
section
variable {K : PySem.W.Frag} {σ : St} {F : Hp} {cs cs1 cs2 : Cs} {te : TE} {d : PyData}
/-! comprehensions whose tests and elements change cells -/
theorem c_lcT {S α β : Type} {wi : TI} {g : TG} {tt : TT} {vs : List Nat} {xs : List α} {en : α → PyData} {em : β → PyData} {f : S → α → Option (S × Option β)} {ys : List β} {s0 s1 : S} (cc : S → Cs)
    (hi : EvI K wi σ F cs (xs.map en) (cc s0)) (hm : lcSC f s0 xs = some (s1, ys))
    (turn : ∀ x z z' o v F1 p us, Gr F F1 → Dt K F1 v (en x) → f z x = some (z', o) → ∃ (σ2 : St) (z1 : S), (∀ H (Q : St → Hp → Prop), Sta F1 ((p, .lst us) :: cc z) H → Q σ2 H → g v (wipe σ vs) H Q) ∧ wipe σ2 vs = wipe σ vs ∧
      EvT tt σ2 F1 ((p, .lst us) :: cc z) o.isSome ((p, .lst us) :: cc z1) ∧ (o = none → z' = z1) ∧ ∀ y, o = some y → EvD K te σ2 F1 ((p, .lst us) :: cc z1) (em y) ((p, .lst us) :: cc z')) :
    EvC K (tLc wi g tt te vs) σ F cs (ys.map em) (cc s1) := fun F1 H1 g1 s Q q => by
  unfold lcSC at hm
  split at hm
  case isFalse => cases hm
  rename_i hl
  refine hi F1 H1 g1 s _ fun J F2 H2 g2 s2 hs => ?_
  intro p hp
  have s3 : Sta F2 ((p, .lst []) :: cc s0) (upd H2 p (.lst [])) := s2.cell hp
  refine ⟨fun i m H4 => m = xs.length - i ∧ i ≤ xs.length ∧ ∃ us done rest z F4, us.length ≤ i ∧ Gr F2 F4 ∧ Sta F4 ((p, .lst us) :: cc z) H4 ∧ Dts K F4 us (done.map em) ∧ lcS f z (xs.drop i) = some (s1, rest) ∧ done ++ rest = ys,
    ⟨xs.length, by simp, Nat.zero_le _, [], [], ys, s0, F2, Nat.le_refl _, .rfl, s3, .nil, by simpa using hm, rfl⟩, ?_⟩
  rintro i m H4 ⟨rfl, hi, us, done, rest, z, F4, hu, g4, s4, hd, hr, he⟩
  obtain ⟨hgo, hstop, hy⟩ := hs F4 _ H4 g4 s4
  by_cases hlt : i < xs.length
  · rw [List.drop_eq_getElem_cons hlt] at hr
    obtain ⟨⟨z', o⟩, ho, hr⟩ := bnd (show (f z xs[i]).bind _ = some (s1, rest) from hr)
    obtain ⟨⟨s1', zs⟩, hz, hr⟩ := bnd hr
    dsimp only at hz hr
    refine .inr ⟨hgo i (by simpa using hlt), fun H' => i + 1 ≤ xs.length ∧ ∃ us done rest z F4, us.length ≤ i + 1 ∧ Gr F2 F4 ∧ Sta F4 ((p, .lst us) :: cc z) H' ∧ Dts K F4 us (done.map em) ∧ lcS f z (xs.drop (i + 1)) = some (s1, rest) ∧ done ++ rest = ys, fun H' h' => ⟨xs.length - (i + 1), by omega, rfl, h'⟩, fun x H' y => ?_⟩
    obtain ⟨F5, g5, s5, d5⟩ := hy i x H' (en xs[i]) (by rw [List.getElem?_map, List.getElem?_eq_getElem hlt]; rfl) y
    obtain ⟨σ2, z1, h1, h2, h3, hn, h4⟩ := turn xs[i] z z' o x F5 p us (g1.tr (g2.tr (g4.tr g5))) d5 ho
    refine h1 H' _ s5 ⟨h2, h3 F5 H' .rfl s5 _ fun F6 H6 g6 s6 => ?_⟩
    cases o with
    | none =>
      cases hr
      cases hn rfl
      exact ⟨hlt, us, done, zs, z', F6, Nat.le_succ_of_le hu, g4.tr (g5.tr g6), s6, hd.gr (g5.tr g6), hz, he⟩
    | some y1 =>
      cases hr
      refine (h4 y1 rfl) F6 H6 g6 s6 _ fun v F7 H7 g7 s7 hv => ⟨us, s7.at List.mem_cons_self, szl (by omega), hlt, us ++ [v], done ++ [y1], zs, z', F7, by rw [List.length_append]; exact Nat.succ_le_succ hu, g4.tr (g5.tr (g6.tr g7)), s7.put, ?_, hz, ?_⟩
      · rw [List.map_append]
        exact (hd.gr (g5.tr (g6.tr g7))).app (.cons hv .nil)
      · rw [List.append_assoc]; exact he
  · have e : i = xs.length := by omega
    subst e
    rw [List.drop_length] at hr
    cases hr
    rw [List.append_nil] at he
    subst he
    exact .inl ⟨by simpa using hstop, q p us F4 H4 (g2.tr g4) s4 hd⟩
/-! tests that may raise -/
def EvTX (K : PySem.W.Frag) (tt : TT) (W : WX) (σ : St) (F : Hp) (cs : Cs) (r : Rs Bool) (cs' : Cs) : Prop :=
  ∀ F1 H1, Gr F F1 → Sta F1 cs H1 → ∀ Q : Bool → Hp → Prop, (∀ b, r = .ok b → ∀ F2 H2, Gr F1 F2 → Sta F2 cs' H2 → Q b H2) → (∀ c, r = .ex c → ∀ d F2 H2, Gr F1 F2 → Sta F2 cs' H2 → Xd K F2 c d → W (.ref (He.ga K c.1)) d σ H2) → tt σ H1 Q
def andXM (a : Rs Bool) (b : Unit → Option (Rs Bool)) : Option (Rs Bool) := match a with
  | .ok true => b ()
  | .ok false => some (.ok false)
  | .ex c => some (.ex c)
def orXM (a : Rs Bool) (b : Unit → Option (Rs Bool)) : Option (Rs Bool) := match a with
  | .ok false => b ()
  | .ok true => some (.ok true)
  | .ex c => some (.ex c)
variable {W : WX} {t u : TT}
theorem tx_of {b : Bool} (h : EvT t σ F cs b cs1) : EvTX K t W σ F cs (.ok b) cs1 := fun F1 H1 g1 s Q q _ => h F1 H1 g1 s _ fun F2 H2 g2 s2 => q b rfl F2 H2 g2 s2
theorem tx_and {a r : Rs Bool} {b : Unit → Option (Rs Bool)} (h1 : EvTX K t W σ F cs a cs1) (hm : andXM a b = some r) (h2 : ∀ r', b () = some r' → EvTX K u W σ F cs1 r' cs1) : EvTX K (tAnd t u) W σ F cs r cs1 := fun F1 H1 g1 s Q q qx =>
  h1 F1 H1 g1 s _ (fun b' hb F2 H2 g2 s2 => by
    subst hb
    cases b' with
    | true => exact (h2 r hm) F2 H2 (g1.tr g2) s2 Q (fun b e F3 H3 g3 s3 => q b e F3 H3 (g2.tr g3) s3) fun c e d F3 H3 g3 s3 xd => qx c e d F3 H3 (g2.tr g3) s3 xd
    | false =>
      cases (show some (Rs.ok false) = some r from hm)
      exact q false rfl F2 H2 g2 s2) fun c hc d F2 H2 g2 s2 xd => by
    subst hc
    cases (show some (Rs.ex c) = some r from hm)
    exact qx c rfl d F2 H2 g2 s2 xd
theorem tx_or {a r : Rs Bool} {b : Unit → Option (Rs Bool)} (h1 : EvTX K t W σ F cs a cs1) (hm : orXM a b = some r) (h2 : ∀ r', b () = some r' → EvTX K u W σ F cs1 r' cs1) : EvTX K (tOr t u) W σ F cs r cs1 := fun F1 H1 g1 s Q q qx =>
  h1 F1 H1 g1 s _ (fun b' hb F2 H2 g2 s2 => by
    subst hb
    cases b' with
    | false => exact (h2 r hm) F2 H2 (g1.tr g2) s2 Q (fun b e F3 H3 g3 s3 => q b e F3 H3 (g2.tr g3) s3) fun c e d F3 H3 g3 s3 xd => qx c e d F3 H3 (g2.tr g3) s3 xd
    | true =>
      cases (show some (Rs.ok true) = some r from hm)
      exact q true rfl F2 H2 g2 s2) fun c hc d F2 H2 g2 s2 xd => by
    subst hc
    cases (show some (Rs.ex c) = some r from hm)
    exact qx c rfl d F2 H2 g2 s2 xd
theorem tx_v {r : Rs Bool} (h : EvX K te W σ F cs (r.map PyData.bool) cs1) : EvTX K (tB te) W σ F cs r cs1 := fun F1 H1 g1 s Q q qx =>
  h F1 H1 g1 s _ (fun d hd v F2 H2 g2 s2 hv => by
    cases r with
    | ok b => cases hd; exact ⟨b, hv.toBl, q b rfl F2 H2 g2 s2⟩
    | ex c => cases hd) fun c hc d F2 H2 g2 s2 xd => by
    cases r with
    | ok b => cases hc
    | ex c' => cases hc; exact qx c rfl d F2 H2 g2 s2 xd
theorem tx_test {r : Rs Bool} (h : EvX K te W σ F cs (r.map PyData.bool) cs1) : EvTX K (tTest te) W σ F cs r cs1 := tx_v h
theorem x_isN {α : Type} {r : Rs α} (h : EvX K te W σ F cs (r.map fun _ => PyData.none) cs1) : EvX K (tOp rIsN te (tC .non)) W σ F cs ((r.map fun _ => true).map PyData.bool) cs1 := fun F1 H1 g1 s Q q qx =>
  h F1 H1 g1 s _ (fun d hd v F2 H2 g2 s2 hv => by
    cases r with
    | ok b =>
      cases hd
      cases hv.toNon
      exact ⟨rfl, q _ rfl _ F2 H2 g2 s2 (.bl _)⟩
    | ex c => cases hd) fun c hc d F2 H2 g2 s2 xd => by
    cases r with
    | ok b => cases hc
    | ex c' => cases hc; exact qx c rfl d F2 H2 g2 s2 xd
theorem x_isi {α : Type} {e : α → PyData} {r : Rs α} {c : String} (hc : c ∈ isiK) (h : EvX K te W σ F cs (r.map e) cs1) : EvX K (tCB (rIsi K) (tCons te (tCons (tC (.ty c)) tNil))) W σ F cs ((r.map fun y => isiD c (e y)).map PyData.bool) cs1 := fun F1 H1 g1 s Q q qx =>
  h F1 H1 g1 s _ (fun d hd v F2 H2 g2 s2 hv => by
    cases r with
    | ok b =>
      cases hd
      exact ⟨v, .ty c, .type (kindD (e b)), .type c, isiD c (e b), rfl, .ty c, ty_of s2.fr hv, kit_isi hc (e b), q _ rfl _ F2 H2 g2 s2 (.bl _)⟩
    | ex c => cases hd) fun c hc d F2 H2 g2 s2 xd => by
    cases r with
    | ok b => cases hc
    | ex c' => cases hc; exact qx c rfl d F2 H2 g2 s2 xd
theorem s_ifX {c : TT} {r r' : Rs Bool} {t u : TS} {H : Hp} {nx bk ct : St → Hp → Prop} {rt : VK} (s : Sta F cs H) (h : EvTX K c W σ F cs r cs1) (e : r = r') (qt : r' = .ok true → ∀ F2 H2, Gr F F2 → Sta F2 cs1 H2 → t ⟨nx, rt, bk, ct⟩ σ H2) (qf : r' = .ok false → ∀ F2 H2, Gr F F2 → Sta F2 cs1 H2 → u ⟨nx, rt, bk, ct⟩ σ H2)
    (qx : ∀ c, r' = .ex c → ∀ d F2 H2, Gr F F2 → Sta F2 cs1 H2 → Xd K F2 c d → W (.ref (He.ga K c.1)) d σ H2) : tIfS c t u ⟨nx, rt, bk, ct⟩ σ H := by
  subst e
  exact h F H .rfl s _ (fun b hb F2 H2 g2 s2 => by
    cases b with
    | true => exact qt hb F2 H2 g2 s2
    | false => exact qf hb F2 H2 g2 s2) qx
end
end Bw
namespace Bw
open PySem L2
/-! in range(n) -/
abbrev rRange1 : List V → Hp → VK → Prop := fun vs H Q => ∃ j, vs = [V.int j] ∧ ∀ p, H p = none → Q (.ref p) (upd H p (.rng 0 j))
theorem cr_range1' {X : Cx} : CallR X (.type "range") rRange1 := by
  intro pins s σ H vs us Q I r h
  obtain ⟨j, rfl, q⟩ := h
  obtain ⟨u1, rfl, rj⟩ := vals1 r
  obtain ⟨u, rfl⟩ := rj
  refine call_range_1 ⟨.ref s.heap.objs.size, upd H s.heap.objs.size (.rng 0 j), I.laid (t' := s.toks + 1 + 1) (fun b o e => Heap.get?_push_of_some _ e) (Nat.le_refl _) ?_, rfl, q _ (I.hok.fresh (Nat.le_refl _))⟩
  exact ⟨s.toks, u, s.toks + 1, Heap.get?_push_size _ rfl⟩
section
variable {K : PySem.W.Frag} {σ : St} {F : Hp} {cs cs1 cs2 : Cs} {ta : TE} {as : TA} {a c : Int}
theorem d_inRng1 (ha : EvD K ta σ F cs (.int a) cs1) (hb : EvDs K as σ F cs1 [.int c] cs2) : EvD K (tOp rInRng ta (tCB rRange1 as)) σ F cs (.bool (decide (0 ≤ a ∧ a < c))) cs2 := fun F1 H1 g1 s Q q =>
  ha F1 H1 g1 s _ fun v F2 H2 g2 s2 h2 => hb F2 H2 (g1.tr g2) s2 _ fun vs F3 H3 g3 s3 h3 => by
    cases h2.toInt
    obtain ⟨w, rfl, k1⟩ := h3.one; cases k1.toInt
    exact ⟨c, rfl, fun p hp => ⟨a, p, 0, c, rfl, rfl, upd_same, q _ _ _ ((g2.tr g3).tr (Gr.new (s3.fr.back hp))) (s3.lay hp) (.bl _)⟩⟩
theorem d_ninRng1 (ha : EvD K ta σ F cs (.int a) cs1) (hb : EvDs K as σ F cs1 [.int c] cs2) : EvD K (tOp rNinRng ta (tCB rRange1 as)) σ F cs (.bool (!decide (0 ≤ a ∧ a < c))) cs2 := fun F1 H1 g1 s Q q =>
  ha F1 H1 g1 s _ fun v F2 H2 g2 s2 h2 => hb F2 H2 (g1.tr g2) s2 _ fun vs F3 H3 g3 s3 h3 => by
    cases h2.toInt
    obtain ⟨w, rfl, k1⟩ := h3.one; cases k1.toInt
    exact ⟨c, rfl, fun p hp => ⟨a, p, 0, c, rfl, rfl, upd_same, q _ _ _ ((g2.tr g3).tr (Gr.new (s3.fr.back hp))) (s3.lay hp) (.bl _)⟩⟩
end
end Bw
namespace Bw
open PySem L2
section
variable {K : PySem.W.Frag} {σ : St} {F : Hp} {cs cs1 cs2 : Cs} {ta tb : TE}
theorem d_inTI {x : Int} {xs : List Int} (ha : EvD K ta σ F cs (.int x) cs1) (hb : EvD K tb σ F cs1 (.tuple (xs.map eI)) cs2) : EvD K (tOp (rIn K false) ta tb) σ F cs (.bool (inL x xs)) cs2 :=
  d_op ha hb fun _ y F2 H2 hx hy s _ Q q => by
    cases hx.toInt
    obtain ⟨p, vs, rfl, hl, hd⟩ := hy.toTup
    cases hd.ints
    refine ⟨p, _, rfl, .inr (gr_T s.fr hl), rfl, flatI xs, q _ F2 H2 .rfl s ?_⟩
    rw [inV_int]; exact .bl _
theorem d_ninTI {x : Int} {xs : List Int} (ha : EvD K ta σ F cs (.int x) cs1) (hb : EvD K tb σ F cs1 (.tuple (xs.map eI)) cs2) : EvD K (tOp (rIn K true) ta tb) σ F cs (.bool (!inL x xs)) cs2 :=
  d_op ha hb fun _ y F2 H2 hx hy s _ Q q => by
    cases hx.toInt
    obtain ⟨p, vs, rfl, hl, hd⟩ := hy.toTup
    cases hd.ints
    refine ⟨p, _, rfl, .inr (gr_T s.fr hl), rfl, flatI xs, q _ F2 H2 .rfl s ?_⟩
    rw [inV_int]; exact .bl _
theorem d_inTS {x : Str} {xs : List Str} (ha : EvD K ta σ F cs (.str x) cs1) (hb : EvD K tb σ F cs1 (.tuple (xs.map eS)) cs2) : EvD K (tOp (rIn K false) ta tb) σ F cs (.bool (inL x xs)) cs2 :=
  d_op ha hb fun _ y F2 H2 hx hy s _ Q q => by
    cases hx.toStr
    obtain ⟨p, vs, rfl, hl, hd⟩ := hy.toTup
    cases hd.strs
    refine ⟨p, _, rfl, .inr (gr_T s.fr hl), rfl, flatS xs, q _ F2 H2 .rfl s ?_⟩
    rw [inV_str]; exact .bl _
theorem d_ninTS {x : Str} {xs : List Str} (ha : EvD K ta σ F cs (.str x) cs1) (hb : EvD K tb σ F cs1 (.tuple (xs.map eS)) cs2) : EvD K (tOp (rIn K true) ta tb) σ F cs (.bool (!inL x xs)) cs2 :=
  d_op ha hb fun _ y F2 H2 hx hy s _ Q q => by
    cases hx.toStr
    obtain ⟨p, vs, rfl, hl, hd⟩ := hy.toTup
    cases hd.strs
    refine ⟨p, _, rfl, .inr (gr_T s.fr hl), rfl, flatS xs, q _ F2 H2 .rfl s ?_⟩
    rw [inV_str]; exact .bl _
end
end Bw
namespace Bw
open PySem L2
/-! list(range(n)) -/
def lrgM (a b : Int) : Option (List Int) := (rngM a b).bind fun xs => if xs.length ≤ 100000 then some xs else none
theorem c_listRg1 {K : PySem.W.Frag} {σ : St} {F : Hp} {cs cs1 : Cs} {ta : TE} {n : Int} {xs : List Int} (h : EvD K ta σ F cs (.int n) cs1) (hm : lrgM 0 n = some xs) : EvC K (tLstRg (tRg1 ta)) σ F cs (xs.map eI) cs1 := fun F1 H1 g1 s Q q => by
  obtain ⟨ys, h1, h2⟩ := bnd hm
  obtain ⟨hr, rfl⟩ := rngM_some h1
  split at h2
  case isFalse => cases h2
  rename_i hl
  cases h2
  refine h F1 H1 g1 s _ fun v F2 H2 g2 s2 hv => ?_
  cases hv.toInt
  have e : rgV 0 n = (rngL 0 n).map V.int := by unfold rgV rngL; rw [List.map_map]; rfl
  refine ⟨n, rfl, ⟨hr.1, hr.2.1, hr.2.2.1, hr.2.2.2, ?_⟩, fun p hp => ?_⟩
  · unfold rngL at hl; rw [List.length_map, List.length_range] at hl; omega
  · rw [e]
    exact q p _ F2 _ g2 (s2.cell hp) (Dts.of_ints _)
end Bw

namespace L2
open PySem PySem.Spec PyProof.Rows
/-! methods that may raise -/
def tMeE (C : Addr) (m : Str) (sp : Sp) (E : St → XK) (ta : TE) (t : TA) : TE := fun σ H Q => ta σ H fun x H1 => ∃ a dx fs, x = .ref a ∧ H1 a = some (.ins C dx fs) ∧ fs.lookup m = none ∧
  t σ H1 fun vs H2 => sp (x :: vs) H2 Q (E σ)
section
variable {X : Cx} {CX : CXT} {k : Nat} {f C : Addr} {fd : FuncData} {ps : List Str} {sp : Sp} {E : St → XK} {x m : Str} {p pos apos : Pos} {e o : Expr} {es : List Expr} {ta : TE} {t : TA}
theorem pe_meE {pl : Sem Bool} (he : PE X o ta) (c : Cls X.K C) (hm : Meth X.K C m f) (F : FnOk X.prog X.w X.K X.mg X.base CX k f fd ps sp) (hr : Room k X.A) (hb : Binds X.K fd ps []) (hx : ∀ σ, PassesAt CX X σ (E σ)) (ha : PA X (e :: es) t)
    (hst : starEach (e :: es) X.env = (false, eval e X.env) :: starEach es X.env := by rfl) (hpl : (backTo pos (starEach es X.env)).any (·.1) = false := by rfl)
    (ht : eval (.Call (.Attribute o m apos) (e :: es) [] pos) X.env = (do
      let ov ← eval o X.env
      standAt apos.atName
      let (f, first) ← holding [ov] (getMethod ov m pl)
      callWith pos f first (backTo pos (starEach (e :: es) X.env)) (backToKw pos (keywordEach [] X.env))) := by rfl) :
    PE X (.Call (.Attribute o m apos) (e :: es) [] pos) (tMeE C m sp E ta t) := by
  refine ⟨fun pins s σ H Q I h => ?_⟩
  refine PySem.W.methodCall_KW (pl := pl) (thn (he.run pins s σ H _ I h) fun u s1 ⟨x, H1, I1, rx, a, dx, fs, ex, ea, l, q⟩ => ?_) ht
  subst ex
  obtain rfl : u = Value.ref a := rx
  refine getmeth_ok I1 ea c hm l ?_
  refine PySem.W.callWith_K (first := [.ref a]) (h₀ := X.base) I.ok.mod.kin hm.kp (thn (ha.run pos pins s1 σ H1 _ I1 q) fun us s2 ⟨vs, H2, I2, r, q2⟩ => ⟨I2.kIn, ?_⟩) hst hpl
  exact run_fnS (us := .ref a :: us) (vs := .ref a :: vs) F hr hb (hx σ) I2 (.cons rfl r) q2
theorem pe_meE0 {pl : Sem Bool} (he : PE X o ta) (c : Cls X.K C) (hm : Meth X.K C m f) (F : FnOk X.prog X.w X.K X.mg X.base CX k f fd ps sp) (hr : Room k X.A) (hb : Binds X.K fd ps []) (hx : ∀ σ, PassesAt CX X σ (E σ))
    (ht : eval (.Call (.Attribute o m apos) [] [] pos) X.env = (do
      let ov ← eval o X.env
      standAt apos.atName
      let (f, first) ← holding [ov] (getMethod ov m pl)
      callWith pos f first (backTo pos (starEach [] X.env)) (backToKw pos (keywordEach [] X.env))) := by rfl) :
    PE X (.Call (.Attribute o m apos) [] [] pos) (tMeE C m sp E ta tNil) := by
  refine ⟨fun pins s σ H Q I h => ?_⟩
  refine PySem.W.methodCall_KW (pl := pl) (thn (he.run pins s σ H _ I h) fun u s1 ⟨x, H1, I1, rx, a, dx, fs, ex, ea, l, q⟩ => ?_) ht
  subst ex
  obtain rfl : u = Value.ref a := rx
  refine getmeth_ok I1 ea c hm l ?_
  exact PySem.W.callWith_K0 (first := [.ref a]) I1.kIn hm.kp (run_fnS (us := [.ref a]) (vs := [.ref a]) F hr hb (hx σ) I1 (.cons rfl .nil) q)
end
end L2
namespace Bw
open PySem L2
/-- a method that holds its promise: the same contexts as Ok (no exception) and OkX -/
structure OkMe (P : Program) (w : World) (K : PySem.W.Frag) (mg : Str → Option Value) (base : Heap) (CX : CXT) (k : Nat) (C m : Str) (ps : List Str) (sp : Sp) : Prop where
  ex : ∃ fd, FnOk P w K mg base CX k (He.ma K (He.ga K C) m) fd ps sp ∧ Binds K fd ps []
  cl : Cls K (He.ga K C)
  me : Meth K (He.ga K C) m (He.ma K (He.ga K C) m)
/-- a class that can be made -/
structure OkMk (P : Program) (w : World) (K : PySem.W.Frag) (mg : Str → Option Value) (base : Heap) (CX : CXT) (k : Nat) (C : Str) (ps : List Str) (sp : Sp) : Prop where
  ex : ∃ fd, FnOk P w K mg base CX k (He.ma K (He.ga K C) "__init__") fd ps sp ∧ Binds K fd ps []
  gm : mg C = some (.ref (He.ga K C))
  mkr : Mk K (He.ga K C) (He.ma K (He.ga K C) "__init__")
def adV : V → Addr
  | .ref a => a
  | _ => (0 : Nat)
section
variable {K : PySem.W.Frag} {σ : St} {F F' : Hp} {cs cs1 cs2 cs3 : Cs} {ta tb te tv : TE} {d : PyData} {as : TA} {nx bk ct : St → Hp → Prop} {rt : VK} {H : Hp} {t u : TS}
/-! fields -/
theorem vp_fld {a C dx : Addr} {fs : List (Str × V)} {f : Str} {v : V} (h : VP te σ F cs (.ref a)) (hm : (a, HO.ins C dx fs) ∈ cs) (c : Cls K C) (n : NoAttr K C f) (hl : fs.lookup f = some v) : VP (tFld K te f) σ F cs v :=
  fun F1 H1 g s Q q => h F1 H1 g s _ ⟨a, C, dx, fs, v, rfl, s.has _ hm, c, n, hl, q⟩
theorem s_fldO {f : Str} (h : tv σ H fun y H1 => ta σ H1 fun x H2 => ∃ a C dx fs, x = .ref a ∧ H2 a = some (.ins C dx fs) ∧ Cls K C ∧ NoAttr K C f ∧ fs.length < 1000 ∧ nx σ (upd H2 a (.ins C dx (putF f y fs)))) :
    sFld K ta tv f ⟨nx, rt, bk, ct⟩ σ H := h
theorem o_fld {Q : Hp → Prop} {l1 l2 : Cs} {a C dx : Addr} {fs fs' : List (Str × V)} {f : Str} {v : V} (s : Sta F (l1 ++ (a, .ins C dx fs) :: l2) H) (hp : VP ta σ F (l1 ++ (a, .ins C dx fs) :: l2) (.ref a)) (c : Cls K C) (n : NoAttr K C f) (hl : fs.length < 1000) (e : putF f v fs = fs')
    (q : ∀ H2, Sta F (l1 ++ (a, .ins C dx fs') :: l2) H2 → Q H2) : ta σ H fun x H2 => ∃ a C dx fs, x = .ref a ∧ H2 a = some (.ins C dx fs) ∧ Cls K C ∧ NoAttr K C f ∧ fs.length < 1000 ∧ Q (upd H2 a (.ins C dx (putF f v fs))) := by
  refine hp F H Gr.rfl s _ ⟨a, C, dx, fs, rfl, s.getAt, c, n, hl, ?_⟩
  rw [e]
  exact q _ s.putAt
theorem s_fldAdd {l1 l2 m1 m2 : Cs} {a C dx : Addr} {fs fs' : List (Str × V)} {f : Str} {w b : Int} (s : Sta F (l1 ++ (a, .ins C dx fs) :: l2) H) (hp : VP ta σ F (l1 ++ (a, .ins C dx fs) :: l2) (.ref a)) (c : Cls K C) (n : NoAttr K C f) (hk : fs.lookup f = some (.int w))
    (h : EvD K tv σ F (l1 ++ (a, .ins C dx fs) :: l2) (.int b) (m1 ++ (a, .ins C dx fs) :: m2)) (hl : fs.length < 1000) (e : putF f (.int (w + b)) fs = fs') (q : ∀ F2 H2, Gr F F2 → Sta F2 (m1 ++ (a, .ins C dx fs') :: m2) H2 → nx σ H2) :
    sFldAug K ta tv rAdd f ⟨nx, rt, bk, ct⟩ σ H := by
  refine hp F H Gr.rfl s _ ⟨a, C, dx, fs, _, rfl, s.getAt, c, n, hk, h F H Gr.rfl s _ fun v F2 H2 g2 s2 hv => ?_⟩
  cases hv.toInt
  refine ⟨w, b, rfl, rfl, dx, fs, s2.getAt, hl, ?_⟩
  rw [e]
  exact q F2 _ g2 s2.putAt
theorem s_fldSub {l1 l2 m1 m2 : Cs} {a C dx : Addr} {fs fs' : List (Str × V)} {f : Str} {w b : Int} (s : Sta F (l1 ++ (a, .ins C dx fs) :: l2) H) (hp : VP ta σ F (l1 ++ (a, .ins C dx fs) :: l2) (.ref a)) (c : Cls K C) (n : NoAttr K C f) (hk : fs.lookup f = some (.int w))
    (h : EvD K tv σ F (l1 ++ (a, .ins C dx fs) :: l2) (.int b) (m1 ++ (a, .ins C dx fs) :: m2)) (hl : fs.length < 1000) (e : putF f (.int (w - b)) fs = fs') (q : ∀ F2 H2, Gr F F2 → Sta F2 (m1 ++ (a, .ins C dx fs') :: m2) H2 → nx σ H2) :
    sFldAug K ta tv rSub f ⟨nx, rt, bk, ct⟩ σ H := by
  refine hp F H Gr.rfl s _ ⟨a, C, dx, fs, _, rfl, s.getAt, c, n, hk, h F H Gr.rfl s _ fun v F2 H2 g2 s2 hv => ?_⟩
  cases hv.toInt
  refine ⟨w, b, rfl, rfl, dx, fs, s2.getAt, hl, ?_⟩
  rw [e]
  exact q F2 _ g2 s2.putAt
/-! promises with things that are owned -/
inductive Ag where
  | d (x : PyData)
  | o (P : Hp → V → Cs → Prop)
inductive ArgG (K : PySem.W.Frag) (F : Hp) : List V → List Ag → Cs → Prop
  | nil : ArgG K F [] [] []
  | d {v : V} {x : PyData} {vs : List V} {as : List Ag} {cs : Cs} : Dt K F v x → ArgG K F vs as cs → ArgG K F (v :: vs) (.d x :: as) cs
  | o {v : V} {P : Hp → V → Cs → Prop} {c : Cs} {vs : List V} {as : List Ag} {cs : Cs} : P F v c → ArgG K F vs as cs → ArgG K F (v :: vs) (.o P :: as) (c ++ cs)
theorem ArgG.no {vs : List V} {cs : Cs} (h : ArgG K F vs [] cs) : vs = [] ∧ cs = [] := by cases h; exact ⟨rfl, rfl⟩
theorem ArgG.hd {vs : List V} {x : PyData} {as : List Ag} {cs : Cs} (h : ArgG K F vs (.d x :: as) cs) : ∃ v ws, vs = v :: ws ∧ Dt K F v x ∧ ArgG K F ws as cs := by
  cases h with | d a b => exact ⟨_, _, rfl, a, b⟩
theorem ArgG.ho {vs : List V} {P : Hp → V → Cs → Prop} {as : List Ag} {cs : Cs} (h : ArgG K F vs (.o P :: as) cs) : ∃ v ws c cs', vs = v :: ws ∧ cs = c ++ cs' ∧ P F v c ∧ ArgG K F ws as cs' := by
  cases h with | o a b => exact ⟨_, _, _, _, rfl, rfl, a, b⟩
theorem ArgG.len : ∀ {vs : List V} {as : List Ag} {cs : Cs}, ArgG K F vs as cs → vs.length = as.length
  | _, _, _, .nil => rfl
  | _, _, _, .d _ t => by rw [List.length_cons, List.length_cons, t.len]
  | _, _, _, .o _ t => by rw [List.length_cons, List.length_cons, t.len]
/-- the general promise: what is owned comes in and goes out changed -/
def spG (K : PySem.W.Frag) {α β : Type} (A : α → List Ag) (R : β → Hp → List V → V → Cs → Prop) (f : α → Option β) : Sp := fun vs H Q _ => ∃ F cc cs x y, ArgG K F vs (A x) cc ∧ Sta F (cc ++ cs) H ∧ f x = some y ∧
  ∀ v c F2 H2, Gr F F2 → Sta F2 (c ++ cs) H2 → R y F2 vs v c → Q v H2
/-- the same, where it may raise: what is owned stays then as it was -/
def spGX (K : PySem.W.Frag) {α β : Type} (A : α → List Ag) (R : β → Hp → List V → V → Cs → Prop) (f : α → Option (Rs β)) : Sp := fun vs H Q E => ∃ F cc cs x r, ArgG K F vs (A x) cc ∧ Sta F (cc ++ cs) H ∧ f x = some r ∧
  (∀ y, r = .ok y → ∀ v c F2 H2, Gr F F2 → Sta F2 (c ++ cs) H2 → R y F2 vs v c → Q v H2) ∧ ∀ e, r = .ex e → ∀ d F2 H2, Gr F F2 → Sta F2 (cc ++ cs) H2 → Xd K F2 e d → E (.ref (He.ga K e.1)) d H2
/-- an __init__ -/
def spMk (K : PySem.W.Frag) (C : Addr) {α β : Type} (A : α → List PyData) (O : β → Hp → Addr → Cs → Prop) (f : α → Option β) : Sp := fun vs H Q _ => ∃ F cs a dx ws x y, vs = .ref a :: ws ∧ Dts K F ws (A x) ∧ Sta F ((a, .ins C dx []) :: (dx, .own a) :: cs) H ∧ f x = some y ∧
  ∀ c F2 H2, Gr F F2 → Sta F2 (c ++ cs) H2 → O y F2 a c → Q .non H2
def spMkX (K : PySem.W.Frag) (C : Addr) {α β : Type} (A : α → List PyData) (O : β → Hp → Addr → Cs → Prop) (f : α → Option (Rs β)) : Sp := fun vs H Q E => ∃ F cs a dx ws x r, vs = .ref a :: ws ∧ Dts K F ws (A x) ∧ Sta F ((a, .ins C dx []) :: (dx, .own a) :: cs) H ∧ f x = some r ∧
  (∀ y, r = .ok y → ∀ c F2 H2, Gr F F2 → Sta F2 (c ++ cs) H2 → O y F2 a c → Q .non H2) ∧ ∀ e, r = .ex e → ∀ d F2 H2, Gr F F2 → Sta F2 cs H2 → Xd K F2 e d → E (.ref (He.ga K e.1)) d H2
/-- borrowed: the first thing is an owned one that stays as it is, the others are data -/
def spB (K : PySem.W.Frag) {α β : Type} (O : α → Hp → Addr → Cs → Prop) (A : α → List PyData) (B : β → PyData) (f : α → Option β) : Sp := fun vs H Q _ => ∃ F cc cs a ws x y, vs = .ref a :: ws ∧ O x F a cc ∧ Dts K F ws (A x) ∧ Sta F (cc ++ cs) H ∧ f x = some y ∧
  ∀ v F2 H2, Gr F F2 → Sta F2 (cc ++ cs) H2 → Dt K F2 v (B y) → Q v H2
def spBF (K : PySem.W.Frag) {α β : Type} (O : α → Hp → Addr → Cs → Prop) (A : α → List PyData) (B : β → List PyData) (f : α → Option β) : Sp := fun vs H Q _ => ∃ F cc cs a ws x y, vs = .ref a :: ws ∧ O x F a cc ∧ Dts K F ws (A x) ∧ Sta F (cc ++ cs) H ∧ f x = some y ∧
  ∀ p us F2 H2, Gr F F2 → Sta F2 ((p, .lst us) :: (cc ++ cs)) H2 → Dts K F2 us (B y) → Q (.ref p) H2
/-! direct steps -/
theorem o_call {sp : Sp} {E : XK} {Q : VK} (h : as σ H fun vs H1 => sp (vs ++ []) H1 Q E) : tCall sp [] E as σ H Q := h
theorem o_callS {sp : Sp} {E : St → XK} {Q : VK} (h : as σ H fun vs H1 => sp vs H1 Q (E σ)) : tCallS sp E as σ H Q := h
theorem o_meth {l1 l2 : Cs} {a C dx : Addr} {fs : List (Str × V)} {m : Str} {sp : Sp} {E : XK} {Q : VK} (s : Sta F (l1 ++ (a, .ins C dx fs) :: l2) H) (hp : VP ta σ F (l1 ++ (a, .ins C dx fs) :: l2) (.ref a)) (hl : fs.lookup m = none)
    (h : as σ H fun vs H2 => sp (.ref a :: (vs ++ [])) H2 Q E) : tMeth C m sp [] E ta as σ H Q := hp F H Gr.rfl s _ ⟨a, dx, fs, rfl, s.getAt, hl, h⟩
theorem o_meE {l1 l2 : Cs} {a C dx : Addr} {fs : List (Str × V)} {m : Str} {sp : Sp} {E : St → XK} {Q : VK} (s : Sta F (l1 ++ (a, .ins C dx fs) :: l2) H) (hp : VP ta σ F (l1 ++ (a, .ins C dx fs) :: l2) (.ref a)) (hl : fs.lookup m = none)
    (h : as σ H fun vs H2 => sp (.ref a :: vs) H2 Q (E σ)) : tMeE C m sp E ta as σ H Q := hp F H Gr.rfl s _ ⟨a, dx, fs, rfl, s.getAt, hl, h⟩
theorem Sta.make {C a dx : Addr} (s : Sta F cs H) (ha : H a = none) (hd : H dx = none) (hne : dx ≠ a) : Sta F ((a, .ins C dx []) :: (dx, .own a) :: cs) (upd (upd H dx (.own a)) a (.ins C dx [])) := by
  have s1 := s.cell (o := .own a) hd
  refine s1.cell ?_
  rw [upd_ne (Ne.symm hne)]
  exact ha
theorem o_make {C : Addr} {sp : Sp} {E : XK} {Q : VK} (h : as σ H fun vs H1 => ∀ x dx, H1 x = none → H1 dx = none → dx ≠ x → sp (.ref x :: (vs ++ [])) (upd (upd H1 dx (.own x)) x (.ins C dx [])) (fun v H2 => v = .non ∧ Q (.ref x) H2) E) : tMake C sp [] E as σ H Q := h
theorem o_makeS {C : Addr} {sp : Sp} {E : St → XK} {Q : VK} (h : as σ H fun vs H1 => ∀ x dx, H1 x = none → H1 dx = none → dx ≠ x → sp (.ref x :: vs) (upd (upd H1 dx (.own x)) x (.ins C dx [])) (fun v H2 => v = .non ∧ Q (.ref x) H2) (E σ)) : tMakeS C sp E as σ H Q := h
/-- a test that is a value told by a direct step -/
theorem o_if {c : TT} (h : c σ H fun b H1 => (b = true → t ⟨nx, rt, bk, ct⟩ σ H1) ∧ (b = false → u ⟨nx, rt, bk, ct⟩ σ H1)) : tIfS c t u ⟨nx, rt, bk, ct⟩ σ H := by
  unfold tIfS
  refine cast ?_ h
  congr
  funext b H1
  cases b <;> simp
/-! borrowing calls within expressions -/
theorem EvDs.sta {ds : List PyData} (h : EvDs K as σ F cs ds cs1) : ∀ F1 H1, Gr F F1 → Sta F1 cs H1 → ∀ Q : List V → Hp → Prop, (∀ vs F2 H2, Gr F1 F2 → Sta F2 cs1 H2 → Dts K F2 vs ds → Q vs H2) → as σ H1 Q := h
theorem d_methB {α β : Type} {O : α → Hp → Addr → Cs → Prop} {A : α → List PyData} {B : β → PyData} {f : α → Option β} {x : α} {y : β} {a C dx : Addr} {fs : List (Str × V)} {m : Str} {E : XK} {cc cs' : Cs} (hp : VP ta σ F cs (.ref a)) (hm : (a, HO.ins C dx fs) ∈ cs) (hl : fs.lookup m = none)
    (h : EvDs K as σ F cs (A x) cs1) (ho : ∀ F', Gr F F' → O x F' a cc) (h1 : Sb cs1 (cc ++ cs')) (h2 : Sb (cc ++ cs') cs1) (hf : f x = some y) : EvD K (tMeth C m (spB K O A B f) [] E ta as) σ F cs (B y) cs1 := fun F1 H1 g1 s Q q => by
  refine hp F1 H1 g1 s _ ⟨a, dx, fs, rfl, s.has _ hm, hl, ?_⟩
  refine h F1 H1 g1 s _ fun vs F2 H2 g2 s2 hv => ?_
  rw [List.append_nil]
  exact ⟨F2, cc, cs', a, vs, x, y, rfl, ho F2 (g1.tr g2), hv, h1 _ _ s2, hf, fun v F3 H3 g3 s3 hv3 => q v F3 H3 (g2.tr g3) (h2 _ _ s3) hv3⟩
theorem c_methB {α β : Type} {O : α → Hp → Addr → Cs → Prop} {A : α → List PyData} {B : β → List PyData} {f : α → Option β} {x : α} {y : β} {a C dx : Addr} {fs : List (Str × V)} {m : Str} {E : XK} {cc cs' : Cs} (hp : VP ta σ F cs (.ref a)) (hm : (a, HO.ins C dx fs) ∈ cs) (hl : fs.lookup m = none)
    (h : EvDs K as σ F cs (A x) cs1) (ho : ∀ F', Gr F F' → O x F' a cc) (h1 : Sb cs1 (cc ++ cs')) (h2 : ∀ z, Sb (z :: (cc ++ cs')) (z :: cs1)) (hf : f x = some y) : EvC K (tMeth C m (spBF K O A B f) [] E ta as) σ F cs (B y) cs1 := fun F1 H1 g1 s Q q => by
  refine hp F1 H1 g1 s _ ⟨a, dx, fs, rfl, s.has _ hm, hl, ?_⟩
  refine h F1 H1 g1 s _ fun vs F2 H2 g2 s2 hv => ?_
  rw [List.append_nil]
  exact ⟨F2, cc, cs', a, vs, x, y, rfl, ho F2 (g1.tr g2), hv, h1 _ _ s2, hf, fun p us F3 H3 g3 s3 hu => q p us F3 H3 (g2.tr g3) (h2 _ _ _ s3) hu⟩
theorem d_callB {α β : Type} {O : α → Hp → Addr → Cs → Prop} {A : α → List PyData} {B : β → PyData} {f : α → Option β} {x : α} {y : β} {a : Addr} {E : XK} {cc cs' : Cs} (hp : VP ta σ F cs (.ref a))
    (h : EvDs K as σ F cs (A x) cs1) (ho : ∀ F', Gr F F' → O x F' a cc) (h1 : Sb cs1 (cc ++ cs')) (h2 : Sb (cc ++ cs') cs1) (hf : f x = some y) : EvD K (tCall (spB K O A B f) [] E (tCons ta as)) σ F cs (B y) cs1 := fun F1 H1 g1 s Q q => by
  refine hp F1 H1 g1 s _ ?_
  refine h F1 H1 g1 s _ fun vs F2 H2 g2 s2 hv => ?_
  show spB K O A B f (V.ref a :: (vs ++ [])) H2 Q E
  rw [List.append_nil]
  exact ⟨F2, cc, cs', a, vs, x, y, rfl, ho F2 (g1.tr g2), hv, h1 _ _ s2, hf, fun v F3 H3 g3 s3 hv3 => q v F3 H3 (g2.tr g3) (h2 _ _ s3) hv3⟩
theorem c_callB {α β : Type} {O : α → Hp → Addr → Cs → Prop} {A : α → List PyData} {B : β → List PyData} {f : α → Option β} {x : α} {y : β} {a : Addr} {E : XK} {cc cs' : Cs} (hp : VP ta σ F cs (.ref a))
    (h : EvDs K as σ F cs (A x) cs1) (ho : ∀ F', Gr F F' → O x F' a cc) (h1 : Sb cs1 (cc ++ cs')) (h2 : ∀ z, Sb (z :: (cc ++ cs')) (z :: cs1)) (hf : f x = some y) : EvC K (tCall (spBF K O A B f) [] E (tCons ta as)) σ F cs (B y) cs1 := fun F1 H1 g1 s Q q => by
  refine hp F1 H1 g1 s _ ?_
  refine h F1 H1 g1 s _ fun vs F2 H2 g2 s2 hv => ?_
  show spBF K O A B f (V.ref a :: (vs ++ [])) H2 Q E
  rw [List.append_nil]
  exact ⟨F2, cc, cs', a, vs, x, y, rfl, ho F2 (g1.tr g2), hv, h1 _ _ s2, hf, fun p us F3 H3 g3 s3 hu => q p us F3 H3 (g2.tr g3) (h2 _ _ _ s3) hu⟩
end
end Bw
namespace Bw
open PySem L2
/-- an owned list of things that stand -/
def OL (K : PySem.W.Frag) {α : Type} (e : α → PyData) (xs : List α) (F : Hp) (a : Addr) (c : Cs) : Prop := ∃ us, c = [(a, .lst us)] ∧ Dts K F us (xs.map e)
section
variable {K : PySem.W.Frag} {σ : St} {F F' : Hp} {cs cs1 cs2 : Cs} {to te : TE} {H : Hp} {t : TT}
theorem o_not {Q : Bool → Hp → Prop} (h : t σ H fun b H1 => Q (!b) H1) : tNot t σ H Q := h
theorem o_tB {Q : Bool → Hp → Prop} (h : te σ H fun v H1 => ∃ b, v = .bl b ∧ Q b H1) : tB te σ H Q := h
theorem o_dnew {κ ν : Type} {kf : κ → Key} {vf : ν → V} {Q : VK} (s : Sta F cs H) (q : ∀ p H2, Sta F ((p, .dK (kvE kf vf [])) :: cs) H2 → Q (.ref p) H2) : tDNewK σ H Q := fun p hp => q p _ (s.cell hp)
theorem pop0_dts {α : Type} {en : α → PyData} {xs ys : List α} {x : α} {us : List V} (k : popM xs 0 = some (x, ys)) (h : Dts K F us (xs.map en)) : ∃ u us', us = u :: us' ∧ Dt K F u (en x) ∧ Dts K F us' (ys.map en) := by
  obtain ⟨_, j, h1, h2, rfl⟩ := popM_some k
  cases xs with
  | nil => simp at h2
  | cons z zs =>
    have : j = 0 := by
      have e : seqIndex? (0 : Int) (z :: zs).length = some 0 := by unfold seqIndex?; simp
      rw [e] at h1; exact (Option.some.inj h1).symm
    subst this
    simp at h2; subst h2
    obtain ⟨u, us', rfl, a, b⟩ := Dts.hd h
    exact ⟨u, us', rfl, a, b⟩
theorem d_pop0 {l1 l2 : Cs} {p : Addr} {u : V} {us : List V} {d : PyData} (hp : VP to σ F (l1 ++ (p, .lst (u :: us)) :: l2) (.ref p)) (hd : Dt K F u d) :
    EvD K (tBM K "list" rPopAt to (tCons (tC (.int 0)) tNil)) σ F (l1 ++ (p, .lst (u :: us)) :: l2) d (l1 ++ (p, .lst us) :: l2) := fun F1 H1 g1 s Q q => by
  refine hp F1 H1 g1 s _ ⟨?_, p, u :: us, 0, 0, u, rfl, rfl, s.getAt, by decide, by decide, by unfold seqIndex?; simp, rfl, ?_⟩
  · exact .inl ⟨rfl, _, .inl (.inl s.getAt)⟩
  · exact q _ F1 _ Gr.rfl s.putAt (hd.gr g1)
end
end Bw
namespace Bw
open PySem L2 PyProof.Rows PySem.Spec
/-! texts, sorted -/
theorem lt_cons (x y : Nat) (a b : List Nat) : ltCps (x :: a) (y :: b) = true ↔ x < y ∨ x = y ∧ ltCps a b = true := by simp [ltCps]
theorem lt_tri : ∀ a b : List Nat, ltCps a b = true ∨ a = b ∨ ltCps b a = true
  | [], [] => .inr (.inl rfl)
  | [], _ :: _ => .inl (by simp [ltCps])
  | _ :: _, [] => .inr (.inr (by simp [ltCps]))
  | x :: a, y :: b => by
    rw [lt_cons, lt_cons]
    rcases Nat.lt_trichotomy x y with h | h | h
    · exact .inl (.inl h)
    · subst h
      rcases lt_tri a b with h | h | h
      · exact .inl (.inr ⟨rfl, h⟩)
      · exact .inr (.inl (by rw [h]))
      · exact .inr (.inr (.inr ⟨rfl, h⟩))
    · exact .inr (.inr (.inl h))
theorem lt_trans : ∀ a b c : List Nat, ltCps a b = true → ltCps b c = true → ltCps a c = true
  | [], [], _, h, _ => by simp [ltCps] at h
  | [], _ :: _, [], _, h => by simp [ltCps] at h
  | [], _ :: _, _ :: _, _, _ => by simp [ltCps]
  | _ :: _, [], _, h, _ => by simp [ltCps] at h
  | _ :: _, _ :: _, [], _, h => by simp [ltCps] at h
  | x :: a, y :: b, z :: c, h, k => by
    rw [lt_cons] at h k ⊢
    rcases h with h | ⟨rfl, h⟩
    · rcases k with k | ⟨rfl, k⟩
      · exact .inl (Nat.lt_trans h k)
      · exact .inl h
    · rcases k with k | ⟨rfl, k⟩
      · exact .inl k
      · exact .inr ⟨rfl, lt_trans a b c h k⟩
theorem lt_irr : ∀ a : List Nat, ltCps a a = false
  | [] => rfl
  | x :: a => by
    cases h : ltCps (x :: a) (x :: a) with
    | false => rfl
    | true =>
      rw [lt_cons] at h
      rcases h with h | ⟨_, h⟩
      · exact absurd h (Nat.lt_irrefl _)
      · rw [lt_irr a] at h; cases h
/-- x stands not behind y -/
def leS (x y : Str) : Prop := ltCps y.cps.toList x.cps.toList = false
instance (x y : Str) : Decidable (leS x y) := inferInstanceAs (Decidable (_ = _))
theorem str_ext {x y : Str} (h : x.cps.toList = y.cps.toList) : x = y := by
  obtain ⟨⟨a⟩⟩ := x; obtain ⟨⟨b⟩⟩ := y
  simp at h; subst h; rfl
theorem leS_antisymm {x y : Str} (h : leS x y) (k : leS y x) : x = y := by
  rcases lt_tri x.cps.toList y.cps.toList with q | q | q
  · unfold leS at k; rw [q] at k; cases k
  · exact str_ext q
  · unfold leS at h; rw [q] at h; cases h
theorem leS_total (x y : Str) : leS x y ∨ leS y x := by
  unfold leS
  rcases lt_tri x.cps.toList y.cps.toList with q | q | q
  · left
    cases h : ltCps y.cps.toList x.cps.toList with
    | false => rfl
    | true => have := lt_trans _ _ _ q h; rw [lt_irr] at this; cases this
  · left; rw [q]; exact lt_irr _
  · right
    cases h : ltCps x.cps.toList y.cps.toList with
    | false => rfl
    | true => have := lt_trans _ _ _ q h; rw [lt_irr] at this; cases this
theorem leS_trans {x y z : Str} (h : leS x y) (k : leS y z) : leS x z := by
  unfold leS at *
  cases q : ltCps z.cps.toList x.cps.toList with
  | false => rfl
  | true =>
    rcases lt_tri y.cps.toList x.cps.toList with r | r | r
    · rw [h] at r; cases r
    · rw [← r, k] at q; cases q
    · have := lt_trans _ _ _ q r; rw [k] at this; cases this
def insS (x : Str) : List Str → List Str
  | [] => [x]
  | y :: ys => if leS x y then x :: y :: ys else y :: insS x ys
def srtS : List Str → List Str
  | [] => []
  | x :: xs => insS x (srtS xs)
theorem insS_perm (x : Str) : ∀ ys, (insS x ys).Perm (x :: ys)
  | [] => .refl _
  | y :: ys => by
    unfold insS
    split
    · exact .refl _
    · exact ((insS_perm x ys).cons y).trans (.swap x y ys)
theorem srtS_perm : ∀ xs, (srtS xs).Perm xs
  | [] => .refl _
  | x :: xs => (insS_perm x _).trans ((srtS_perm xs).cons x)
theorem insS_sort (x : Str) : ∀ ys, ys.Pairwise leS → (insS x ys).Pairwise leS
  | [], _ => List.pairwise_singleton _ _
  | y :: ys, h => by
    rw [List.pairwise_cons] at h
    unfold insS
    split
    · rename_i q
      rw [List.pairwise_cons]
      exact ⟨fun z hz => by rcases List.mem_cons.mp hz with rfl | hz; (exact q); (exact leS_trans q (h.1 z hz)), List.pairwise_cons.mpr h⟩
    · rename_i q
      rw [List.pairwise_cons]
      refine ⟨fun z hz => ?_, insS_sort x ys h.2⟩
      rcases List.mem_cons.mp ((insS_perm x ys).mem_iff.mp hz) with rfl | hz
      · exact (leS_total _ _).resolve_left q
      · exact h.1 z hz
theorem srtS_sort : ∀ xs, (srtS xs).Pairwise leS
  | [] => List.Pairwise.nil
  | x :: xs => insS_sort x _ (srtS_sort xs)
theorem sortS_uniq : ∀ (xs ys : List Str), xs.Perm ys → xs.Pairwise leS → ys.Pairwise leS → xs = ys
  | [], ys, p, _, _ => (List.Perm.nil_eq p)
  | x :: xs, [], p, _, _ => by have := p.length_eq; simp at this
  | x :: xs, y :: ys, p, h, k => by
    rw [List.pairwise_cons] at h k
    have e : x = y := by
      rcases List.mem_cons.mp (p.mem_iff.mp List.mem_cons_self) with h1 | h1
      · exact h1
      · rcases List.mem_cons.mp (p.mem_iff.mpr List.mem_cons_self) with h2 | h2
        · exact h2.symm
        · exact leS_antisymm (h.1 y h2) (k.1 x h1)
    subst e
    rw [sortS_uniq xs ys (List.Perm.cons_inv p) h.2 k.2]
theorem rising_pw : ∀ (xs : List Str) (p : Str), risingS p xs = true → (p :: xs).Pairwise leS
  | [], p, _ => List.pairwise_singleton _ _
  | x :: xs, p, h => by
    unfold risingS at h
    rw [Bool.and_eq_true, Bool.not_eq_true'] at h
    have ih := rising_pw xs x h.2
    rw [List.pairwise_cons]
    refine ⟨fun z hz => ?_, ih⟩
    rcases List.mem_cons.mp hz with rfl | hz
    · exact h.1
    · exact leS_trans h.1 ((List.pairwise_cons.mp ih).1 z hz)
theorem sorted_pw {xs : List Str} (h : sortedS xs = true) : xs.Pairwise leS := by
  cases xs with
  | nil => exact List.Pairwise.nil
  | cons x xs => exact rising_pw xs x h
def srtM (xs : List Str) : Option (List Str) := if xs.length < 64 then some (srtS xs) else none
def idxM {α : Type} [BEq α] (xs : List α) (x : α) : Option Int := (xs.findIdx? fun y => y == x).map fun (j : Nat) => (j : Int)
section
variable {K : PySem.W.Frag} {σ : L2.St} {F : Hp} {cs cs1 cs2 : Cs} {as : TA} {ta tb : TE}
theorem c_sortedS {xs ys : List Str} (h : EvDs K as σ F cs [eL eS xs] cs1) (hm : srtM xs = some ys) : EvC K (tCB (rSortedS K) as) σ F cs (ys.map eS) cs1 := fun F1 H1 g1 s Q q => by
  unfold srtM at hm
  split at hm
  case isFalse => cases hm
  rename_i hl
  cases hm
  refine h F1 H1 g1 s _ fun vs F2 H2 g2 s2 hv => ?_
  obtain ⟨v, rfl, hv2⟩ := Dts.one hv
  obtain ⟨a, us, rfl, hq, hd⟩ := hv2.toLst
  obtain rfl := Dts.strs hd
  refine ⟨a, xs, rfl, gr_L s2.fr hq, hl, fun zs p pm so hp => ?_⟩
  obtain rfl := sortS_uniq zs (srtS xs) (pm.trans (srtS_perm xs).symm) (sorted_pw so) (srtS_sort xs)
  exact q p _ F2 _ g2 (s2.cell hp) (Dts.of_strs _)
theorem d_idxI {xs : List Int} {x j : Int} (ha : EvD K ta σ F cs (eL eI xs) cs1) (hb : EvD K tb σ F cs1 (.int x) cs2) (hm : idxM xs x = some j) : EvD K (tBM K "list" (rIndex K) ta (tCons tb tNil)) σ F cs (.int j) cs2 := fun F1 H1 g1 s Q q => by
  unfold idxM at hm
  rw [Option.map_eq_some_iff] at hm
  obtain ⟨n, hn, rfl⟩ := hm
  rw [List.findIdx?_eq_some_iff_getElem] at hn
  obtain ⟨hlt, hx, hno⟩ := hn
  refine ha F1 H1 g1 s _ fun v F2 H2 g2 s2 hv => ?_
  obtain ⟨a, us, rfl, hq, hd⟩ := hv.toLst
  obtain rfl := Dts.ints hd
  refine ⟨.inl ⟨rfl, _, gr_L s2.fr hq⟩, ?_⟩
  refine hb F2 H2 (g1.tr g2) s2 _ fun w F3 H3 g3 s3 hw => ?_
  cases hw.toInt
  refine ⟨a, xs.map V.int, .int x, n, .int x, rfl, rfl, gr_L s3.fr (gr_L g3 hq), rfl, flatI xs, ?_, by simp [eqV], fun m z' hm hz => ?_, q _ F3 H3 (g2.tr g3) s3 (.int _)⟩
  · rw [List.getElem?_map, List.getElem?_eq_getElem hlt]
    simp only [Option.map_some, Option.some.injEq]
    have : xs[n] = x := by simpa using hx
    rw [this]
  · rw [List.getElem?_map, List.getElem?_eq_getElem (by omega)] at hz
    simp only [Option.map_some, Option.some.injEq] at hz
    subst hz
    have := hno m hm
    simpa [eqV] using this
end
end Bw
namespace Bw
open PySem L2
theorem s_ifor {t u : TT} {a b : TS} {D : Ends} {σ : L2.St} {H : Hp} (h : tIfS t a (tIfS u a b) D σ H) : tIfS (tOr t u) a b D σ H := by
  unfold tIfS tOr
  unfold tIfS at h
  have e : (fun (c : Bool) (H1 : Hp) => if c = true then a D σ H1 else u σ H1 fun b_1 H1 => if b_1 = true then a D σ H1 else b D σ H1) = fun (c : Bool) (H1 : Hp) => if c = true then (if true = true then a D σ H1 else b D σ H1) else u σ H1 fun b_1 H1 => if b_1 = true then a D σ H1 else b D σ H1 := by
    funext c H1; cases c <;> rfl
  rw [e] at h
  exact h
theorem s_ifand {t u : TT} {a b : TS} {D : Ends} {σ : L2.St} {H : Hp} (h : tIfS t (tIfS u a b) b D σ H) : tIfS (tAnd t u) a b D σ H := by
  unfold tIfS tAnd
  unfold tIfS at h
  have e : (fun (c : Bool) (H1 : Hp) => if c = true then u σ H1 fun b_1 H1 => if b_1 = true then a D σ H1 else b D σ H1 else b D σ H1) = fun (c : Bool) (H1 : Hp) => if c = true then (u σ H1 fun b_1 H1 => if b_1 = true then a D σ H1 else b D σ H1) else if false = true then a D σ H1 else b D σ H1 := by
    funext c H1; cases c <;> rfl
  rw [e] at h
  exact h
end Bw

namespace Bw
open PySem L2
theorem u65 {k : Nat} {A : Around} (r : Room k A) : A.units + 65 < cLine := by have := r.un; omega
/-! x in a list, of things of any kind -/
def inTM {α : Type} [DecidableEq α] (e : α → PyData) (x : α) (xs : List α) : Option Bool := if SeqAt.shaped (e x) = true ∧ SeqAt.shaped (eL e xs) = true then some (decide (x ∈ xs)) else none
def inDM (x : PyData) (xs : List PyData) : Option Bool := if SeqAt.shaped x = true ∧ SeqAt.shaped (.list xs) = true then some (xs.any fun z => PyData.eqv z x) else none
section
variable {K : PySem.W.Frag} {σ : L2.St} {F : Hp} {cs cs1 cs2 : Cs} {ta tb : TE}
theorem any_eqE {α : Type} [DecidableEq α] {e : α → PyData} (he : EqE e) (x : α) (xs : List α) : ((xs.map e).any fun z => PyData.eqv z (e x)) = decide (x ∈ xs) := by
  induction xs with
  | nil => rfl
  | cons y ys ih =>
    rw [List.map_cons, List.any_cons, ih, he y x]
    by_cases q : y = x
    · simp [q]
    · have : ¬ x = y := fun z => q z.symm
      simp [q, this]
theorem d_inTM {α : Type} [DecidableEq α] {e : α → PyData} {x : α} {xs : List α} {b : Bool} (he : EqE e) (ha : EvD K ta σ F cs (e x) cs1) (hb : EvD K tb σ F cs1 (eL e xs) cs2) (hm : inTM e x xs = some b) : EvD K (tOp (rInD K) ta tb) σ F cs (.bool b) cs2 := fun F1 H1 g1 s Q q => by
  unfold inTM at hm
  split at hm
  case isFalse => cases hm
  rename_i hs
  cases hm
  refine ha F1 H1 g1 s _ fun v F2 H2 g2 s2 hv => hb F2 H2 (g1.tr g2) s2 _ fun w F3 H3 g3 s3 hw => ?_
  refine ⟨e x, xs.map e, (hv.gr (g3.tr s3.fr)).dp (SeqAt.canLay_of_shaped hs.1), (hw.gr s3.fr).dp (SeqAt.canLay_of_shaped hs.2), hs.1, hs.2, ?_⟩
  rw [any_eqE he]
  exact q _ F3 H3 (g2.tr g3) s3 (.bl _)
theorem d_ninTM {α : Type} [DecidableEq α] {e : α → PyData} {x : α} {xs : List α} {b : Bool} (he : EqE e) (ha : EvD K ta σ F cs (e x) cs1) (hb : EvD K tb σ F cs1 (eL e xs) cs2) (hm : inTM e x xs = some b) : EvD K (tOp (rNotInD K) ta tb) σ F cs (.bool (!b)) cs2 := fun F1 H1 g1 s Q q => by
  unfold inTM at hm
  split at hm
  case isFalse => cases hm
  rename_i hs
  cases hm
  refine ha F1 H1 g1 s _ fun v F2 H2 g2 s2 hv => hb F2 H2 (g1.tr g2) s2 _ fun w F3 H3 g3 s3 hw => ?_
  refine ⟨e x, xs.map e, (hv.gr (g3.tr s3.fr)).dp (SeqAt.canLay_of_shaped hs.1), (hw.gr s3.fr).dp (SeqAt.canLay_of_shaped hs.2), hs.1, hs.2, ?_⟩
  rw [any_eqE he]
  exact q _ F3 H3 (g2.tr g3) s3 (.bl _)
theorem d_inDM {x : PyData} {xs : List PyData} {b : Bool} (ha : EvD K ta σ F cs x cs1) (hb : EvD K tb σ F cs1 (.list xs) cs2) (hm : inDM x xs = some b) : EvD K (tOp (rInD K) ta tb) σ F cs (.bool b) cs2 := fun F1 H1 g1 s Q q => by
  unfold inDM at hm
  split at hm
  case isFalse => cases hm
  rename_i hs
  cases hm
  refine ha F1 H1 g1 s _ fun v F2 H2 g2 s2 hv => hb F2 H2 (g1.tr g2) s2 _ fun w F3 H3 g3 s3 hw => ?_
  exact ⟨x, xs, (hv.gr (g3.tr s3.fr)).dp (SeqAt.canLay_of_shaped hs.1), (hw.gr s3.fr).dp (SeqAt.canLay_of_shaped hs.2), hs.1, hs.2, q _ F3 H3 (g2.tr g3) s3 (.bl _)⟩
theorem d_ninDM {x : PyData} {xs : List PyData} {b : Bool} (ha : EvD K ta σ F cs x cs1) (hb : EvD K tb σ F cs1 (.list xs) cs2) (hm : inDM x xs = some b) : EvD K (tOp (rNotInD K) ta tb) σ F cs (.bool (!b)) cs2 := fun F1 H1 g1 s Q q => by
  unfold inDM at hm
  split at hm
  case isFalse => cases hm
  rename_i hs
  cases hm
  refine ha F1 H1 g1 s _ fun v F2 H2 g2 s2 hv => hb F2 H2 (g1.tr g2) s2 _ fun w F3 H3 g3 s3 hw => ?_
  exact ⟨x, xs, (hv.gr (g3.tr s3.fr)).dp (SeqAt.canLay_of_shaped hs.1), (hw.gr s3.fr).dp (SeqAt.canLay_of_shaped hs.2), hs.1, hs.2, q _ F3 H3 (g2.tr g3) s3 (.bl _)⟩
end
end Bw

namespace Bw
open PySem L2
section
variable {K : PySem.W.Frag} {σ : St} {F : Hp} {cs : Cs} {ta tb : TE} {as : TA} {H : Hp} {D : Ends} {a b : TS}
theorem vp_con {v : V} : VP (tC v) σ F cs v := fun _ _ _ _ _ q => q
/-- the left side of a compare, stepped over directly -/
theorem s_ifL {r : R2} (h : ta σ H fun x H1 => tIfS (tTest (tOp r (tC x) tb)) a b D σ H1) : tIfS (tTest (tOp r ta tb)) a b D σ H := h
/-- a method of what was just made -/
theorem o_methN {C : Addr} {m : Str} {sp : Sp} {E : XK} {Q : VK} (h : ta σ H fun x H1 => ∃ a dx fs, x = .ref a ∧ H1 a = some (.ins C dx fs) ∧ fs.lookup m = none ∧ as σ H1 fun vs H2 => sp (x :: (vs ++ [])) H2 Q E) : tMeth C m sp [] E ta as σ H Q := h
theorem o_methN2 {l1 l2 : Cs} {x C dx : Addr} {fs : List (Str × V)} {m : Str} {sp : Sp} {E : XK} {Q : VK} (s : Sta F (l1 ++ (x, .ins C dx fs) :: l2) H) (hl : fs.lookup m = none)
    (h : as σ H fun vs H2 => sp (.ref x :: (vs ++ [])) H2 Q E) : ∃ a dx fs, V.ref x = .ref a ∧ H a = some (.ins C dx fs) ∧ fs.lookup m = none ∧ as σ H fun vs H2 => sp (V.ref x :: (vs ++ [])) H2 Q E := ⟨x, dx, fs, rfl, s.getAt, hl, h⟩
end
end Bw

namespace L2
open PySem PySem.Spec PyProof.Rows
/-! a dict whose keys are pairs of an int and a bool and whose values are lists -/
abbrev Kb := Int × Bool
def bn (b : Bool) : Int := if b = true then 1 else 0
def lk (k : Kb) : List Leaf := [.num k.1, .num (bn k.2)]
theorem lk_inj {k j : Kb} (h : lk k = lk j) : k = j := by
  obtain ⟨a, b⟩ := k; obtain ⟨c, d⟩ := j
  unfold lk at h
  injection h with h1 h2
  injection h1 with h1
  injection h2 with h2 _
  injection h2 with h2
  dsimp only at h1 h2
  subst h1
  cases b <;> cases d <;> first | rfl | (exact absurd h2 (by decide))
def kHash (w : World) (k : Kb) : Int := reduceHash (Builtin.Tuple.tupleHashOf ((lk k).map fun l => l.key.hash w))
def dlE (w : World) (x : Kb × Addr × Addr) : DictEntry := ⟨kHash w x.1, .ref x.2.1, .ref x.2.2⟩
def dlO (a : Addr) (xs : List (Kb × Addr × Addr)) : HO := .ext fun h => xs.length ≤ 1000 ∧ (a == sysModules) = false ∧ (xs.map (·.1)).Nodup ∧ ∃ o es ep, h.get? a = some o ∧ o.ExactDict ∧ o.data = .dict es ep ∧ ∀ w, es.toList = xs.map (dlE w)
def dlX (xs : List (Kb × Addr × Addr)) : List (List Leaf × Addr × Value) := xs.map fun x => (lk x.1, x.2.1, .ref x.2.2)
def kbV (k : Kb) : List V := [.int k.1, .bl k.2]
def lnAt (xs : List (Kb × Addr × Addr)) (k : Kb) : Option (Addr × Addr) := (xs.find? fun x => decide (x.1 = k)).map (·.2)
def putB (xs : List (Kb × Addr × Addr)) (k : Kb) (b q : Addr) : List (Kb × Addr × Addr) := if (lnAt xs k).isSome = true then xs.map (fun x => if x.1 = k then (x.1, x.2.1, q) else x) else xs ++ [(k, b, q)]
theorem lnAt_key (k : Kb) : ∀ xs : List (Kb × Addr × Addr), atKey (dlX xs) (lk k) = (lnAt xs k).map fun p => (p.1, Value.ref p.2)
  | [] => rfl
  | x :: xs => by
    have ih := lnAt_key k xs
    unfold atKey lnAt dlX at *
    rw [List.map_cons, List.find?_cons, List.find?_cons]
    by_cases e : x.1 = k
    · rw [decide_eq_true e, decide_eq_true (congrArg lk e)]; rfl
    · rw [decide_eq_false e, decide_eq_false (fun z => e (lk_inj z))]; exact ih
theorem putB_key (k : Kb) (b q : Addr) (xs : List (Kb × Addr × Addr)) : storedH (dlX xs) (lk k) b (.ref q) = dlX (putB xs k b q) := by
  unfold storedH putB
  rw [lnAt_key, Option.isSome_map]
  by_cases e : (lnAt xs k).isSome = true
  · rw [if_pos e, if_pos e]
    unfold dlX
    rw [List.map_map, List.map_map]
    refine List.map_congr_left fun x _ => ?_
    show putAt (lk k) (.ref q) (lk x.1, x.2.1, .ref x.2.2) = (fun x : Kb × Addr × Addr => (lk x.1, x.2.1, Value.ref x.2.2)) (if x.1 = k then (x.1, x.2.1, q) else x)
    unfold putAt
    by_cases z : x.1 = k
    · rw [if_pos z, if_pos (congrArg lk z)]
    · rw [if_neg z, if_neg (fun y => z (lk_inj y))]
  · rw [if_neg e, if_neg e]
    unfold dlX
    rw [List.map_append]; rfl
theorem putB_len (xs : List (Kb × Addr × Addr)) (k : Kb) (b q : Addr) : (putB xs k b q).length ≤ xs.length + 1 := by
  unfold putB
  split
  · rw [List.length_map]; omega
  · rw [List.length_append, List.length_cons, List.length_nil]; omega
section
variable {P : Program} {w : World} {K : PySem.W.Frag} {H : Hp} {h : Heap} {a b : Addr} {xs : List (Kb × Addr × Addr)} {k : Kb}
theorem kt_of {X : Cx} {pins : List (Addr × Obj)} {σ : St} {s : Shared} (I : Inv X pins σ H s) (e : SqT X.K H b (kbV k)) : (tupleKind (leafKind X.prog X.w)).is s.heap (lk k) b := by
  obtain ⟨its, r, ⟨o, h1, h2, n, h3⟩, _⟩ := I.tuple e
  refine ⟨o, its.toArray, n, h1, h2, h3, ?_⟩
  unfold kbV at r
  cases r with
  | cons r1 r =>
    cases r with
    | cons r2 r =>
      cases r
      obtain ⟨t, rfl⟩ := r1
      obtain rfl := r2
      refine .cons (leaf_int _ _) (.cons ?_ .nil)
      cases k.2
      · exact leaf_false
      · exact leaf_true
theorem dl_of {X : Cx} {pins : List (Addr × Obj)} {σ : St} {s : Shared} (I : Inv X pins σ H s) (e : H a = some (dlO a xs)) (hk : ∀ x ∈ xs, SqT X.K H x.2.1 (kbV x.1)) : xs.length ≤ 1000 ∧ (a == sysModules) = false ∧ s.heap.DictOfH (tupleKind (leafKind X.prog X.w)) a (dlX xs) := by
  obtain ⟨⟨z, hd, nd, o, es, ep, h1, h2, h3, h4⟩, _⟩ := (show ObjOk X.prog X.w H s.heap a (dlO a xs) from I.hok a _ e)
  refine ⟨z, hd, o, es, ep, h1, h2, h3, ?_, ?_, ?_⟩
  · rw [h4 X.w]; unfold dlX; rw [List.map_map]; rfl
  · intro x hx
    obtain ⟨y, hy, rfl⟩ := List.mem_map.mp hx
    exact kt_of I (hk y hy)
  · unfold dlX
    rw [List.map_map]
    rw [List.nodup_iff_pairwise_ne, List.pairwise_map] at nd ⊢
    exact nd.imp fun n e => n (lk_inj e)
theorem dl_new {H' : Hp} {h' : Heap} (z : xs.length ≤ 1000) (hd : (a == sysModules) = false) (dd : h'.DictOfH (tupleKind (leafKind P w)) a (dlX xs)) : ObjOk P w H' h' a (dlO a xs) := by
  obtain ⟨o, es, ep, h1, h2, h3, h4, _, h5⟩ := dd
  refine ⟨⟨z, hd, ?_, o, es, ep, h1, h2, h3, fun w' => ?_⟩, ⟨o, h1⟩, ?_⟩
  · unfold dlX at h5
    rw [List.map_map] at h5
    rw [List.nodup_iff_pairwise_ne, List.pairwise_map] at h5 ⊢
    exact h5.imp fun n e => n (congrArg lk e)
  · rw [h4]; unfold dlX; rw [List.map_map]; rfl
  · rintro g1 g2 ⟨z1, z2, z3, o1, es1, ep1, y1, y2, y3, y4⟩ kk
    exact ⟨z1, z2, z3, o1, es1, ep1, kk _ y1, y2, y3, y4⟩
theorem dl_empty (h : Heap) (hb : sysModules < h.objs.size) : ObjOk P w H (h.push { cls := .type "dict", data := .dict #[] }) h.objs.size (dlO h.objs.size []) := by
  have eb : (h.push { cls := .type "dict", data := .dict #[] }).get? h.objs.size = some { cls := .type "dict", data := .dict #[] } := Heap.get?_push_size _ rfl
  refine ⟨⟨by simp, ?_, by simp, _, _, _, eb, ⟨rfl, rfl, rfl⟩, rfl, fun w => rfl⟩, ⟨_, eb⟩, ?_⟩
  · exact decide_eq_false (fun z => Nat.lt_irrefl _ (z ▸ hb))
  · rintro g1 g2 ⟨z1, z2, z3, o1, es1, ep1, y1, y2, y3, y4⟩ kk
    exact ⟨z1, z2, z3, o1, es1, ep1, kk _ y1, y2, y3, y4⟩
end
/-- {} -/
def tDNewL : TE := fun _ H Q => ∀ p, H p = none → Q (.ref p) (upd H p (dlO p []))
theorem pe_dnewL {X : Cx} {pos : Pos} : PE X (.Dict [] [] pos) tDNewL := ⟨fun pins s σ H Q I h =>
  wpAny_Dict_empty ⟨.ref s.heap.objs.size, _, I.laid (a := s.heap.objs.size) (o := dlO s.heap.objs.size []) (t' := s.toks) (fun _ _ q => Heap.get?_push_of_some _ q) (Nat.le_refl _) (dl_empty s.heap I.big), rfl, h _ (I.hok.fresh (Nat.le_refl _))⟩⟩
/-- the dict at a, the key at b -/
def DlAt (K : PySem.W.Frag) (H : Hp) (a : Addr) (xs : List (Kb × Addr × Addr)) (y : V) (k : Kb) (b : Addr) : Prop := H a = some (dlO a xs) ∧ (∀ x ∈ xs, SqT K H x.2.1 (kbV x.1)) ∧ y = .ref b ∧ SqT K H b (kbV k) ∧ xs.length < 1000
/-- d.get(k, x) -/
def tGetL (K : PySem.W.Frag) (td tk tn : TE) : TE := fun σ H Q => td σ H fun x H1 => ∃ a xs0, x = .ref a ∧ H1 a = some (dlO a xs0) ∧ tk σ H1 fun y H2 => tn σ H2 fun z H3 => ∃ xs k b q, z = .ref q ∧ DlAt K H3 a xs y k b ∧ Q (.ref (((lnAt xs k).map (·.2)).getD q)) H3
/-- d.setdefault(k, x) -/
def tSetdL (K : PySem.W.Frag) (td tk tn : TE) : TE := fun σ H Q => td σ H fun x H1 => ∃ a xs0, x = .ref a ∧ H1 a = some (dlO a xs0) ∧ tk σ H1 fun y H2 => tn σ H2 fun z H3 => ∃ xs k b q, z = .ref q ∧ DlAt K H3 a xs y k b ∧
  (∀ r, lnAt xs k = some r → Q (.ref r.2) H3) ∧ (lnAt xs k = none → Q (.ref q) (upd H3 a (dlO a (xs ++ [(k, b, q)]))))
/-- d[k] = v -/
def sPutL (K : PySem.W.Frag) (td tk tv : TE) : TS := fun D σ H => tv σ H fun v H1 => td σ H1 fun x H2 => tk σ H2 fun y H3 => ∃ a xs k b q, x = .ref a ∧ v = .ref q ∧ DlAt K H3 a xs y k b ∧ D.nx σ (upd H3 a (dlO a (putB xs k b q)))
section
variable {X : Cx} {o i e f value : Expr} {td tk tn tv : TE} {apos cpos pos pos' : Pos}
theorem dl_typ {pins : List (Addr × Obj)} {σ : St} {H : Hp} {s : Shared} {a : Addr} {xs : List (Kb × Addr × Addr)} (I : Inv X pins σ H s) (d : H a = some (dlO a xs)) : s.TypeIs (.ref a) "dict" ∧ (∀ b, Value.ref a = .ref b → ∃ ob, s.heap.get? b = some ob ∧ ob.dict = none) := by
  obtain ⟨⟨z, hd, nd, o, es, ep, h1, h2, h3, h4⟩, _⟩ := (show ObjOk X.prog X.w H s.heap a (dlO a xs) from I.hok a _ d)
  refine ⟨⟨o, h1, h2.1⟩, fun b e => ?_⟩
  cases e
  exact ⟨o, h1, h2.2.1⟩
theorem pe_getL (hu : X.A.units + 1 < cLine) (ho : PE X o td) (he : PE X e tk) (hf : PE X f tn) (m : M2 X o "get" apos e f cpos) : PE X (.Call (.Attribute o "get" apos) [e, f] [] cpos) (tGetL X.K td tk tn) := by
  refine ⟨fun pins s σ H Q I h => ?_⟩
  refine wpAny_Call_method m.base m.few m.line PySem.F.plainAttrs_dict PySem.F.slot_dict_get PySem.F.type_dict_get (thn (ho.run pins s σ H _ I h) fun u s1 ⟨x, H1, I1, rx, a, xs0, ex, d, q1⟩ => ?_)
  subst ex
  obtain rfl : u = Value.ref a := rx
  obtain ⟨t1, t2⟩ := dl_typ I1 d
  refine ⟨t1, t2, ?_⟩
  rw [m.trees]
  refine Calls.callWith_builtin rfl (Calls.evalArgs_plain (Calls.spliced_cons (thn (he.run pins s1 σ H1 _ I1 q1) fun iv s2 ⟨y, H2, I2, ry, q2⟩ =>
    Calls.spliced_cons (thn (hf.run pins s2 σ H2 _ I2 q2) fun fv s3 ⟨z, H3, I3, rz, xs, k, b, q, ez, ⟨d3, hks, ey, hk, _⟩, q3⟩ => Calls.spliced_nil ?_))))
  subst ey ez
  cases (show iv = Value.ref b from ry)
  cases (show fv = Value.ref q from rz)
  obtain ⟨_, hd, dd⟩ := dl_of I3 d3 hks
  refine call_meetsIn PySem.F.slot_dict_get dd.typeIs PySem.F.entry_dict_get (PySem.F.args_dict_get_3 _ _ _) (meetsH_dict_get_default (tupleKind (leafKind X.prog X.w)) a b hd (.ref q)) ⟨tupleKind_room_in1 hu, lk k, dlX xs, kt_of I3 hk, dd, ?_⟩
  refine ⟨_, H3, I3.tok _, ?_, q3⟩
  rw [lnAt_key]
  cases lnAt xs k <;> rfl
theorem pe_setdL (hu : X.A.units + 1 < cLine) (ho : PE X o td) (he : PE X e tk) (hf : PE X f tn) (m : M2 X o "setdefault" apos e f cpos) : PE X (.Call (.Attribute o "setdefault" apos) [e, f] [] cpos) (tSetdL X.K td tk tn) := by
  refine ⟨fun pins s σ H Q I h => ?_⟩
  refine wpAny_Call_method m.base m.few m.line PySem.F.plainAttrs_dict PySem.F.slot_dict_setdefault PySem.F.type_dict_setdefault (thn (ho.run pins s σ H _ I h) fun u s1 ⟨x, H1, I1, rx, a, xs0, ex, d, q1⟩ => ?_)
  subst ex
  obtain rfl : u = Value.ref a := rx
  obtain ⟨t1, t2⟩ := dl_typ I1 d
  refine ⟨t1, t2, ?_⟩
  rw [m.trees]
  refine Calls.callWith_builtin rfl (Calls.evalArgs_plain (Calls.spliced_cons (thn (he.run pins s1 σ H1 _ I1 q1) fun iv s2 ⟨y, H2, I2, ry, q2⟩ =>
    Calls.spliced_cons (thn (hf.run pins s2 σ H2 _ I2 q2) fun fv s3 ⟨z, H3, I3, rz, xs, k, b, q, ez, ⟨d3, hks, ey, hk, hl⟩, w1, w2⟩ => Calls.spliced_nil ?_))))
  subst ey ez
  cases (show iv = Value.ref b from ry)
  cases (show fv = Value.ref q from rz)
  obtain ⟨_, hd, dd⟩ := dl_of I3 d3 hks
  have hz : (dlX xs).length ≤ sizeLine := by unfold dlX; rw [List.length_map]; exact Nat.le_trans (Nat.le_of_lt hl) (by decide)
  refine call_setdefault_heap (hsz := hz) (knd := tupleKind (leafKind X.prog X.w)) (tupleKind_room_in1 hu) (kt_of I3 hk) hd dd (fun p hp => ?_) fun hn h' dd' hs => ?_
  · rw [lnAt_key] at hp
    cases hv : lnAt xs k with
    | none => rw [hv] at hp; cases hp
    | some r =>
      rw [hv] at hp
      cases hp
      exact ⟨.ref r.2, H3, I3.tok _, rfl, w1 r hv⟩
  · rw [lnAt_key] at hn
    have hn' : lnAt xs k = none := by cases hv : lnAt xs k with
      | none => rfl
      | some r => rw [hv] at hn; cases hn
    have e2 : dlX (xs ++ [(k, b, q)]) = storedH (dlX xs) (lk k) b (.ref q) := by
      rw [putB_key]; unfold putB; rw [hn']; rfl
    rw [← e2] at dd'
    refine ⟨.ref q, _, d_write (t' := _) I3 (by rw [d3]; exact True.intro) hs (let ⟨q, _, _, hq, _⟩ := dd'; ⟨q, hq⟩) (dl_new (by rw [List.length_append]; simp; omega) hd dd'), rfl, w2 hn'⟩
theorem ps_putL (hu : X.A.units + 1 < cLine) (ho : PE X o td) (hi : PE X i tk) (hv : PE X value tv) (hs : swapsWith value (some (.Subscript o i pos')) pos.line X.env = pure false) : PS X (.Assign [.Subscript o i pos'] value pos) (sPutL X.K td tk tv) := by
  refine ⟨fun pins s σ H D I h => ?_⟩
  refine wpAny_Assign_Subscript (thn (hv.run pins s σ H _ I h) fun v s1 ⟨x, H1, I1, r1, q1⟩ => thn (ho.run pins s1 σ H1 _ I1 q1) fun u s2 ⟨y, H2, I2, r2, q2⟩ => thn (hi.run pins s2 σ H2 _ I2 q2) fun iv s3 ⟨z, H3, I3, r3, a, xs, k, b, q, ey, ex, ⟨d3, hks, ez, hk, hl⟩, q3⟩ => ?_) hs
  subst ey ez ex
  cases (show u = Value.ref a from r2)
  cases (show iv = Value.ref b from r3)
  cases (show v = Value.ref q from r1)
  obtain ⟨_, hd, dd⟩ := dl_of I3 d3 hks
  have hz : (dlX xs).length ≤ sizeLine := by unfold dlX; rw [List.length_map]; exact Nat.le_trans (Nat.le_of_lt hl) (by decide)
  refine wpAny_setItem_heap (hsz := hz) (knd := tupleKind (leafKind X.prog X.w)) (tupleKind_room_in1 hu) (kt_of I3 hk) dd fun h' dd' hs => ?_
  rw [putB_key] at dd'
  have := putB_len xs k b q
  exact ⟨σ, _, d_write I3 (by rw [d3]; exact True.intro) hs (let ⟨q, _, _, hq, _⟩ := dd'; ⟨q, hq⟩) (dl_new (by omega) hd dd'), q3⟩
end
end L2
namespace Bw
open PySem L2
/-- a line: key, the key's tuple, the list, what it holds -/
abbrev Ln := Kb × Addr × Addr × List Int
def lnD (x : Ln) : Kb × Addr × Addr := (x.1, x.2.1, x.2.2.1)
def lnC (x : Ln) : Addr × HO := (x.2.2.1, .lst (x.2.2.2.map V.int))
def lnM (x : Ln) : Kb × List Int := (x.1, x.2.2.2)
def lnsD (xs : List Ln) : List (Kb × Addr × Addr) := xs.map lnD
def lnsC (xs : List Ln) : Cs := xs.map lnC
def lnsM (xs : List Ln) : List (Kb × List Int) := xs.map lnM
def lnNo (xs : List Ln) (k : Kb) : List Ln := xs.filter fun x => decide (x.1 ≠ k)
structure LnOk (K : PySem.W.Frag) (F : Hp) (xs : List Ln) : Prop where
  nd : (xs.map (·.1)).Nodup
  ks : ∀ x ∈ xs, SqT K F x.2.1 (kbV x.1)
theorem LnOk.gr {K : PySem.W.Frag} {F F' : Hp} {xs : List Ln} (g : Gr F F') (h : LnOk K F xs) : LnOk K F' xs := ⟨h.nd, fun x hx => gr_T g (h.ks x hx)⟩
theorem LnOk.nil {K : PySem.W.Frag} {F : Hp} : LnOk K F [] := ⟨by simp, fun x hx => nomatch hx⟩
def getL (m : List (Kb × List Int)) (k : Kb) : List Int := ((m.find? fun x => decide (x.1 = k)).map (·.2)).getD []
def putL (m : List (Kb × List Int)) (k : Kb) (l : List Int) : List (Kb × List Int) := if (m.any fun x => decide (x.1 = k)) = true then m.map (fun x => if x.1 = k then (x.1, l) else x) else m ++ [(k, l)]
def addLM (m : List (Kb × List Int)) (k : Kb) (n : Int) : Option (List (Kb × List Int)) := if m.length < 1000 ∧ (getL m k).length < 100000 then some (putL m k (getL m k ++ [n])) else none
def getLM (m : List (Kb × List Int)) (k : Kb) : Option (List Int) := if m.length < 1000 then some (getL m k) else none
def putLM (m : List (Kb × List Int)) (k : Kb) (l : List Int) : Option (List (Kb × List Int)) := if m.length < 1000 then some (putL m k l) else none
/-- the key is there once, or not at all -/
theorem ln_split (k : Kb) : ∀ xs : List Ln, (xs.map (·.1)).Nodup → (∀ x ∈ xs, x.1 ≠ k) ∨ ∃ ys x zs, xs = ys ++ x :: zs ∧ x.1 = k ∧ (∀ y ∈ ys, y.1 ≠ k) ∧ ∀ z ∈ zs, z.1 ≠ k
  | [], _ => .inl fun x hx => nomatch hx
  | x :: xs, nd => by
    rw [List.map_cons, List.nodup_cons] at nd
    by_cases e : x.1 = k
    · refine .inr ⟨[], x, xs, rfl, e, (fun _ h => nomatch h), fun z hz c => nd.1 ?_⟩
      rw [e, ← c]; exact List.mem_map.mpr ⟨z, hz, rfl⟩
    · rcases ln_split k xs nd.2 with h | ⟨ys, y, zs, rfl, h1, h2, h3⟩
      · refine .inl fun y hy => ?_
        rcases List.mem_cons.mp hy with rfl | hy
        · exact e
        · exact h y hy
      · refine .inr ⟨x :: ys, y, zs, rfl, h1, fun z hz => ?_, h3⟩
        rcases List.mem_cons.mp hz with rfl | hz
        · exact e
        · exact h2 z hz
section
variable {k : Kb} {ys zs xs : List Ln} {x : Ln}
theorem find_no {α : Type} {p : α → Bool} {l : List α} (h : ∀ x ∈ l, p x = false) : l.find? p = none := List.find?_eq_none.mpr fun x hx => by rw [h x hx]; exact Bool.false_ne_true
theorem find_mid {α : Type} {p : α → Bool} {l m : List α} {x : α} (h : ∀ y ∈ l, p y = false) (hx : p x = true) : (l ++ x :: m).find? p = some x := by
  rw [List.find?_append, find_no h]; simp [List.find?_cons, hx]
theorem ln_no (h : ∀ x ∈ xs, x.1 ≠ k) : lnAt (lnsD xs) k = none ∧ getL (lnsM xs) k = [] ∧ ((lnsM xs).any fun x => decide (x.1 = k)) = false ∧ lnNo xs k = xs := by
  refine ⟨?_, ?_, ?_, ?_⟩
  · unfold lnAt lnsD; rw [find_no]; · rfl
    intro x hx; obtain ⟨y, hy, rfl⟩ := List.mem_map.mp hx; exact decide_eq_false (h y hy)
  · unfold getL lnsM; rw [find_no]; · rfl
    intro x hx; obtain ⟨y, hy, rfl⟩ := List.mem_map.mp hx; exact decide_eq_false (h y hy)
  · unfold lnsM; rw [List.any_eq_false]; intro x hx; obtain ⟨y, hy, rfl⟩ := List.mem_map.mp hx; rw [show decide ((lnM y).1 = k) = false from decide_eq_false (h y hy)]; exact Bool.false_ne_true
  · unfold lnNo; rw [List.filter_eq_self]; intro x hx; exact decide_eq_true (h x hx)
theorem ln_at (hx : x.1 = k) (hy : ∀ y ∈ ys, y.1 ≠ k) (hz : ∀ z ∈ zs, z.1 ≠ k) : lnAt (lnsD (ys ++ x :: zs)) k = some (x.2.1, x.2.2.1) ∧ getL (lnsM (ys ++ x :: zs)) k = x.2.2.2 ∧ ((lnsM (ys ++ x :: zs)).any fun x => decide (x.1 = k)) = true ∧ lnNo (ys ++ x :: zs) k = ys ++ zs := by
  refine ⟨?_, ?_, ?_, ?_⟩
  · unfold lnAt lnsD; rw [List.map_append, List.map_cons, find_mid]; · rfl
    · intro x hx; obtain ⟨y, h, rfl⟩ := List.mem_map.mp hx; exact decide_eq_false (hy y h)
    · exact decide_eq_true hx
  · unfold getL lnsM; rw [List.map_append, List.map_cons, find_mid]; · rfl
    · intro x hx; obtain ⟨y, h, rfl⟩ := List.mem_map.mp hx; exact decide_eq_false (hy y h)
    · exact decide_eq_true hx
  · unfold lnsM; rw [List.any_eq_true]; exact ⟨lnM x, List.mem_map.mpr ⟨x, mem_mid, rfl⟩, decide_eq_true hx⟩
  · unfold lnNo; rw [List.filter_append, List.filter_cons_of_neg (by simp [hx]), List.filter_eq_self.mpr (fun y h => decide_eq_true (hy y h)), List.filter_eq_self.mpr (fun y h => decide_eq_true (hz y h))]
theorem map_no {α β : Type} [DecidableEq β] (f : α → α) (g : α → β) {k : β} {l : List α} (h : ∀ x ∈ l, g x ≠ k) : l.map (fun x => if g x = k then f x else x) = l := by
  conv => rhs; rw [← List.map_id l]
  exact List.map_congr_left fun x hx => by rw [if_neg (h x hx)]; rfl
theorem ln_put {q : Addr} {b : Addr} {l : List Int} (hx : x.1 = k) (hy : ∀ y ∈ ys, y.1 ≠ k) (hz : ∀ z ∈ zs, z.1 ≠ k) : putB (lnsD (ys ++ x :: zs)) k b q = lnsD (ys ++ (k, x.2.1, q, l) :: zs) ∧ putL (lnsM (ys ++ x :: zs)) k l = lnsM (ys ++ (k, x.2.1, q, l) :: zs) := by
  obtain ⟨h1, _, h3, _⟩ := ln_at hx hy hz
  refine ⟨?_, ?_⟩
  · unfold putB; rw [h1, if_pos (by rfl)]
    unfold lnsD
    rw [List.map_append, List.map_cons, List.map_append, List.map_cons, List.map_append, List.map_cons]
    rw [map_no (fun x : Kb × Addr × Addr => (x.1, x.2.1, q)) (·.1) (k := k), map_no (fun x : Kb × Addr × Addr => (x.1, x.2.1, q)) (·.1) (k := k)]
    · rw [if_pos (show (lnD x).1 = k from hx)]; subst hx; rfl
    · intro z h; obtain ⟨y, h', rfl⟩ := List.mem_map.mp h; exact hz y h'
    · intro z h; obtain ⟨y, h', rfl⟩ := List.mem_map.mp h; exact hy y h'
  · unfold putL; rw [h3, if_pos rfl]
    unfold lnsM
    rw [List.map_append, List.map_cons, List.map_append, List.map_cons, List.map_append, List.map_cons]
    rw [map_no (fun x : Kb × List Int => (x.1, l)) (·.1) (k := k), map_no (fun x : Kb × List Int => (x.1, l)) (·.1) (k := k)]
    · rw [if_pos (show (lnM x).1 = k from hx)]; subst hx; rfl
    · intro z h; obtain ⟨y, h', rfl⟩ := List.mem_map.mp h; exact hz y h'
    · intro z h; obtain ⟨y, h', rfl⟩ := List.mem_map.mp h; exact hy y h'
theorem ln_new {q : Addr} {b : Addr} {l : List Int} (h : ∀ x ∈ xs, x.1 ≠ k) : putB (lnsD xs) k b q = lnsD (xs ++ [(k, b, q, l)]) ∧ putL (lnsM xs) k l = lnsM (xs ++ [(k, b, q, l)]) := by
  obtain ⟨h1, _, h3, _⟩ := ln_no h
  refine ⟨?_, ?_⟩
  · unfold putB; rw [h1, if_neg (by simp)]; unfold lnsD; rw [List.map_append]; rfl
  · unfold putL; rw [h3, if_neg (by simp)]; unfold lnsM; rw [List.map_append]; rfl
theorem lnOk_new {K : PySem.W.Frag} {F : Hp} {q b : Addr} {l : List Int} (h : LnOk K F xs) (hn : ∀ x ∈ xs, x.1 ≠ k) (hb : SqT K F b (kbV k)) : LnOk K F (xs ++ [(k, b, q, l)]) := by
  refine ⟨?_, fun x hx => ?_⟩
  · rw [List.map_append, List.nodup_append]
    refine ⟨h.nd, by simp, ?_⟩
    intro a ha c hc e
    obtain ⟨y, hy, rfl⟩ := List.mem_map.mp ha
    simp only [List.map_cons, List.map_nil, List.mem_singleton] at hc
    exact hn y hy (e.trans hc)
  · rcases List.mem_append.mp hx with hx | hx
    · exact h.ks x hx
    · rw [List.mem_singleton] at hx; subst hx; exact hb
theorem lnOk_put {K : PySem.W.Frag} {F : Hp} {q : Addr} {l : List Int} (h : LnOk K F (ys ++ x :: zs)) (hx : x.1 = k) : LnOk K F (ys ++ (k, x.2.1, q, l) :: zs) := by
  subst hx
  refine ⟨?_, fun z hz => ?_⟩
  · have := h.nd; rw [List.map_append, List.map_cons] at this ⊢; exact this
  · rcases List.mem_append.mp hz with hz | hz
    · exact h.ks z (List.mem_append_left _ hz)
    · rcases List.mem_cons.mp hz with rfl | hz
      · exact h.ks x mem_mid
      · exact h.ks z (List.mem_append_right _ (List.mem_cons_of_mem _ hz))
end
section
variable {K : PySem.W.Frag} {σ : St} {F : Hp} {cs : Cs} {td tk tv tx : TE} {nx bk ct : St → Hp → Prop} {rt : VK} {H : Hp} {l1 l2 : Cs} {pl : Addr} {xs : List Ln} {m m' : List (Kb × List Int)} {k : Kb} {n : Int}
theorem o_dnewL {Q : VK} (s : Sta F cs H) (q : ∀ p H2, Sta F ((p, dlO p (lnsD [])) :: cs) H2 → Q (.ref p) H2) : tDNewL σ H Q := fun p hp => q p _ (s.cell hp)
theorem kt_dt {F : Hp} {v : V} (h : Dt K F v (eT2 eI eB k)) : ∃ b, v = .ref b ∧ SqT K F b (kbV k) := by
  obtain ⟨a, vs, rfl, ht, hd⟩ := h.toTup
  obtain ⟨u, w, rfl, h1, h2⟩ := hd.two
  obtain rfl := h1.toInt
  obtain rfl := h2.toBl
  exact ⟨a, rfl, ht⟩
/-- self.f.setdefault(k, []).append(n) -/
theorem s_addL {hd : Addr × HO} (s : Sta F (l1 ++ (pl, dlO pl (lnsD xs)) :: (l2 ++ (lnsC xs ++ cs))) H) (ok : LnOk K F xs) (e : lnsM xs = m) (hp : VP td σ F (l1 ++ (pl, dlO pl (lnsD xs)) :: (l2 ++ (lnsC xs ++ cs))) (.ref pl))
    (hk : EvD K tk σ F (l1 ++ (pl, dlO pl (lnsD xs)) :: (l2 ++ (lnsC xs ++ cs))) (eT2 eI eB k) (l1 ++ (pl, dlO pl (lnsD xs)) :: (l2 ++ (lnsC xs ++ cs)))) (hm : hd ∈ l1 ++ l2) (hx : ∀ cc, hd ∈ cc → VP tx σ F cc (.int n)) (k1 : addLM m k n = some m')
    (q : ∀ xs' F2 H2, Gr F F2 → Sta F2 (l1 ++ (pl, dlO pl (lnsD xs')) :: (l2 ++ (lnsC xs' ++ cs))) H2 → LnOk K F2 xs' → lnsM xs' = m' → nx σ H2) :
    tDrop (tBM K "list" rAppend (tSetdL K td tk (tLst tNil)) (tCons tx tNil)) ⟨nx, rt, bk, ct⟩ σ H := by
  subst e
  unfold addLM at k1
  split at k1
  · rename_i hz
    obtain ⟨hz1, hz2⟩ := hz
    have k1 := Option.some.inj k1
    have hlen : (lnsD xs).length < 1000 := by have := hz1; unfold lnsM at this; rw [List.length_map] at this; unfold lnsD; rw [List.length_map]; exact this
    refine hp F H Gr.rfl s _ ⟨pl, lnsD xs, rfl, s.getAt, ?_⟩
    refine hk F H Gr.rfl s _ fun v F2 H2 g2 s2 hv => ?_
    obtain ⟨b, rfl, hb⟩ := kt_dt hv
    have ok2 := ok.gr g2
    show List.length [] ≤ sizeLine ∧ _
    refine ⟨Nat.zero_le _, fun p hp => ?_⟩
    have s3 := s2.cell (o := .lst []) hp
    have hbD : DlAt K (upd H2 p (.lst [])) pl (lnsD xs) (.ref b) k b := by
      refine ⟨s3.has _ (List.mem_cons_of_mem _ mem_mid), fun x hx => ?_, rfl, gr_T s3.fr hb, hlen⟩
      obtain ⟨y, hy, rfl⟩ := List.mem_map.mp hx
      exact gr_T s3.fr (ok2.ks y hy)
    refine ⟨lnsD xs, k, b, p, rfl, hbD, ?_, ?_⟩
    · rcases ln_split k xs ok.nd with hn | ⟨ys, x, zs, rfl, hx1, hy, hz⟩
      · intro r hr; rw [(ln_no hn).1] at hr; cases hr
      · obtain ⟨a1, a2, a3, a4⟩ := ln_at hx1 hy hz
        intro r hr
        rw [a1] at hr
        cases hr
        have s4 : Sta F2 ((l1 ++ (pl, dlO pl (lnsD (ys ++ x :: zs))) :: (l2 ++ (lnsC ys))) ++ (x.2.2.1, .lst (x.2.2.2.map V.int)) :: (lnsC zs ++ cs)) (upd H2 p (.lst [])) := by
          have := sb_drop _ _ s3
          simp only [lnsC, List.map_append, List.map_cons, List.append_assoc, List.cons_append] at this ⊢
          exact this
        refine ⟨.inl ⟨rfl, _, .inl (.inl s4.getAt)⟩, ?_⟩
        have hh : hd ∈ (l1 ++ (pl, dlO pl (lnsD (ys ++ x :: zs))) :: (l2 ++ (lnsC ys))) ++ (x.2.2.1, .lst (x.2.2.2.map V.int)) :: (lnsC zs ++ cs) := by
          rcases List.mem_append.mp hm with h | h <;> simp [h]
        refine hx _ hh F2 _ g2 s4 _ ?_
        refine ⟨_, _, _, rfl, rfl, s4.getAt, ?_, ?_⟩
        · rw [List.length_map]; rw [a2] at hz2; exact Nat.lt_of_lt_of_le hz2 (by decide)
        · refine q (ys ++ (k, x.2.1, x.2.2.1, x.2.2.2 ++ [n]) :: zs) F2 _ g2 ?_ (lnOk_put ok2 hx1) ?_
          · have := s4.putAt (o' := .lst (x.2.2.2.map V.int ++ [.int n]))
            have e2 : lnsD (ys ++ (k, x.2.1, x.2.2.1, x.2.2.2 ++ [n]) :: zs) = lnsD (ys ++ x :: zs) := by
              unfold lnsD; rw [List.map_append, List.map_append, List.map_cons, List.map_cons]; subst hx1; rfl
            rw [e2]
            simp only [lnsC, List.map_append, List.map_cons, List.append_assoc, List.cons_append, lnC, List.map_nil] at this ⊢
            exact this
          · rw [← k1, a2]; exact (ln_put hx1 hy hz (b := b)).2.symm
    · intro hn
      rcases ln_split k xs ok.nd with hno | ⟨ys, x, zs, rfl, hx1, hy, hz⟩
      · obtain ⟨a1, a2, a3, a4⟩ := ln_no hno
        have s4 := (s3.putAt (l1 := (p, .lst []) :: l1) (o' := dlO pl (lnsD xs ++ [(k, b, p)])))
        refine ⟨.inl ⟨rfl, _, .inl (.inl (s4.has _ List.mem_cons_self))⟩, ?_⟩
        have hh : hd ∈ ((p, HO.lst []) :: l1) ++ (pl, dlO pl (lnsD xs ++ [(k, b, p)])) :: (l2 ++ (lnsC xs ++ cs)) := by
          rcases List.mem_append.mp hm with h | h <;> simp [h]
        refine hx _ hh F2 _ g2 s4 _ ?_
        refine ⟨_, _, _, rfl, rfl, s4.has _ List.mem_cons_self, by decide, ?_⟩
        refine q (xs ++ [(k, b, p, [n])]) F2 _ g2 ?_ (lnOk_new ok2 hno hb) ?_
        · have s5 := Sta.put (o' := .lst [.int n]) (show Sta F2 ((p, .lst []) :: (l1 ++ (pl, dlO pl (lnsD xs ++ [(k, b, p)])) :: (l2 ++ (lnsC xs ++ cs)))) _ from s4)
          have e2 : lnsD (xs ++ [(k, b, p, [n])]) = lnsD xs ++ [(k, b, p)] := by unfold lnsD; rw [List.map_append]; rfl
          have e3 : lnsC (xs ++ [(k, b, p, [n])]) = lnsC xs ++ [(p, .lst [.int n])] := by unfold lnsC; rw [List.map_append]; rfl
          rw [e2, e3]
          refine s5.perm ?_
          have e4 : l1 ++ (pl, dlO pl (lnsD xs ++ [(k, b, p)])) :: (l2 ++ (lnsC xs ++ [(p, .lst [.int n])] ++ cs)) = (l1 ++ (pl, dlO pl (lnsD xs ++ [(k, b, p)])) :: (l2 ++ lnsC xs)) ++ (p, .lst [.int n]) :: cs := by simp
          rw [e4]
          refine List.Perm.trans ?_ List.perm_middle.symm
          refine List.Perm.cons _ ?_
          simp
        · rw [← k1, a2]; exact (ln_new hno (b := b) (q := p)).2.symm
      · rw [(ln_at hx1 hy hz).1] at hn; cases hn
  · cases k1
/-- x = self.f.get(k, []): the list is read, its place is open -/
theorem s_getL {i : Nat} (s : Sta F (l1 ++ (pl, dlO pl (lnsD xs)) :: (l2 ++ (lnsC xs ++ cs))) H) (ok : LnOk K F xs) (e : lnsM xs = m) (hp : VP td σ F (l1 ++ (pl, dlO pl (lnsD xs)) :: (l2 ++ (lnsC xs ++ cs))) (.ref pl))
    (hk : EvD K tk σ F (l1 ++ (pl, dlO pl (lnsD xs)) :: (l2 ++ (lnsC xs ++ cs))) (eT2 eI eB k) (l1 ++ (pl, dlO pl (lnsD xs)) :: (l2 ++ (lnsC xs ++ cs)))) (k1 : getLM m k = some l)
    (q : ∀ p F2 H2, Gr F F2 → Sta F2 (l1 ++ (pl, dlO pl (lnsD xs)) :: (l2 ++ (lnsC (lnNo xs k) ++ cs))) H2 → Dt K F2 (.ref p) (eL eI l) → nx (σ.set i (some (.ref p))) H2) :
    tAsg (tGetL K td tk (tLst tNil)) (gName i) ⟨nx, rt, bk, ct⟩ σ H := by
  subst e
  unfold getLM at k1
  split at k1
  · rename_i hz1
    obtain rfl := Option.some.inj k1
    have hlen : (lnsD xs).length < 1000 := by have := hz1; unfold lnsM at this; rw [List.length_map] at this; unfold lnsD; rw [List.length_map]; exact this
    refine hp F H Gr.rfl s _ ⟨pl, lnsD xs, rfl, s.getAt, ?_⟩
    refine hk F H Gr.rfl s _ fun v F2 H2 g2 s2 hv => ?_
    obtain ⟨b, rfl, hb⟩ := kt_dt hv
    have ok2 := ok.gr g2
    show List.length [] ≤ sizeLine ∧ _
    refine ⟨Nat.zero_le _, fun p hp => ?_⟩
    have s3 := s2.cell (o := .lst []) hp
    have hbD : DlAt K (upd H2 p (.lst [])) pl (lnsD xs) (.ref b) k b := by
      refine ⟨s3.has _ (List.mem_cons_of_mem _ mem_mid), fun x hx => ?_, rfl, gr_T s3.fr hb, hlen⟩
      obtain ⟨y, hy, rfl⟩ := List.mem_map.mp hx
      exact gr_T s3.fr (ok2.ks y hy)
    refine ⟨lnsD xs, k, b, p, rfl, hbD, ?_⟩
    rcases ln_split k xs ok.nd with hno | ⟨ys, x, zs, rfl, hx1, hy, hz⟩
    · obtain ⟨a1, a2, a3, a4⟩ := ln_no hno
      rw [a1]
      refine q p _ _ (g2.tr s3.gfr) (by rw [a4]; exact s3.froze) ?_
      rw [a2]
      exact .lst (.inl (.inl upd_same)) .nil
    · obtain ⟨a1, a2, a3, a4⟩ := ln_at hx1 hy hz
      rw [a1]
      have s4 : Sta F2 ((l1 ++ (pl, dlO pl (lnsD (ys ++ x :: zs))) :: (l2 ++ (lnsC ys))) ++ (x.2.2.1, .lst (x.2.2.2.map V.int)) :: (lnsC zs ++ cs)) (upd H2 p (.lst [])) := by
        have := sb_drop _ _ s3
        simp only [lnsC, List.map_append, List.map_cons, List.append_assoc, List.cons_append] at this ⊢
        exact this
      refine q x.2.2.1 _ _ (g2.tr (Gr.new (o := .lst (x.2.2.2.map V.int)) s4.freeAt)) ?_ ?_
      · have := s4.frozeAt
        rw [a4]
        simp only [lnsC, List.map_append, List.append_assoc, List.cons_append] at this ⊢
        exact this
      · rw [a2]
        exact .lst (.inl (.inl upd_same)) (Dts.of_ints _)
  · cases k1
/-- self.f[k] = a new list: the open place is filled -/
theorem s_putL {l : List Int} (s : Sta F (l1 ++ (pl, dlO pl (lnsD xs)) :: (l2 ++ (lnsC (lnNo xs k) ++ cs))) H) (ok : LnOk K F xs) (e : lnsM xs = m)
    (hv : EvC K tv σ F (l1 ++ (pl, dlO pl (lnsD xs)) :: (l2 ++ (lnsC (lnNo xs k) ++ cs))) (l.map eI) (l1 ++ (pl, dlO pl (lnsD xs)) :: (l2 ++ (lnsC (lnNo xs k) ++ cs))))
    (hp : ∀ c, VP td σ F (c :: (l1 ++ (pl, dlO pl (lnsD xs)) :: (l2 ++ (lnsC (lnNo xs k) ++ cs)))) (.ref pl))
    (hk : ∀ p us, EvD K tk σ F ((p, .lst us) :: (l1 ++ (pl, dlO pl (lnsD xs)) :: (l2 ++ (lnsC (lnNo xs k) ++ cs)))) (eT2 eI eB k) ((p, .lst us) :: (l1 ++ (pl, dlO pl (lnsD xs)) :: (l2 ++ (lnsC (lnNo xs k) ++ cs))))) (k1 : putLM m k l = some m')
    (q : ∀ xs' F2 H2, Gr F F2 → Sta F2 (l1 ++ (pl, dlO pl (lnsD xs')) :: (l2 ++ (lnsC xs' ++ cs))) H2 → LnOk K F2 xs' → lnsM xs' = m' → nx σ H2) :
    sPutL K td tk tv ⟨nx, rt, bk, ct⟩ σ H := by
  subst e
  unfold putLM at k1
  split at k1
  · rename_i hz1
    have k1 := Option.some.inj k1
    have hlen : (lnsD xs).length < 1000 := by have := hz1; unfold lnsM at this; rw [List.length_map] at this; unfold lnsD; rw [List.length_map]; exact this
    refine hv F H Gr.rfl s _ fun p us F2 H2 g2 s2 hu => ?_
    obtain rfl := Dts.ints hu
    refine hp _ F2 H2 g2 s2 _ ?_
    refine hk p _ F2 H2 g2 s2 _ fun v F3 H3 g3 s3 hv3 => ?_
    obtain ⟨b, rfl, hb⟩ := kt_dt hv3
    have ok3 := ok.gr (g2.tr g3)
    refine ⟨pl, lnsD xs, k, b, p, rfl, rfl, ⟨s3.has _ (List.mem_cons_of_mem _ mem_mid), fun x hx => ?_, rfl, gr_T s3.fr hb, hlen⟩, ?_⟩
    · obtain ⟨y, hy, rfl⟩ := List.mem_map.mp hx
      exact gr_T s3.fr (ok3.ks y hy)
    rcases ln_split k xs ok.nd with hno | ⟨ys, x, zs, rfl, hx1, hy, hz⟩
    · obtain ⟨a1, a2, a3, a4⟩ := ln_no hno
      rw [a4] at s3
      obtain ⟨p1, p2⟩ := ln_new hno (b := b) (q := p) (l := l)
      rw [p1]
      refine q (xs ++ [(k, b, p, l)]) F3 _ (g2.tr g3) ?_ (lnOk_new ok3 hno hb) (p2.symm.trans k1)
      have s4 := (s3.putAt (l1 := (p, .lst (l.map V.int)) :: l1) (o' := dlO pl (lnsD (xs ++ [(k, b, p, l)]))))
      have e3 : lnsC (xs ++ [(k, b, p, l)]) = lnsC xs ++ [(p, .lst (l.map V.int))] := by unfold lnsC; rw [List.map_append]; rfl
      rw [e3]
      refine s4.perm ?_
      have e4 : l1 ++ (pl, dlO pl (lnsD (xs ++ [(k, b, p, l)]))) :: (l2 ++ (lnsC xs ++ [(p, .lst (l.map V.int))] ++ cs)) = (l1 ++ (pl, dlO pl (lnsD (xs ++ [(k, b, p, l)]))) :: (l2 ++ lnsC xs)) ++ (p, .lst (l.map V.int)) :: cs := by simp
      rw [e4]
      refine List.Perm.trans ?_ List.perm_middle.symm
      refine List.Perm.cons _ ?_
      simp
    · obtain ⟨a1, a2, a3, a4⟩ := ln_at hx1 hy hz
      rw [a4] at s3
      obtain ⟨p1, p2⟩ := ln_put hx1 hy hz (b := b) (q := p) (l := l)
      rw [p1]
      refine q (ys ++ (k, x.2.1, p, l) :: zs) F3 _ (g2.tr g3) ?_ (lnOk_put ok3 hx1) (p2.symm.trans k1)
      have s4 := (s3.putAt (l1 := (p, .lst (l.map V.int)) :: l1) (o' := dlO pl (lnsD (ys ++ (k, x.2.1, p, l) :: zs))))
      refine s4.perm ?_
      have e3 : lnsC (ys ++ (k, x.2.1, p, l) :: zs) = lnsC ys ++ (p, .lst (l.map V.int)) :: lnsC zs := by unfold lnsC; rw [List.map_append]; rfl
      have e5 : lnsC (ys ++ zs) = lnsC ys ++ lnsC zs := by unfold lnsC; rw [List.map_append]
      rw [e3, e5]
      have e4 : l1 ++ (pl, dlO pl (lnsD (ys ++ (k, x.2.1, p, l) :: zs))) :: (l2 ++ (lnsC ys ++ (p, .lst (l.map V.int)) :: lnsC zs ++ cs)) = (l1 ++ (pl, dlO pl (lnsD (ys ++ (k, x.2.1, p, l) :: zs))) :: (l2 ++ lnsC ys)) ++ (p, .lst (l.map V.int)) :: (lnsC zs ++ cs) := by simp
      rw [e4]
      refine List.Perm.trans ?_ List.perm_middle.symm
      refine List.Perm.cons _ ?_
      simp
  · cases k1
/-- the lists go behind other cells, and back -/
theorem sta_seg {sg : Cs} (s : Sta F (l1 ++ (sg ++ (l2 ++ cs))) H) : Sta F (l1 ++ (l2 ++ (sg ++ cs))) H := by
  refine s.perm (List.Perm.append_left l1 ?_)
  rw [← List.append_assoc, ← List.append_assoc]
  exact List.Perm.append_right cs List.perm_append_comm
end
end Bw

namespace PySem
section
variable {prog : Program} {w : World} {A : Around} {R : Result → Shared → Prop} {I : Addr} {fp wr : List Addr} {n : Nat} {P : Nat → Value → Prop} {St : Nat → Heap → Prop}
/-- the loop of max, whatever its keywords say -/
theorem mx_loop (kw : List (Str × Value)) (W : Walks prog w A.in1 I fp wr n P St) (bt : Nat → Nat → Bool) (cm : CmpOf prog w A.in1 .Gt P bt) (S : Addr) (nf : S ∉ fp) :
    ∀ (k j : Nat) (s : Shared) (z : Value) (c : Nat), n - (j + 1) = k → j + 1 ≤ n → St (j + 1) s.heap → P (argBest bt j) z → s.heap.get? S = some { cls := .type "list", dict := none, data := .seq #[z, z] c, slots := #[] } →
    (∀ v h' tk, P (argBest bt (n - 1)) v → (∀ b o, b ∉ wr → b ≠ S → s.heap.get? b = some o → h'.get? b = some o) → R (.ok (.ret v)) { s with heap := h', toks := tk }) → codeAny (model prog w) A (.builtin "max.loop" ⟨[.ref I, .none, .ref S], kw⟩) R s := by
  have nw : S ∉ wr := fun h => nf (W.sub _ h)
  have en : (toString "max" ++ toString ".loop" : String) = "max.loop" := by decide
  intro k; induction k with
  | zero =>
    intro j s z c ek lj st pb eS fin
    have ej : j + 1 = n := by omega
    refine codeAny_builtin F.entry_max_loop ?_; rw [Around.under_plainId F.plain_max_loop _]
    show wpAny _ A.in1 (seqItems? (.ref S) >>= _) _ _ s; refine wpAny_bind (wpAny_seqItems eS rfl ?_)
    show wpAny _ A.in1 (tryCatch (pyNext (.ref I)) _ >>= _) _ _ s; refine wpAny_bind (wpAny_tryCatch (W.done s _ _ (ej ▸ st) fun h' tk kp => ?_))
    have eS' := kp S _ nw eS
    show wpAny _ A.in1 (updateSeq S (fun _ => #[]) >>= _) _ _ _; refine wpAny_bind ?_
    refine wpAny_updateSeq eS' rfl (wpAny_bind (wpAny_letGo (wpAny_pure ?_))); refine fin z _ tk (by rw [← ej]; exact pb) fun b o n1 n2 e => (Heap.get?_update_other _ _ (Ne.symm n2)).trans (kp b o n1 e)
  | succ k ih =>
    intro j s z c ek lj st pb eS fin
    have lt : j + 1 < n := by omega
    refine codeAny_builtin F.entry_max_loop ?_; rw [Around.under_plainId F.plain_max_loop _]
    show wpAny _ A.in1 (seqItems? (.ref S) >>= _) _ _ s; refine wpAny_bind (wpAny_seqItems eS rfl ?_)
    show wpAny _ A.in1 (tryCatch (pyNext (.ref I)) _ >>= _) _ _ s; refine wpAny_bind (wpAny_tryCatch (W.item (j + 1) s _ _ lt st fun v h' tk hv st' kp => ?_))
    have eS' := kp S _ nw eS
    show wpAny _ A.in1 (tryCatch (holding [v, v] (richCompare .Gt v z >>= _)) _ >>= _) _ _ _; refine wpAny_bind (wpAny_tryCatch (wpAny_holding (wpAny_bind (cm (j + 1) (argBest bt j) v z _ _ _ hv pb ?_))))
    refine wpAny_bind (wpAny_holding (wpAny_truthy_bool ?_)); refine wpAny_bind (wpAny_letGo (wpAny_pure ?_))
    cases hb : bt (j + 1) (argBest bt j) with
    | true =>
      simp only [if_true]; refine wpAny_bind ?_; refine wpAny_updateSeq eS' rfl (wpAny_bind (wpAny_letGo ?_)); rw [en]
      refine wpAny_pure ⟨plainId_quiet F.plain_max_loop _, ih (j + 1) _ v _ (by omega) lt (W.frame _ _ _ st' fun b n1 o e => ?_) (by simp only [argBest, hb, if_true]; exact hv) (Heap.get?_update_self _ eS' rfl) fun v' h'' tk'' hv' kp' => ?_⟩
      · exact (Heap.get?_update_other _ _ (fun h : S = b => nf (by rw [h]; exact n1))).trans e
      · exact fin v' h'' tk'' hv' fun b o n1 n2 e => kp' b o n1 n2 ((Heap.get?_update_other _ _ (Ne.symm n2)).trans (kp b o n1 e))
    | false =>
      simp only [Bool.false_eq_true, if_false]; refine wpAny_bind (wpAny_letGo ?_); rw [en]
      refine wpAny_pure ⟨plainId_quiet F.plain_max_loop _, ih (j + 1) _ z c (by omega) lt st' (by simp only [argBest, hb, Bool.false_eq_true, if_false]; exact pb) eS' fun v' h'' tk'' hv' kp' => ?_⟩
      exact fin v' h'' tk'' hv' fun b o n1 n2 e => kp' b o n1 n2 (kp b o n1 e)
theorem mx_first (kw : List (Str × Value)) (W : Walks prog w A.in1 I fp wr n P St) (bt : Nat → Nat → Bool) (cm : CmpOf prog w A.in1 .Gt P bt) (S : Addr) (nf : S ∉ fp) (pn : 0 < n) {s : Shared} {c : Nat} (st : St 0 s.heap)
    (eS : s.heap.get? S = some { cls := .type "list", dict := none, data := .seq #[] c, slots := #[] })
    (fin : ∀ v h' tk, P (argBest bt (n - 1)) v → (∀ b o, b ∉ wr → b ≠ S → s.heap.get? b = some o → h'.get? b = some o) → R (.ok (.ret v)) { s with heap := h', toks := tk }) : codeAny (model prog w) A (.builtin "max.loop" ⟨[.ref I, .none, .ref S], kw⟩) R s := by
  have nw : S ∉ wr := fun h => nf (W.sub _ h)
  have en : (toString "max" ++ toString ".loop" : String) = "max.loop" := by decide
  refine codeAny_builtin F.entry_max_loop ?_; rw [Around.under_plainId F.plain_max_loop _]
  show wpAny _ A.in1 (seqItems? (.ref S) >>= _) _ _ s; refine wpAny_bind (wpAny_seqItems eS rfl ?_)
  show wpAny _ A.in1 (tryCatch (pyNext (.ref I)) _ >>= _) _ _ s; refine wpAny_bind (wpAny_tryCatch (W.item 0 s _ _ pn st fun v h' tk hv st' kp => ?_))
  have eS' := kp S _ nw eS
  show wpAny _ A.in1 (updateSeq S (fun _ => #[v, v]) >>= _) _ _ _; refine wpAny_bind ?_
  refine wpAny_updateSeq eS' rfl ?_; rw [en]
  refine wpAny_pure ⟨plainId_quiet F.plain_max_loop _, mx_loop kw W bt cm S nf _ 0 _ v _ rfl pn (W.frame _ _ _ st' fun b n1 o e => ?_) hv (Heap.get?_update_self _ eS' rfl) fun v' h'' tk'' hv' kp' => ?_⟩
  · exact (Heap.get?_update_other _ _ (fun h : S = b => nf (by rw [h]; exact n1))).trans e
  · exact fin v' h'' tk'' hv' fun b o n1 n2 e => kp' b o n1 n2 ((Heap.get?_update_other _ _ (Ne.symm n2)).trans (kp b o n1 e))
/-- nothing to walk: the default -/
theorem mx_none (nm : Str) (d : Value) (W : Walks prog w A.in1 I fp wr n P St) (S : Addr) (nf : S ∉ fp) (pn : n = 0) {s : Shared} {c : Nat} (st : St 0 s.heap)
    (eS : s.heap.get? S = some { cls := .type "list", dict := none, data := .seq #[] c, slots := #[] })
    (fin : ∀ h' tk, (∀ b o, b ∉ wr → s.heap.get? b = some o → h'.get? b = some o) → R (.ok (.ret d)) { s with heap := h', toks := tk }) : codeAny (model prog w) A (.builtin "max.loop" ⟨[.ref I, .none, .ref S], [(nm, d)]⟩) R s := by
  refine codeAny_builtin F.entry_max_loop ?_; rw [Around.under_plainId F.plain_max_loop _]
  show wpAny _ A.in1 (seqItems? (.ref S) >>= _) _ _ s; refine wpAny_bind (wpAny_seqItems eS rfl ?_)
  show wpAny _ A.in1 (tryCatch (pyNext (.ref I)) _ >>= _) _ _ s; refine wpAny_bind (wpAny_tryCatch (W.done s _ _ (pn ▸ st) fun h' tk kp => ?_))
  show wpAny _ A.in1 (rule _ >>= _) _ _ _
  exact wpAny_bind (wpAny_rule (wpAny_pure (fin h' tk kp)))
end
section
variable {prog : Program} {w : World} {A : Around} {E : Value → Shared → Prop} {s : Shared} {l : Addr}
theorem args_maxd (x d : Value) : argsOk "max" ⟨[x], [(Str.ofString "default", d)]⟩ := by unfold argsOk; kernel_rfl
theorem fun_kw {id : String} {b : Builtin} {args : List Value} {kw : List (Str × Value)} {Q : Value → Shared → Prop} (hk : builtinKind id = none) (hp : plainId id = true) (hb : entryFor table id = some b) (ha : argsOk id ⟨args, kw⟩)
    (hc : wpAny (model prog w) A.in1 (b ⟨args, kw⟩) (fun fin s' => match fin with
      | .done f => (match (Except.ok f : Result) with | .ok (.ret v) => Q v s' | .ok _ => False | .error e => E e s')
      | .again c' => c'.quiet = true ∧ codeAny (model prog w) A c' (fun r s' => match r with | .ok (.ret v) => Q v s' | .ok _ => False | .error e => E e s') s') E s) : wpAny (model prog w) A (call (.builtin id) args kw) Q E s := by
  refine wpAny_call (codeAny_call_builtin hp hb ?_); simp only [checkBuiltinCall, hk]
  cases hg : Manifest.signature? id with
  | none => exact wpAny_pure hc
  | some sig =>
    have ha' : Bind.checkArgs id sig ⟨args, kw⟩ = pure () := by simpa only [argsOk, hg] using ha
    simp only [ha']; exact wpAny_pure hc
theorem call_maxd {x d : Value} {Q : Value → Shared → Prop}
    (h : wpAny (model prog w) A.in1 (pyIter x) (fun it s₂ => ∃ I fp wr n P St bt, it = .ref I ∧ Walks prog w A.in1 I fp wr n P St ∧ St 0 s₂.heap ∧ (∀ b ∈ fp, b < s₂.heap.objs.size) ∧ CmpOf prog w A.in1 .Gt P bt ∧
      (0 < n → ∀ v h' tk, P (argBest bt (n - 1)) v → (∀ b o, b ∉ wr → s₂.heap.get? b = some o → h'.get? b = some o) → Q v { s₂ with heap := h', toks := tk }) ∧
      (n = 0 → ∀ h' tk, (∀ b o, b ∉ wr → s₂.heap.get? b = some o → h'.get? b = some o) → Q d { s₂ with heap := h', toks := tk })) E s) :
    wpAny (model prog w) A (call (.builtin "max") [x] [(Str.ofString "default", d)]) Q E s := by
  have en : (toString "max" ++ toString ".loop" : String) = "max.loop" := by decide
  refine fun_kw F.kind_max F.plain_max F.entry_max (args_maxd _ _) ?_
  show wpAny _ A.in1 (Builtin.Builtins.bindParams "max" ["key", "default"] 0 ⟨[], [(Str.ofString "default", d)]⟩ >>= _) _ _ s
  refine wpAny_bind (wpAny_of_eq (show Builtin.Builtins.bindParams "max" ["key", "default"] 0 ⟨[], [(Str.ofString "default", d)]⟩ = pure [none, some d] from rfl) ?_)
  refine wpAny_bind (wpAny_pure ?_); refine wpAny_bind (wpAny_mono h (fun it s₂ h₂ => ?_) fun _ _ e => e)
  obtain ⟨I, fp, wr, n, P, St, bt, rfl, W, st, hfp, cm, q1, q2⟩ := h₂
  refine wpAny_bind (wpAny_newObj_type ?_)
  have nf : s₂.heap.objs.size ∉ fp := fun hm => Nat.lt_irrefl _ (hfp _ hm)
  rw [en]
  rcases Nat.eq_zero_or_pos n with pn | pn
  · refine wpAny_pure ⟨plainId_quiet F.plain_max_loop _, mx_none _ d W s₂.heap.objs.size nf pn (W.frame _ _ _ st fun b _ o e => Heap.get?_push_of_some _ e) (Heap.get?_push_size _ rfl) fun h' tk hk => ?_⟩
    exact q2 pn h' tk fun b o n1 e => hk b o n1 (Heap.get?_push_of_some _ e)
  · refine wpAny_pure ⟨plainId_quiet F.plain_max_loop _, mx_first _ W bt cm s₂.heap.objs.size nf pn (W.frame _ _ _ st fun b _ o e => Heap.get?_push_of_some _ e) (Heap.get?_push_size _ rfl) fun v h' tk hP hk => ?_⟩
    exact q1 pn v h' tk hP fun b o n1 e => hk b o n1 (Nat.ne_of_lt (Heap.lt_size e)) (Heap.get?_push_of_some _ e)
end
end PySem

namespace L2
open PySem PySem.Spec PyProof.Rows
/-- max(l, default = d), ints -/
def rMaxD (K : PySem.W.Frag) : List V → List V → Hp → VK → Prop := fun vs zs H Q => ∃ (a : Addr) (ns : List Int) (d : V), vs = [.ref a] ∧ zs = [d] ∧ SqL K H a (ns.map V.int) ∧ (ns = [] → Q d H) ∧ (ns ≠ [] → ∀ m ∈ ns, (∀ b, b ∈ ns → b ≤ m) → Q (.int m) H)
theorem ck_maxd {X : Cx} (hc : X.calm = true) : CallRK X (.builtin "max") ["default"] (rMaxD X.K) := by
  intro pins s σ H vs zs us ws Q I r1 r2 h
  obtain ⟨a, ns, d, rfl, rfl, hs, q1, q2⟩ := h
  obtain ⟨its, rv, hl, _⟩ := I.list hs
  rw [Vals.ref1 r1]
  obtain ⟨u, rfl, ru⟩ := r2.one
  obtain ⟨xs, e⟩ := rv.ints.allInts.items
  have hn : numsOf (intItems xs).toList = ns := by rw [← e]; exact rv.ints.numsOf
  rw [nums_intItems] at hn
  have hl2 := hl.isList
  rw [e] at hl2
  refine call_maxd (iter_intList hl2 fun s₂ e2 st hfp hlI => ?_)
  subst e2
  refine ⟨_, _, _, _, _, _, _, rfl, Walks.list (A := X.A.in1) (I.ok.hd hc) _ a hlI (intItems xs), st, hfp, CmpOf.ints_gt (numAt xs) (fun _ _ => intItems_at), ?_, ?_⟩
  · intro pn v h' tk hP hk
    have hk2 := old_kept hk
    have hsz : 0 < xs.size := by simpa [intItems] using pn
    have hP2 : (intItems xs)[argBest (fun i j => decide (numAt xs i > numAt xs j)) (xs.size - 1)]? = some v := by simpa [intItems] using hP
    obtain ⟨t, rfl⟩ := intItems_at hP2
    obtain ⟨h1, h2⟩ := argBest_gt (numAt xs) (xs.size - 1)
    refine ⟨.int _, H, I.kept hk2, ⟨_, rfl⟩, q2 ?_ _ ?_ ?_⟩
    · rw [← hn]; intro z; have e9 := congrArg List.length z; rw [List.length_map, Array.length_toList, List.length_nil] at e9; exact Nat.lt_irrefl _ (e9 ▸ hsz)
    · rw [← hn, numAt_eq]; exact PySem.getD_mem (by rw [List.length_map, Array.length_toList]; omega)
    · intro b hb
      rw [← hn] at hb
      obtain ⟨j, hj, rfl⟩ := mem_getD hb
      rw [List.length_map, Array.length_toList] at hj
      rw [← numAt_eq]; exact h2 j (by omega)
  · intro pn h' tk hk
    have hk2 := old_kept hk
    have hsz : xs.size = 0 := by simpa [intItems] using pn
    refine ⟨d, H, I.kept hk2, ru, q1 ?_⟩
    rw [← hn]; simp at hsz; simp [hsz]
end L2
namespace Bw
open PySem L2
theorem staE {F H : Hp} {c c' : Cs} (e : c = c') (s : Sta F c H) : Sta F c' H := e ▸ s
theorem sb_dropM {t l cs : Cs} : Sb (t ++ (l ++ cs)) (t ++ cs) := fun F H s => by
  have sub : (t ++ cs).Sublist (t ++ (l ++ cs)) := List.Sublist.append_left (List.sublist_append_right l cs) t
  exact ⟨s.fr, fun p hp => s.sep p (sub.subset hp), fun p hp => s.has p (sub.subset hp), (sub.map (·.1)).nodup s.nd⟩
def maxD (xs : List Int) (d : Int) : Option Int := match xs with
  | [] => some d
  | _ => maxL xs
section
variable {K : PySem.W.Frag} {σ : St} {F : Hp} {cs cs1 cs2 : Cs} {as tk : TA}
theorem d_maxD {xs : List Int} {d m : Int} (h : EvDs K as σ F cs [eL eI xs] cs1) (h2 : EvDs K tk σ F cs1 [.int d] cs2) (hm : maxD xs d = some m) : EvD K (tCKw (rMaxD K) as tk) σ F cs (.int m) cs2 := fun F1 H1 g1 s Q q =>
  h F1 H1 g1 s _ fun vs F2 H2 g2 s2 hv => h2 F2 H2 (g1.tr g2) s2 _ fun zs F3 H3 g3 s3 hz => by
    obtain ⟨v, rfl, k⟩ := hv.one
    obtain ⟨p, ys, rfl, hl, hd⟩ := k.toLst
    obtain rfl := Dts.ints hd
    obtain ⟨z, rfl, kz⟩ := hz.one
    obtain rfl := kz.toInt
    refine ⟨p, xs, _, rfl, rfl, gr_L s3.fr (gr_L g3 hl), fun e => ?_, fun e b hb1 hb2 => ?_⟩
    · subst e
      cases hm
      exact q _ F3 H3 (g2.tr g3) s3 (.int _)
    · have e1 : maxL xs = some m := by
        cases xs with
        | nil => exact absurd rfl e
        | cons x xs => exact hm
      have n12 : m ∈ xs ∧ ∀ b ∈ xs, b ≤ m := by
        cases xs with
        | nil => exact absurd rfl e
        | cons x xs =>
          obtain rfl := sm e1
          obtain ⟨a1, a2, a3⟩ := foldl_max xs x
          refine ⟨?_, fun b hb => ?_⟩
          · rcases a1 with h | h
            · rw [h]; exact List.mem_cons_self
            · exact List.mem_cons_of_mem _ h
          · rcases List.mem_cons.mp hb with rfl | hb
            · exact a2
            · exact a3 b hb
      obtain ⟨n1, n2⟩ := n12
      have : b = m := Int.le_antisymm (n2 b hb1) (hb2 m n1)
      subst this
      exact q _ F3 H3 (g2.tr g3) s3 (.int _)
end
end Bw

namespace L2
open PySem PySem.Spec PyProof.Rows
/-- a op1 b op2 c op3 d -/
def tChain3 (r r' r'' : R2) (ta tb tc td : TE) : TE := fun σ H Q => ta σ H fun x H1 => tb σ H1 fun y H2 => r x y H2 fun z H3 => ∃ k, z = .bl k ∧
  (if k = true then tc σ H3 fun w' H4 => r' y w' H4 fun z' H5 => ∃ k', z' = .bl k' ∧ (if k' = true then td σ H5 fun v H6 => r'' w' v H6 Q else Q (.bl false) H5) else Q (.bl false) H3)
section
variable {X : Cx} {a b c d : Expr} {ta tb tc td : TE} {pos : Pos}
theorem pe_chain3 {op op' op'' : CmpOp} {r r' r'' : R2} (ho : OpR X (compareOp op) r) (ho' : OpR X (compareOp op') r') (h3 : OpR X (compareOp op'') r'') (ha : PE X a ta) (hb : PE X b tb) (hc : PE X c tc) (hd : PE X d td)
    (hm : lastMarks [op, op', op''] [b, c, d] = false := by with_unfolding_all rfl) : PE X (.Compare a [op, op', op''] [b, c, d] pos) (tChain3 r r' r'' ta tb tc td) := by
  refine ⟨fun pins s σ H Q I h => ?_⟩
  refine Compare_chain (thn (ha.run pins s σ H _ I h) fun v s1 ⟨x, H1, I1, r1, q1⟩ => chain_link (thn (hb.run pins s1 σ H1 _ I1 q1) fun u s2 ⟨y, H2, I2, r2, q2⟩ => thn (ho pins s2 σ H2 x y v u _ I2 r1 r2 q2) fun e s3 ⟨z, H3, I3, r3, k, ek, q3⟩ => ?_)) hm
  subst ek; cases r3; refine wpAny_truthy_bool ?_
  cases k with
  | false => exact ite_ff ⟨.bl false, H3, I3, rfl, q3⟩
  | true =>
    refine ite_tt (chain_link (thn (hc.run pins s3 σ H3 _ I3 q3) fun w' s4 ⟨z', H4, I4, r4, q4⟩ => thn (ho' pins s4 σ H4 y z' u w' _ I4 r2 r4 q4) fun e' s5 ⟨z2, H5, I5, r5, k2, ek2, q5⟩ => ?_))
    subst ek2; cases r5; refine wpAny_truthy_bool ?_
    cases k2 with
    | false => exact ite_ff ⟨.bl false, H5, I5, rfl, q5⟩
    | true => exact ite_tt (chain_last (thn (hd.run pins s5 σ H5 _ I5 q5) fun v' s6 ⟨z3, H6, I6, r6, q6⟩ => h3 pins s6 σ H6 z' z3 w' v' Q I6 r4 r6 q6))
theorem pt_chain3 {op op' op'' : CmpOp} {r r' r'' : R2} (ho : OpR X (compareOp op) r) (ho' : OpR X (compareOp op') r') (h3 : OpR X (compareOp op'') r'') (ha : PE X a ta) (hb : PE X b tb) (hc : PE X c tc) (hd : PE X d td)
    (hm : lastMarks [op, op', op''] [b, c, d] = false := by with_unfolding_all rfl) : PT X (.Compare a [op, op', op''] [b, c, d] pos) (tTest (tChain3 r r' r'' ta tb tc td)) := by
  refine ⟨fun pins s σ H Q I h => ?_⟩
  refine isTrue_chain (thn (ha.run pins s σ H _ I h) fun v s1 ⟨x, H1, I1, r1, q1⟩ => test_link (thn (hb.run pins s1 σ H1 _ I1 q1) fun u s2 ⟨y, H2, I2, r2, q2⟩ => thn (ho pins s2 σ H2 x y v u _ I2 r1 r2 q2) fun e s3 ⟨z, H3, I3, r3, k, ek, q3⟩ => ?_)) hm
  subst ek; cases r3; refine wpAny_truthy_bool ?_
  cases k with
  | false => obtain ⟨k', e', q'⟩ := q3; cases e'; exact ite_ff ⟨H3, I3, q'⟩
  | true =>
    refine ite_tt (test_link (thn (hc.run pins s3 σ H3 _ I3 q3) fun w' s4 ⟨z', H4, I4, r4, q4⟩ => thn (ho' pins s4 σ H4 y z' u w' _ I4 r2 r4 q4) fun e' s5 ⟨z2, H5, I5, r5, k2, ek2, q5⟩ => ?_))
    subst ek2; cases r5; refine wpAny_truthy_bool ?_
    cases k2 with
    | false => obtain ⟨k', e', q'⟩ := q5; cases e'; exact ite_ff ⟨H5, I5, q'⟩
    | true =>
      refine ite_tt (test_last (thn (hd.run pins s5 σ H5 _ I5 q5) fun v' s6 ⟨z3, H6, I6, r6, q6⟩ => thn (h3 pins s6 σ H6 z' z3 w' v' _ I6 r4 r6 q6) fun e' s7 ⟨z4, H7, I7, r7, k4, ek4, q7⟩ => ?_))
      subst ek4; cases r7; exact wpAny_truthy_bool ⟨H7, I7, q7⟩
end
end L2
namespace Bw
open PySem L2
section
variable {K : PySem.W.Frag} {σ : St} {F : Hp} {cs cs1 : Cs} {ta tb tc td : TE} {a b c d : Int}
theorem d_chain3 {g g' g'' : Int → Int → Bool} (ha : EvD K ta σ F cs (.int a) cs) (hb : EvD K tb σ F cs (.int b) cs) (hc : EvD K tc σ F cs (.int c) cs) (hd : EvD K td σ F cs (.int d) cs) : EvD K (tChain3 (rI0 fun i j => .bl (g i j)) (rI0 fun i j => .bl (g' i j)) (rI0 fun i j => .bl (g'' i j)) ta tb tc td) σ F cs (.bool (g a b && (g' b c && g'' c d))) cs := fun F1 H1 g1 s Q q =>
  ha F1 H1 g1 s _ fun v F2 H2 g2 s2 h2 => hb F2 H2 (g1.tr g2) s2 _ fun w F3 H3 g3 s3 h3 => by
    cases h2.toInt; cases h3.toInt
    refine ⟨a, b, rfl, rfl, g a b, rfl, ?_⟩
    cases e : g a b with
    | false => rw [if_neg (by decide)]; exact q _ F3 H3 (g2.tr g3) s3 (by show Dt K F3 (.bl false) (.bool (g a b && (g' b c && g'' c d))); rw [e]; exact .bl _)
    | true =>
      rw [if_pos rfl]
      refine hc F3 H3 ((g1.tr g2).tr g3) s3 _ fun u F4 H4 g4 s4 h4 => ?_
      cases h4.toInt
      refine ⟨b, c, rfl, rfl, g' b c, rfl, ?_⟩
      cases e2 : g' b c with
      | false => rw [if_neg (by decide)]; exact q _ F4 H4 ((g2.tr g3).tr g4) s4 (by show Dt K F4 (.bl false) (.bool (g a b && (g' b c && g'' c d))); rw [e, e2]; exact .bl _)
      | true =>
        rw [if_pos rfl]
        refine hd F4 H4 (((g1.tr g2).tr g3).tr g4) s4 _ fun x F5 H5 g5 s5 h5 => ?_
        cases h5.toInt
        exact ⟨c, d, rfl, rfl, q _ F5 H5 (((g2.tr g3).tr g4).tr g5) s5 (by show Dt K F5 (.bl (g'' c d)) (.bool (g a b && (g' b c && g'' c d))); rw [e, e2]; exact .bl _)⟩
end
end Bw
namespace Bw
open PySem L2
/-- what is asked first raises -/
theorem s_cutX {K : PySem.W.Frag} {σ : St} {F H : Hp} {cs cs1 : Cs} {te : TE} {W : WX} {Q : VK} {c : Str × PyData} (s : Sta F cs H) (h : EvX K te W σ F cs (.ex c) cs1) (qx : ∀ d F2 H2, Gr F F2 → Sta F2 cs1 H2 → Xd K F2 c d → W (.ref (He.ga K c.1)) d σ H2) : te σ H Q :=
  h F H .rfl s Q (fun d hd => nomatch hd) fun c' hc d F2 H2 g2 s2 xd => by cases hc; exact qx d F2 H2 g2 s2 xd
end Bw

namespace L2
open PySem PySem.Spec PyProof.Rows
/-! list(range(a, b, c)), c above 0 -/
def rz3 (a b c : Int) : Nat := if a < b then ((b - a - 1) / c + 1).toNat else 0
theorem rz3_size {a b c : Int} (h : 0 < c) : Builtin.Range.rangeSize a b c = (rz3 a b c : Int) := by
  unfold Builtin.Range.rangeSize rz3
  rw [if_pos h]
  split
  · rename_i q
    have := Int.ediv_nonneg (a := b - a - 1) (b := c) (by omega) (by omega)
    omega
  · rfl
theorem rz3_small {a b c : Int} (h : 0 < c) (h1 : c < 1073741824) (ha : -(2 ^ 61) ≤ a) (ha' : a < 2 ^ 61) (hb : -(2 ^ 61) ≤ b) (hb' : b < 2 ^ 61) : Builtin.Range.small a b c = true := by
  have e := rz3_size (a := a) (b := b) h
  unfold Builtin.Range.small
  rw [e]
  unfold rz3
  have dv : a < b → 0 ≤ (b - a - 1) / c ∧ (b - a - 1) / c ≤ b - a - 1 := fun q => ⟨Int.ediv_nonneg (by omega) (by omega), Int.ediv_le_self _ (by omega)⟩
  have dm : a < b → (b - a - 1) / c * c ≤ b - a - 1 := fun q => Int.ediv_mul_le _ (by omega)
  simp only [Builtin.Range.rangeFitsLong, Bool.and_eq_true, Bool.or_eq_true, decide_eq_true_eq, beq_iff_eq, show c > 0 from h, if_true]
  split
  · rename_i q
    have := dv q
    have := dm q
    generalize (b - a - 1) / c = d at *
    have e1 : (((d + 1).toNat : Nat) : Int) = d + 1 := by omega
    rw [e1]
    refine ⟨?_, ?_⟩ <;> (try omega) <;> (try (refine ⟨?_, ?_⟩ <;> (try omega)))
  · simp; omega
def rg3V (a c : Int) (n : Nat) : List V := (List.range n).map fun i => V.int (a + (i : Nat) * c)
theorem vals_rg3 {a c : Int} {n : Nat} {acc : Array Value} (h : ItemsOf (fun i v => ∃ t, v = .int (a + i * c) t) acc n) : Vals (rg3V a c n) acc.toList := by
  have e : acc.toList.length = n := by rw [Array.length_toList]; exact h.1
  unfold rg3V
  rw [← e]
  refine vals_of_get acc.toList _ fun j u hj => ?_
  obtain ⟨t, rfl⟩ := h.2 j u (by rw [← hj, Array.getElem?_toList])
  exact ⟨t, rfl⟩
def Rg3Ok (a b c : Int) : Prop := 0 < c ∧ c < 1073741824 ∧ -(2 ^ 61) ≤ a ∧ a < 2 ^ 61 ∧ -(2 ^ 61) ≤ b ∧ b < 2 ^ 61 ∧ rz3 a b c ≤ 100000
def tLstRg3 (t : TA) : TE := fun σ H Q => t σ H fun vs H1 => ∃ a b c, vs = [.int a, .int b, .int c] ∧ Rg3Ok a b c ∧ ∀ q, H1 q = none → Q (.ref q) (upd H1 q (.lst (rg3V a c (rz3 a b c))))
section
variable {X : Cx} {a b c : Expr} {ta : TA} {p pos p' pos' : Pos}
theorem pe_listRg3 (hc : X.calm = true) (hg : Gl X "list") (hm : X.mg "list" = none) (hg' : Gl X "range") (hm' : X.mg "range" = none) (ha : PA X [a, b, c] ta)
    (hs : starEach [a, b, c] X.env = (false, eval a X.env) :: starEach [b, c] X.env := by rfl) (hpl : (backTo pos' (starEach [b, c] X.env)).any (·.1) = false := by rfl)
    (na : starEach [.Call (.Name "range" p') [a, b, c] [] pos'] X.env = (false, eval (.Call (.Name "range" p') [a, b, c] [] pos') X.env) :: starEach [] X.env := by rfl) :
    PE X (.Call (.Name "list" p) [.Call (.Name "range" p') [a, b, c] [] pos'] [] pos) (tLstRg3 ta) := by
  refine ⟨fun pins s σ H Q I h => ?_⟩
  refine Call_ (ld_blt I hg hm boot_list (PyProof.Rows.callWith_type1 (args_cons ?_ na) na))
  refine Call_ (ld_blt I hg' hm' boot_range (PyProof.Rows.callWith_type1 (thn (ha.run pos' pins s σ H _ I h) fun us s1 ⟨vs, H1, I1, r1, q1⟩ => ?_) hs hpl))
  obtain ⟨i, j, k, e, ⟨c0, c1, c2, c3, c4, c5, c6⟩, q⟩ := q1
  subst e
  cases r1 with
  | cons r rr =>
    cases rr with
    | cons r' rr =>
      cases rr with
      | cons r'' rr =>
        cases rr
        obtain ⟨t, rfl⟩ := r
        obtain ⟨t', rfl⟩ := r'
        obtain ⟨t'', rfl⟩ := r''
        refine call_range_3 (by omega) ?_ (.inl (PyProof.noPylong_small (by omega)))
        have I2 : Inv X pins σ H1 { s1 with heap := s1.heap.push { cls := .type "range", data := .fields #[.int i t, .int j t', .int k t''] } } := I1.kept (t' := s1.toks) fun b o e => Heap.get?_push_of_some _ e
        refine args_nil ?_
        refine call_list_range (n := rz3 i j k) (I2.ok.hd hc) (IsRange.new ..) (rz3_small c0 c1 c2 c3 c4 c5) (rz3_size c0) (by omega) fun h' tk acc c' hk e' hi => ?_
        refine ⟨.ref _, upd H1 _ (.lst (rg3V i k (rz3 i j k))), I2.laid hk (Nat.le_refl _) (show ObjOk X.prog X.w _ _ _ (.lst (rg3V i k (rz3 i j k))) from ⟨?_, acc.toList, c', vals_rg3 hi, ?_⟩), rfl, q _ (I2.hok.fresh (Nat.le_refl _))⟩
        · unfold rg3V; rw [List.length_map, List.length_range, sizeLine_eq]; omega
        · rw [Array.toArray_toList]; exact e'
end
end L2
namespace Bw
open PySem L2
def rng3L (a b c : Int) : List Int := (List.range (rz3 a b c)).map fun (i : Nat) => a + (i : Int) * c
def rng3M (a b c : Int) : Option (List Int) := if 0 < c ∧ c < 1073741824 ∧ -(2 ^ 61) ≤ a ∧ a < 2 ^ 61 ∧ -(2 ^ 61) ≤ b ∧ b < 2 ^ 61 ∧ rz3 a b c ≤ 100000 then some (rng3L a b c) else none
section
variable {K : PySem.W.Frag} {σ : St} {F : Hp} {cs cs1 : Cs} {as : TA} {a b c : Int} {xs : List Int}
theorem c_rng3 (h : EvDs K as σ F cs [.int a, .int b, .int c] cs1) (k : rng3M a b c = some xs) : EvC K (tLstRg3 as) σ F cs (xs.map eI) cs1 := fun F1 H1 g1 s Q q =>
  h F1 H1 g1 s _ fun vs F2 H2 g2 s2 hv => by
    unfold rng3M at k
    split at k
    · rename_i w
      obtain rfl := Option.some.inj k
      obtain ⟨x, y, z, rfl, h1, h2, h3⟩ := hv.three
      cases h1.toInt; cases h2.toInt; cases h3.toInt
      refine ⟨a, b, c, rfl, w, fun p hp => ?_⟩
      have e : rg3V a c (rz3 a b c) = (rng3L a b c).map V.int := by unfold rg3V rng3L; rw [List.map_map]; rfl
      rw [e]
      exact q p _ F2 _ g2 (s2.cell hp) (Dts.of_ints _)
    · cases k
end
end Bw

namespace Bw
open PySem L2
def top (i : Nat) : Stmt := PySem.Challenge.pw_baycart_k58_whole_later_and_turned_about.main.body.getD i (.Pass ⟨0, 0, 0, 0⟩)
abbrev T_Tour : Type := ((List Int) × Int) × (List (Str × Int × Int × Int)) × (List (Option Int)) × (List (Option Int)) × Int × Int × (List ((Int × Bool) × (List Int))) × Int × (List Int) × Int × Int × Bool
def O_Tour (K : PySem.W.Frag) (x : T_Tour) (F : Hp) (a : Addr) (c : Cs) : Prop := ∃ (dx : Addr) (w0 : V) (w1 : V) (p2 : Addr) (u2 : List V) (p3 : Addr) (u3 : List V) (p6 : Addr) (l6 : List Ln) (p8 : Addr), c = [(a, .ins (He.ga K "Tour") dx [("aisle", w0), ("orders", w1), ("taken", .ref p2), ("homes", .ref p3), ("many", (.int x.2.2.2.2.1)), ("come", (.int x.2.2.2.2.2.1)), ("lines", .ref p6), ("queued", (.int x.2.2.2.2.2.2.2.1)), ("riding", .ref p8), ("tick", (.int x.2.2.2.2.2.2.2.2.2.1)), ("bay", (.int x.2.2.2.2.2.2.2.2.2.2.1)), ("upward", (.bl x.2.2.2.2.2.2.2.2.2.2.2))]), (dx, .own a), (p2, .lst u2), (p3, .lst u3), (p6, dlO p6 (lnsD l6)), (p8, .lst (x.2.2.2.2.2.2.2.2.1.map V.int))] ++ lnsC l6 ∧ Dt K F w0 ((eT2 (eL eI) eI) x.1) ∧ Dt K F w1 ((eL (eT4 eS eI eI eI)) x.2.1) ∧ Dts K F u2 (x.2.2.1.map (eO eI)) ∧ Dts K F u3 (x.2.2.2.1.map (eO eI)) ∧ LnOk K F l6 ∧ lnsM l6 = x.2.2.2.2.2.2.1
theorem O_Tour.gr {K : PySem.W.Frag} {x : T_Tour} {F F' : Hp} {a : Addr} {c : Cs} (g : Gr F F') (h : O_Tour K x F a c) : O_Tour K x F' a c := by
  obtain ⟨dx, w0, w1, p2, u2, p3, u3, p6, l6, p8, rfl, h0, h1, h2, h3, h6, e6⟩ := h
  exact ⟨dx, w0, w1, p2, u2, p3, u3, p6, l6, p8, rfl, Dt.gr g h0, Dt.gr g h1, Dts.gr g h2, Dts.gr g h3, LnOk.gr g h6, e6⟩
abbrev s_pool : Stmt := (top 27)
def f_pool : ((List Int) × Int) → Option (List Int) := fun (script_1, k_2) => ((if (decide (k_2 < (script_1.length : Int))) = true then (((atI script_1 k_2)).bind fun x57 => some x57) else some (0 : Int))).bind fun cell_7 => (((mulM ((15485863 : Int) * k_2) k_2)).bind fun x17 => letM (((((cell_7 % (1000000007 : Int)) + x17) + (3 : Int)) * (16807 : Int)) % (2147483647 : Int)) fun seed_23 => ((if (decide (cell_7 < (1000000000000000000 : Int))) = true then some (0 : Int) else some cell_7)).bind fun cell_25 => some ([cell_25, seed_23] : (List Int)))
abbrev A_pool : ((List Int) × Int) → List Ar := fun x => [.d ((eL eI) x.1), .d (eI x.2)]
abbrev B_pool : (List Int) → List PyData := fun y => y.map eI
abbrev C_pool : (List Int) → List (List V) := fun y => []
abbrev N_pool : List Str := ["_law_script", "_law_k", "_law_cell", "_law_seed"]
abbrev sp_pool (K : PySem.W.Frag) : Sp := spF K A_pool B_pool C_pool f_pool
def t_pool (K : PySem.W.Frag) : TS := (tSeq (tAsg (tC (.int 0)) (gName 2)) (tSeq (tIfS (tTest (tOp (rI0 fun i j => .bl (decide (i < j))) (tVar 1) (tCB (rLenL K) (tCons (tVar 0) tNil)))) (tAsg (tOp (rIxL K) (tVar 0) (tVar 1)) (gName 2)) tNext) (tSeq (tAsg (tOp (rI (fun _ j => 0 < j) fun i j => .int (i % j)) (tOp (rI CMul fun i j => .int (i * j)) (tOp (rI0 fun i j => .int (i + j)) (tOp (rI0 fun i j => .int (i + j)) (tOp (rI (fun _ j => 0 < j) fun i j => .int (i % j)) (tVar 2) (tC (.int 1000000007))) (tOp (rI CMul fun i j => .int (i * j)) (tOp (rI CMul fun i j => .int (i * j)) (tC (.int 15485863)) (tVar 1)) (tVar 1))) (tC (.int 3))) (tC (.int 16807))) (tC (.int 2147483647))) (gName 3)) (tSeq (tIfS (tTest (tOp (rI0 fun i j => .bl (decide (i < j))) (tVar 2) (tOp (rI CPow fun i j => .int (i ^ j.toNat)) (tC (.int 10)) (tC (.int 18))))) (tAsg (tC (.int 0)) (gName 2)) tNext) (tRet (tLst (tCons (tVar 2) (tCons (tVar 3) tNil))))))))
theorem w_pool {K : PySem.W.Frag} (vs : List V) (H : Hp) (Q : VK) (E : XK) (h : sp_pool K vs H Q E) : t_pool K { nx := fun _ H' => Q .non H', rt := Q } (start N_pool vs) H := by
  obtain ⟨F0, cc, cs, ⟨script_1, k_2⟩, y, h0, hS0, m, q⟩ := h
  obtain ⟨a0, _, rfl, ha0, h1⟩ := ArgR.hd h0
  obtain ⟨a1, _, rfl, ha1, h2⟩ := ArgR.hd h1
  obtain ⟨rfl, rfl⟩ := ArgR.no h2
  obtain rfl := Dt.toInt ha1
  unfold f_pool at m
  try dsimp only at m
  unfold t_pool
  refine go (σ' := [some a0, some (.int k_2), none, none]) rfl ?_
  refine s_setV (K := K) (d := eI (0 : Int)) (i := 2) (σ' := [some a0, some (.int k_2), some (.int (0 : Int)), none]) (fun _ _ h => Dt.toInt h) hS0 d_int rfl (fun F3 H4 g5 hS6 => ?_)
  obtain ⟨cell_7, k9, m⟩ := bnd m
  refine s_ifJ (b := (decide (k_2 < (script_1.length : Int)))) (fun σ H => ∃ (F : Hp) (c : Cs), Gr F3 F ∧ Sta F c H ∧ ∃ (j3 : Option V), σ = [some a0, some (.int k_2), some (.int cell_7), j3] ∧ cs = c) hS6 (t_test (K := K) (d_lt (d_var rfl (.int _)) (d_len (e := eI) (a_cons (d_var rfl (Dt.gr g5 ha0)) a_nil)))) ?_ (fun jn8 hc F53 H54 g55 hS56 => ?_) (fun jn8 hc F63 H64 g65 hS66 => ?_)
  · rintro σ15 H11 ⟨F10, c14, g12, hS13, u16, rfl, rfl⟩
    obtain ⟨x17, k18, m⟩ := bnd m
    obtain ⟨seed_23, k24, m⟩ := lt m
    refine s_setV (K := K) (d := eI seed_23) (i := 3) (σ' := [some a0, some (.int k_2), some (.int cell_7), some (.int seed_23)]) (fun _ _ h => Dt.toInt h) hS13 (d_is (d_modC (d_mulC (d_add (d_add (d_modC (d_var rfl (.int _)) d_int (by decide)) (d_mul (d_mulC d_int (d_var rfl (.int _)) (.inl ⟨by decide, by decide⟩)) (d_var rfl (.int _)) k18)) d_int) d_int (.inr ⟨by decide, by decide⟩)) d_int (by decide)) (congrArg eI k24)) rfl (fun F19 H20 g21 hS22 => ?_)
    obtain ⟨cell_25, k27, m⟩ := bnd m
    refine s_ifJ (b := (decide (cell_7 < (1000000000000000000 : Int)))) (fun σ H => ∃ (F : Hp) (c : Cs), Gr F19 F ∧ Sta F c H ∧ σ = [some a0, some (.int k_2), some (.int cell_25), some (.int seed_23)] ∧ cs = c) hS22 (t_test (K := K) (d_lt (d_var rfl (.int _)) (d_is (e := PyData.int 1000000000000000000) (d_powC d_int d_int ⟨by decide, by decide, by decide⟩) (congrArg PyData.int (by decide))))) ?_ (fun jn26 hc F41 H42 g43 hS44 => ?_) (fun jn26 hc F49 H50 g51 hS52 => ?_)
    · rintro σ33 H29 ⟨F28, c32, g30, hS31, rfl, rfl⟩
      refine s_retC (K := K) (ds := ([cell_25, seed_23] : (List Int)).map eI) hS31 (c_lst (a_cons (d_var rfl (.int _)) (a_cons (d_var rfl (.int _)) a_nil)) (Nat.le_of_ble_eq_true rfl)) (fun p38 us39 F34 H35 g36 hS37 hu40 => ?_)
      obtain rfl := sm m
      exact q _ _ _ _ (Gr.tr g5 (Gr.tr g12 (Gr.tr g21 (Gr.tr g30 g36)))) hS37 hu40
    · rw [if_pos hc] at k27
      refine s_setV (K := K) (d := eI (0 : Int)) (i := 2) (σ' := [some a0, some (.int k_2), some (.int (0 : Int)), some (.int seed_23)]) (fun _ _ h => Dt.toInt h) hS44 d_int rfl (fun F45 H46 g47 hS48 => ?_)
      obtain rfl := sm k27
      exact jn26 _ _ ⟨_, _, (Gr.tr g43 g47), hS48, rfl, rfl⟩
    · rw [if_neg (bf hc)] at k27
      refine nxt ?_
      obtain rfl := sm k27
      exact jn26 _ _ ⟨_, _, g51, hS52, rfl, rfl⟩
  · rw [if_pos hc] at k9
    obtain ⟨x57, k58, k9⟩ := bnd k9
    refine s_setV (K := K) (d := eI x57) (i := 2) (σ' := [some a0, some (.int k_2), some (.int x57), none]) (fun _ _ h => Dt.toInt h) hS56 (d_ix (e := eI) (d_var rfl (Dt.gr (Gr.tr g5 g55) ha0)) (d_var rfl (.int _)) k58) rfl (fun F59 H60 g61 hS62 => ?_)
    obtain rfl := sm k9
    exact jn8 _ _ ⟨_, _, (Gr.tr g55 g61), hS62, _, rfl, rfl⟩
  · rw [if_neg (bf hc)] at k9
    refine nxt ?_
    obtain rfl := sm k9
    exact jn8 _ _ ⟨_, _, g65, hS66, _, rfl, rfl⟩
theorem sc_pool : FnScope N_pool ["_law_script", "_law_k"] (defScope s_pool) := ⟨rfl, rfl, rfl, by decide +kernel, rfl, by decide +kernel, by decide +kernel⟩
theorem ok_pool {P : Program} {w : World} {K : PySem.W.Frag} {mg : Str → Option Value} {base : Heap} (hF : Df K mg "_law_pool" s_pool) (m_len : mg "len" = none) : Ok P w K mg base 1 "_law_pool" ["_law_script", "_law_k"] (sp_pool K) := by
  obtain ⟨⟨fd, F⟩, gm⟩ := hF
  refine ⟨⟨fd, F.ok sc_pool (fun vs H Q E h => ?_) (fun cdv A outer s H vs Q E hr h => ⟨t_pool K, PSs.nox ?_, w_pool vs H Q E h⟩), F.bindsN fun _ _ _ _ _ _ us hl => match us, hl with | [_, _], _ => rfl, lk_of F⟩, F.kp, gm⟩
  · obtain ⟨F0, cc, cs, x, y, h, _⟩ := h; exact ArgR.len h
  · exact (pss_cons (ps_set (i := 2) sc_pool.nd rfl (Or.inl rfl) pe_int) (pss_cons (ps_if (pt_cmpR op_lt (pv 1) (pe_callB cr_lenL (by rfl) m_len PySem.boot_len (pa_cons (pv 0) pa_nil)) (nomark _)) (pss_one (ps_set (i := 2) sc_pool.nd rfl (Or.inl rfl) (pe_ix ix_list (pv 0) (pv 1) (fun _ _ => rfl)))) pss_nil) (pss_cons (ps_set (i := 3) sc_pool.nd rfl (Or.inl rfl) (pe_op op_mod (pe_op op_mul (pe_op op_add (pe_op op_add (pe_op op_mod (pv 2) pe_int) (pe_op op_mul (pe_op op_mul pe_int (pv 1)) (pv 1))) pe_int) pe_int) pe_int)) (pss_cons (ps_if (pt_cmpR op_lt (pv 2) (pe_op op_pow pe_int pe_int) (nomark _)) (pss_one (ps_set (i := 2) sc_pool.nd rfl (Or.inl rfl) pe_int)) pss_nil) (pss_one (ps_ret (pe_lst (pa_cons (pv 2) (pa_cons (pv 3) pa_nil)))))))))
abbrev s_take : Stmt := (top 28)
def f_take : ((List Int) × Int) → Option (Int × (List Int)) := fun (pool_here_1, many_2) => (((atI pool_here_1 (0 : Int))).bind fun x6 => (if (decide ((0 : Int) < x6)) = true then (((atI pool_here_1 (0 : Int))).bind fun x15 => ((modM x15 many_2)).bind fun x17 => (((atI pool_here_1 (0 : Int))).bind fun x26 => ((fdivM x26 many_2)).bind fun x28 => ((setM pool_here_1 (0 : Int) x28)).bind fun pool_here_30 => some (x17, pool_here_30))) else (((atI pool_here_1 (1 : Int))).bind fun x49 => ((setM pool_here_1 (1 : Int) (((x49 * (48271 : Int)) + (11 : Int)) % (2147483647 : Int)))).bind fun pool_here_51 => (((atI pool_here_51 (1 : Int))).bind fun x60 => ((atI pool_here_51 (1 : Int))).bind fun x62 => ((mulM x60 x62)).bind fun x64 => ((modM ((x64 % (2147483629 : Int)) / (64 : Int)) many_2)).bind fun x66 => some (x66, pool_here_51)))))
abbrev A_take : ((List Int) × Int) → List Ar := fun x => [.c (x.1.map V.int), .d (eI x.2)]
abbrev B_take : (Int × (List Int)) → PyData := fun y => eI y.1
abbrev C_take : (Int × (List Int)) → List (List V) := fun y => [y.2.map V.int]
abbrev N_take : List Str := ["_law_pool_here", "_law_many", "_law_found"]
abbrev sp_take (K : PySem.W.Frag) : Sp := spC K A_take B_take C_take f_take
def t_take (K : PySem.W.Frag) : TS := (tSeq (tIfS (tTest (tOp (rI0 fun i j => .bl (decide (j < i))) (tOp (rIxL K) (tVar 0) (tC (.int 0))) (tC (.int 0)))) (tSeq (tAsg (tOp (rI (fun _ j => 0 < j) fun i j => .int (i % j)) (tOp (rIxL K) (tVar 0) (tC (.int 0))) (tVar 1)) (gName 2)) (tSeq (tAsg (tOp (rI CDiv fun i j => .int (i / j)) (tOp (rIxL K) (tVar 0) (tC (.int 0))) (tVar 1)) (gSub (tVar 0) (tC (.int 0)) rSetL)) (tRet (tVar 2)))) tNext) (tSeq (tAsg (tOp (rI (fun _ j => 0 < j) fun i j => .int (i % j)) (tOp (rI0 fun i j => .int (i + j)) (tOp (rI CMul fun i j => .int (i * j)) (tOp (rIxL K) (tVar 0) (tC (.int 1))) (tC (.int 48271))) (tC (.int 11))) (tC (.int 2147483647))) (gSub (tVar 0) (tC (.int 1)) rSetL)) (tRet (tOp (rI (fun _ j => 0 < j) fun i j => .int (i % j)) (tOp (rI CDiv fun i j => .int (i / j)) (tOp (rI (fun _ j => 0 < j) fun i j => .int (i % j)) (tOp (rI CMul fun i j => .int (i * j)) (tOp (rIxL K) (tVar 0) (tC (.int 1))) (tOp (rIxL K) (tVar 0) (tC (.int 1)))) (tC (.int 2147483629))) (tC (.int 64))) (tVar 1)))))
theorem w_take {K : PySem.W.Frag} (vs : List V) (H : Hp) (Q : VK) (E : XK) (h : sp_take K vs H Q E) : t_take K { nx := fun _ H' => Q .non H', rt := Q } (start N_take vs) H := by
  obtain ⟨F0, cc, cs, ⟨pool_here_1, many_2⟩, y, h0, hS0, m, q⟩ := h
  obtain ⟨a0, _, _, rfl, rfl, h1⟩ := ArgR.hc h0
  obtain ⟨a1, _, rfl, ha1, h2⟩ := ArgR.hd h1
  obtain ⟨rfl, rfl⟩ := ArgR.no h2
  obtain rfl := Dt.toInt ha1
  unfold f_take at m
  try dsimp only at m
  unfold t_take
  refine go (σ' := [some (.ref a0), some (.int many_2), none]) rfl ?_
  obtain ⟨x6, k7, m⟩ := bnd m
  refine s_if (b := (decide ((0 : Int) < x6))) hS0 (t_lendX (l1 := []) (m1 := []) (fun F3 g4 hn5 => (t_test (K := K) (d_gt (d_ix (e := eI) (d_var rfl (lent_l hn5 (Dts.gr g4 (Dts.of_ints _)))) d_int k7) d_int)))) (fun hc F8 H9 g10 hS11 => ?_) (fun hc F42 H43 g44 hS45 => ?_)
  · rw [if_pos hc] at m
    obtain ⟨x15, k16, m⟩ := bnd m
    obtain ⟨x17, k18, m⟩ := bnd m
    refine s_setV (K := K) (d := eI x17) (i := 2) (σ' := [some (.ref a0), some (.int many_2), some (.int x17)]) (fun _ _ h => Dt.toInt h) hS11 (d_lendX (l1 := []) (m1 := []) (fun _ _ h => Dt.toInt h) (fun _ => (.int _)) (fun F12 g13 hn14 => (d_mod (d_ix (e := eI) (d_var rfl (lent_l hn14 (Dts.gr g13 (Dts.of_ints _)))) d_int k16) (d_var rfl (.int _)) k18))) rfl (fun F19 H20 g21 hS22 => ?_)
    obtain ⟨x26, k27, m⟩ := bnd m
    obtain ⟨x28, k29, m⟩ := bnd m
    obtain ⟨pool_here_30, k31, m⟩ := bnd m
    refine s_itemFV (K := K) (k1 := []) (m1 := []) (x := x28) (l1 := []) (p := a0) (vf := V.int) (en := eI) (fun _ _ _ h => Dt.toInt h) hS22 (vp_var rfl) (d_lendX (l1 := []) (m1 := []) (fun _ _ h => Dt.toInt h) (fun _ => (.int _)) (fun F23 g24 hn25 => (d_fdiv (d_ix (e := eI) (d_var rfl (lent_l hn25 (Dts.gr g24 (Dts.of_ints _)))) d_int k27) (d_var rfl (.int _)) k29))) d_int k31 (fun F32 H33 g34 hS35 => ?_)
    refine s_ret (K := K) (d := eI x17) hS35 (d_var rfl (.int _)) (fun v40 F36 H37 g38 hS39 hv41 => ?_)
    obtain rfl := sm m
    exact q _ _ _ (Gr.tr g10 (Gr.tr g21 (Gr.tr g34 g38))) hS39 hv41
  · rw [if_neg (bf hc)] at m
    refine nxt ?_
    obtain ⟨x49, k50, m⟩ := bnd m
    obtain ⟨pool_here_51, k52, m⟩ := bnd m
    refine s_itemFV (K := K) (k1 := []) (m1 := []) (x := (((x49 * (48271 : Int)) + (11 : Int)) % (2147483647 : Int))) (l1 := []) (p := a0) (vf := V.int) (en := eI) (fun _ _ _ h => Dt.toInt h) hS45 (vp_var rfl) (d_lendX (l1 := []) (m1 := []) (fun _ _ h => Dt.toInt h) (fun _ => (.int _)) (fun F46 g47 hn48 => (d_modC (d_add (d_mulC (d_ix (e := eI) (d_var rfl (lent_l hn48 (Dts.gr g47 (Dts.of_ints _)))) d_int k50) d_int (.inr ⟨by decide, by decide⟩)) d_int) d_int (by decide)))) d_int k52 (fun F53 H54 g55 hS56 => ?_)
    obtain ⟨x60, k61, m⟩ := bnd m
    obtain ⟨x62, k63, m⟩ := bnd m
    obtain ⟨x64, k65, m⟩ := bnd m
    obtain ⟨x66, k67, m⟩ := bnd m
    refine s_ret (K := K) (d := eI x66) hS56 (d_lendX (l1 := []) (m1 := []) (fun _ _ h => Dt.toInt h) (fun _ => (.int _)) (fun F57 g58 hn59 => (d_mod (d_fdivC (d_modC (d_mul (d_ix (e := eI) (d_var rfl (lent_l hn59 (Dts.gr g58 (Dts.of_ints _)))) d_int k61) (d_ix (e := eI) (d_var rfl (lent_l hn59 (Dts.gr g58 (Dts.of_ints _)))) d_int k63) k65) d_int (by decide)) d_int ⟨by decide, by decide⟩) (d_var rfl (.int _)) k67))) (fun v72 F68 H69 g70 hS71 hv73 => ?_)
    obtain rfl := sm m
    exact q _ _ _ (Gr.tr g44 (Gr.tr g55 g70)) hS71 hv73
theorem sc_take : FnScope N_take ["_law_pool_here", "_law_many"] (defScope s_take) := ⟨rfl, rfl, rfl, by decide +kernel, rfl, by decide +kernel, by decide +kernel⟩
theorem ok_take {P : Program} {w : World} {K : PySem.W.Frag} {mg : Str → Option Value} {base : Heap} (hF : Df K mg "_law_take" s_take) : Ok P w K mg base 1 "_law_take" ["_law_pool_here", "_law_many"] (sp_take K) := by
  obtain ⟨⟨fd, F⟩, gm⟩ := hF
  refine ⟨⟨fd, F.ok sc_take (fun vs H Q E h => ?_) (fun cdv A outer s H vs Q E hr h => ⟨t_take K, PSs.nox ?_, w_take vs H Q E h⟩), F.bindsN fun _ _ _ _ _ _ us hl => match us, hl with | [_, _], _ => rfl, lk_of F⟩, F.kp, gm⟩
  · obtain ⟨F0, cc, cs, x, y, h, _⟩ := h; exact ArgR.len h
  · exact (pss_cons (ps_if (pt_cmpR op_gt (pe_ix ix_list (pv 0) pe_int (fun _ _ => rfl)) pe_int (nomark _)) (pss_cons (ps_set (i := 2) sc_take.nd rfl (Or.inl rfl) (pe_op op_mod (pe_ix ix_list (pv 0) pe_int (fun _ _ => rfl)) (pv 1))) (pss_cons (ps_asg (pe_op op_fdiv (pe_ix ix_list (pv 0) pe_int (fun _ _ => rfl)) (pv 1)) (pg_sub (pv 0) pe_int set_list)) (pss_one (ps_ret (pv 2))))) pss_nil) (pss_cons (ps_asg (pe_op op_mod (pe_op op_add (pe_op op_mul (pe_ix ix_list (pv 0) pe_int (fun _ _ => rfl)) pe_int) pe_int) pe_int) (pg_sub (pv 0) pe_int set_list)) (pss_one (ps_ret (pe_op op_mod (pe_op op_fdiv (pe_op op_mod (pe_op op_mul (pe_ix ix_list (pv 0) pe_int (fun _ _ => rfl)) (pe_ix ix_list (pv 0) pe_int (fun _ _ => rfl))) pe_int) pe_int) (pv 1))))))
abbrev s_aisle : Stmt := (top 29)
def f_aisle : ((List Int) × Int × Int) → Option (((List Int) × Int) × (List Int)) := fun (pool_here_1, most_gaps_2, longest_3) => (((f_take (pool_here_1, most_gaps_2))).bind fun (x4, pool_here_6) => ((rngM (0 : Int) ((1 : Int) + x4))).bind fun x7 => ((lcSC (fun (pool_here_18 : (List Int)) k_9 => (((f_take (pool_here_18, longest_3))).bind fun (x21, pool_here_23) => some (pool_here_23, some ((1 : Int) + x21)))) pool_here_6 x7)).bind fun (pool_here_28, x26) => (((f_take (pool_here_28, (3 : Int)))).bind fun (x35, pool_here_37) => ((atI ([(1 : Int), (3 : Int), (20 : Int)] : (List Int)) x35)).bind fun x38 => ((f_take (pool_here_37, x38))).bind fun (x40, pool_here_42) => some ((x26, ((1 : Int) + x40)), pool_here_42)))
abbrev A_aisle : ((List Int) × Int × Int) → List Ar := fun x => [.c (x.1.map V.int), .d (eI x.2.1), .d (eI x.2.2)]
abbrev B_aisle : (((List Int) × Int) × (List Int)) → PyData := fun y => (eT2 (eL eI) eI) y.1
abbrev C_aisle : (((List Int) × Int) × (List Int)) → List (List V) := fun y => [y.2.map V.int]
abbrev N_aisle : List Str := ["_law_pool_here", "_law_most_gaps", "_law_longest", "_law_gaps", "_law_k"]
abbrev sp_aisle (K : PySem.W.Frag) : Sp := spC K A_aisle B_aisle C_aisle f_aisle
def t_aisle (K : PySem.W.Frag) : TS := (tSeq (tAsg (tLc (iRng1 (tCons (tOp (rI0 fun i j => .int (i + j)) (tC (.int 1)) (tCall (sp_take K) [] E0 (tCons (tVar 0) (tCons (tVar 1) tNil)))) tNil)) (gName 4) tYes (tOp (rI0 fun i j => .int (i + j)) (tC (.int 1)) (tCall (sp_take K) [] E0 (tCons (tVar 0) (tCons (tVar 2) tNil)))) [4]) (gName 3)) (tRet (tTup (tCons (tVar 3) (tCons (tOp (rI0 fun i j => .int (i + j)) (tC (.int 1)) (tCall (sp_take K) [] E0 (tCons (tVar 0) (tCons (tOp (rIxL K) (tLst (tCons (tC (.int 1)) (tCons (tC (.int 3)) (tCons (tC (.int 20)) tNil)))) (tCall (sp_take K) [] E0 (tCons (tVar 0) (tCons (tC (.int 3)) tNil)))) tNil)))) tNil)))))
theorem w_aisle {K : PySem.W.Frag} (vs : List V) (H : Hp) (Q : VK) (E : XK) (h : sp_aisle K vs H Q E) : t_aisle K { nx := fun _ H' => Q .non H', rt := Q } (start N_aisle vs) H := by
  obtain ⟨F0, cc, cs, ⟨pool_here_1, most_gaps_2, longest_3⟩, y, h0, hS0, m, q⟩ := h
  obtain ⟨a0, _, _, rfl, rfl, h1⟩ := ArgR.hc h0
  obtain ⟨a1, _, rfl, ha1, h2⟩ := ArgR.hd h1
  obtain ⟨a2, _, rfl, ha2, h3⟩ := ArgR.hd h2
  obtain ⟨rfl, rfl⟩ := ArgR.no h3
  obtain rfl := Dt.toInt ha1
  obtain rfl := Dt.toInt ha2
  unfold f_aisle at m
  try dsimp only at m
  unfold t_aisle
  refine go (σ' := [some (.ref a0), some (.int most_gaps_2), some (.int longest_3), none, none]) rfl ?_
  obtain ⟨⟨x4, pool_here_6⟩, k5, m⟩ := bnd m; (try dsimp only at m)
  obtain ⟨x7, k8, m⟩ := bnd m
  obtain ⟨⟨pool_here_28, x26⟩, k27, m⟩ := bnd m; (try dsimp only at m)
  refine s_set (K := K) (d := (eL eI) x26) (i := 3) (σ' := fun v33 => [some (.ref a0), some (.int most_gaps_2), some (.int longest_3), some v33, none]) hS0 (EvC.dd (c_lcT (K := K) (f := (fun (pool_here_18 : (List Int)) k_9 => (((f_take (pool_here_18, longest_3))).bind fun (x21, pool_here_23) => some (pool_here_23, some ((1 : Int) + x21))))) (em := eI) (s0 := pool_here_6) (s1 := pool_here_28) (fun (z : (List Int)) => (a0, .lst (z.map V.int)) :: cs) (i_rng1 (a_cons (d_add d_int (d_callX (A := A_take) (B := B_take) (C := C_take) (x := (pool_here_1, most_gaps_2)) (y := (x4, pool_here_6)) (cs2 := ((a0, HO.lst (pool_here_6.map V.int)) :: cs)) (cc := [(a0, HO.lst (pool_here_1.map V.int))]) (cs' := (cs)) (r_c rfl (r_d (d_var rfl (.int _)) r_nil)) sb_rfl k5 sb_rfl)) a_nil) k8) k27 (fun k_9 pool_here_18 z24 o16 v17 F10 p11 us12 g13 hv14 ho15 => by obtain rfl := Dt.toInt hv14; obtain ⟨⟨x21, pool_here_23⟩, k22, ho15⟩ := bnd ho15; (try dsimp only at ho15); obtain ⟨rfl, rfl⟩ := pr2 (sm ho15); exact ⟨[some (.ref a0), some (.int most_gaps_2), some (.int longest_3), none, some (.int k_9)], pool_here_18, fun H20 Q hS19 hq => (fun Q hq => hq) Q hq, rfl, t_yes, (fun hy => by cases hy), fun y hy => by obtain rfl := sm hy; exact (d_add d_int (d_callX (A := A_take) (B := B_take) (C := C_take) (x := (pool_here_18, longest_3)) (y := (x21, pool_here_23)) (cs2 := ((p11, HO.lst us12) :: (a0, HO.lst (pool_here_23.map V.int)) :: cs)) (cc := [(a0, HO.lst (pool_here_18.map V.int))]) (cs' := ((p11, HO.lst us12) :: cs)) (r_c rfl (r_d (d_var rfl (.int _)) r_nil)) (sb_perm (List.perm_middle (l₁ := [(p11, HO.lst us12)]))) k22 (sb_perm (List.Perm.symm (List.perm_middle (l₁ := [(p11, HO.lst us12)]))))))⟩))) (fun _ => rfl) (fun v33 F29 H30 g31 hS32 hv34 => ?_)
  obtain ⟨⟨x35, pool_here_37⟩, k36, m⟩ := bnd m; (try dsimp only at m)
  obtain ⟨x38, k39, m⟩ := bnd m
  obtain ⟨⟨x40, pool_here_42⟩, k41, m⟩ := bnd m; (try dsimp only at m)
  refine s_ret (K := K) (d := (eT2 (eL eI) eI) (x26, ((1 : Int) + x40))) hS32 (d_tup (a_cons (d_var rfl hv34) (a_cons (d_add d_int (d_callX (A := A_take) (B := B_take) (C := C_take) (x := (pool_here_37, x38)) (y := (x40, pool_here_42)) (cs2 := ((a0, HO.lst (pool_here_42.map V.int)) :: cs)) (cc := [(a0, HO.lst (pool_here_37.map V.int))]) (cs' := (cs)) (r_c rfl (r_d (d_ix (e := eI) (d_lst (a_cons d_int (a_cons d_int (a_cons d_int a_nil))) (Nat.le_of_ble_eq_true rfl)) (d_callX (A := A_take) (B := B_take) (C := C_take) (x := (pool_here_28, (3 : Int))) (y := (x35, pool_here_37)) (cs2 := ((a0, HO.lst (pool_here_37.map V.int)) :: cs)) (cc := [(a0, HO.lst (pool_here_28.map V.int))]) (cs' := (cs)) (r_c rfl (r_d d_int r_nil)) sb_rfl k36 sb_rfl) k39) r_nil)) sb_rfl k41 sb_rfl)) a_nil)) (Nat.le_of_ble_eq_true rfl)) (fun v47 F43 H44 g45 hS46 hv48 => ?_)
  obtain rfl := sm m
  exact q _ _ _ (Gr.tr g31 g45) hS46 hv48
theorem sc_aisle : FnScope N_aisle ["_law_pool_here", "_law_most_gaps", "_law_longest"] (defScope s_aisle) := ⟨rfl, rfl, rfl, by decide +kernel, rfl, by decide +kernel, by decide +kernel⟩
theorem ok_aisle {P : Program} {w : World} {K : PySem.W.Frag} {mg : Str → Option Value} {base : Heap} (hF : Df K mg "_law_aisle" s_aisle) (m_range : mg "range" = none) (o_take : Ok P w K mg base 1 "_law_take" ["_law_pool_here", "_law_many"] (sp_take K)) : Ok P w K mg base 2 "_law_aisle" ["_law_pool_here", "_law_most_gaps", "_law_longest"] (sp_aisle K) := by
  obtain ⟨⟨_, G_take, bd_take, _⟩, kp_take, gm_take⟩ := o_take
  obtain ⟨⟨fd, F⟩, gm⟩ := hF
  refine ⟨⟨fd, F.ok sc_aisle (fun vs H Q E h => ?_) (fun cdv A outer s H vs Q E hr h => ⟨t_aisle K, PSs.nox ?_, w_aisle vs H Q E h⟩), F.bindsN fun _ _ _ _ _ _ us hl => match us, hl with | [_, _, _], _ => rfl, lk_of F⟩, F.kp, gm⟩
  · obtain ⟨F0, cc, cs, x, y, h, _⟩ := h; exact ArgR.len h
  · exact (pss_cons (ps_setLc (i := 3) (own := [("_law_k", 4)]) (g := (gName 4)) (tt := tYes) (te := (tOp (rI0 fun i j => .int (i + j)) (tC (.int 1)) (tCall (sp_take K) [] E0 (tCons (tVar 0) (tCons (tVar 2) tNil))))) (by rfl) sc_aisle.nd rfl rfl (sw_true rfl rfl rfl (by decide +kernel)) (pi_range1 (by rfl) m_range (pa_cons (pe_op op_add pe_int (pe_call G_take (hr.mono (by decide)) (by rfl) gm_take kp_take bd_take .nil pass0 (pa_cons (pv 0) (pa_cons (pv 1) pa_nil)))) pa_nil)) (blkOk_by (own := [("_law_k", 4)]) (N := N_aisle) (sc := defScope s_aisle) (by decide +kernel)) (fun _ _ _ _ _ => (pg_name (i := 4) sc_aisle.nd rfl (Or.inl rfl))) (fun _ _ _ _ _ => pts_nil) (fun _ _ _ _ _ => (pe_op op_add pe_int (pe_call G_take (hr.mono (by decide)) (by rfl) gm_take kp_take bd_take .nil pass0 (pa_cons (pv 0) (pa_cons (pv 2) pa_nil)))))) (pss_one (ps_ret (pe_tup (pa_cons (pv 3) (pa_cons (pe_op op_add pe_int (pe_call G_take (hr.mono (by decide)) (by rfl) gm_take kp_take bd_take .nil pass0 (pa_cons (pv 0) (pa_cons (pe_ix ix_list (pe_lst (pa_cons pe_int (pa_cons pe_int (pa_cons pe_int pa_nil)))) (pe_call G_take (hr.mono (by decide)) (by rfl) gm_take kp_take bd_take .nil pass0 (pa_cons (pv 0) (pa_cons pe_int pa_nil))) (fun _ _ => rfl)) pa_nil)))) pa_nil))))))
abbrev s_name : Stmt := (top 30)
def f_name : (Int × Int) → Option Str := fun (k_1, salt_2) => (letM ("abcdefghijklmnopqrstuvwxyz" : Str) fun letters_7 => (letM ((((37 : Int) * k_1) + salt_2) % (61 : Int)) fun at_13 => (((ixS letters_7 (at_13 % (26 : Int)))).bind fun x15 => ((atI ([("" : Str), ("a" : Str), ("zz" : Str)] : (List Str)) (at_13 / (26 : Int)))).bind fun x17 => ((scatM x15 x17)).bind fun x19 => (((ixS letters_7 (salt_2 % (26 : Int)))).bind fun x25 => ((srepM x25 ((salt_2 / (26 : Int)) % (6 : Int)))).bind fun x27 => (if (decide ((salt_2 % (2 : Int)) = (0 : Int))) = true then (((scatM x27 x19)).bind fun x37 => some x37) else (((scatM x19 x27)).bind fun x49 => some x49))))))
abbrev A_name : (Int × Int) → List PyData := fun x => [eI x.1, eI x.2]
abbrev N_name : List Str := ["_law_k", "_law_salt", "_law_letters", "_law_at", "_law_tell", "_law_more"]
abbrev sp_name (K : PySem.W.Frag) : Sp := spP K A_name eS f_name
def t_name (K : PySem.W.Frag) : TS := (tSeq (tAsg (tC (.str "abcdefghijklmnopqrstuvwxyz")) (gName 2)) (tSeq (tAsg (tOp (rI (fun _ j => 0 < j) fun i j => .int (i % j)) (tOp (rI0 fun i j => .int (i + j)) (tOp (rI CMul fun i j => .int (i * j)) (tC (.int 37)) (tVar 0)) (tVar 1)) (tC (.int 61))) (gName 3)) (tSeq (tAsg (tOp rScat (tOp rIxS (tVar 2) (tOp (rI (fun _ j => 0 < j) fun i j => .int (i % j)) (tVar 3) (tC (.int 26)))) (tOp (rIxL K) (tLst (tCons (tC (.str "")) (tCons (tC (.str "a")) (tCons (tC (.str "zz")) tNil)))) (tOp (rI CDiv fun i j => .int (i / j)) (tVar 3) (tC (.int 26))))) (gName 4)) (tSeq (tAsg (tOp rSrep (tOp rIxS (tVar 2) (tOp (rI (fun _ j => 0 < j) fun i j => .int (i % j)) (tVar 1) (tC (.int 26)))) (tOp (rI (fun _ j => 0 < j) fun i j => .int (i % j)) (tOp (rI CDiv fun i j => .int (i / j)) (tVar 1) (tC (.int 26))) (tC (.int 6)))) (gName 5)) (tSeq (tIfS (tTest (tOp rEq (tOp (rI (fun _ j => 0 < j) fun i j => .int (i % j)) (tVar 1) (tC (.int 2))) (tC (.int 0)))) (tRet (tOp rScat (tVar 5) (tVar 4))) tNext) (tRet (tOp rScat (tVar 4) (tVar 5))))))))
theorem w_name {K : PySem.W.Frag} (vs : List V) (H : Hp) (Q : VK) (E : XK) (h : sp_name K vs H Q E) : t_name K { nx := fun _ H' => Q .non H', rt := Q } (start N_name vs) H := by
  obtain ⟨F0, cs, ⟨k_1, salt_2⟩, y, h, hS0, m, q⟩ := h
  obtain ⟨a0, _, rfl, ha0, h⟩ := Dts.hd h
  obtain ⟨a1, _, rfl, ha1, h⟩ := Dts.hd h
  obtain rfl := Dts.no h
  obtain rfl := Dt.toInt ha0
  obtain rfl := Dt.toInt ha1
  unfold f_name at m
  try dsimp only at m
  unfold t_name
  refine go (σ' := [some (.int k_1), some (.int salt_2), none, none, none, none]) rfl ?_
  obtain ⟨letters_7, k8, m⟩ := lt m
  refine s_setV (K := K) (d := eS letters_7) (i := 2) (σ' := [some (.int k_1), some (.int salt_2), some (.str letters_7), none, none, none]) (fun _ _ h => Dt.toStr h) hS0 (d_is d_str (congrArg eS k8)) rfl (fun F3 H4 g5 hS6 => ?_)
  obtain ⟨at_13, k14, m⟩ := lt m
  refine s_setV (K := K) (d := eI at_13) (i := 3) (σ' := [some (.int k_1), some (.int salt_2), some (.str letters_7), some (.int at_13), none, none]) (fun _ _ h => Dt.toInt h) hS6 (d_is (d_modC (d_add (d_mulC d_int (d_var rfl (.int _)) (.inl ⟨by decide, by decide⟩)) (d_var rfl (.int _))) d_int (by decide)) (congrArg eI k14)) rfl (fun F9 H10 g11 hS12 => ?_)
  obtain ⟨x15, k16, m⟩ := bnd m
  obtain ⟨x17, k18, m⟩ := bnd m
  obtain ⟨x19, k20, m⟩ := bnd m
  refine s_setV (K := K) (d := eS x19) (i := 4) (σ' := [some (.int k_1), some (.int salt_2), some (.str letters_7), some (.int at_13), some (.str x19), none]) (fun _ _ h => Dt.toStr h) hS12 (d_scat (d_ixS (d_var rfl (.str _)) (d_modC (d_var rfl (.int _)) d_int (by decide)) k16) (d_ix (e := eS) (d_lst (a_cons d_str (a_cons d_str (a_cons d_str a_nil))) (Nat.le_of_ble_eq_true rfl)) (d_fdivC (d_var rfl (.int _)) d_int ⟨by decide, by decide⟩) k18) k20) rfl (fun F21 H22 g23 hS24 => ?_)
  obtain ⟨x25, k26, m⟩ := bnd m
  obtain ⟨x27, k28, m⟩ := bnd m
  refine s_setV (K := K) (d := eS x27) (i := 5) (σ' := [some (.int k_1), some (.int salt_2), some (.str letters_7), some (.int at_13), some (.str x19), some (.str x27)]) (fun _ _ h => Dt.toStr h) hS24 (d_srep (d_ixS (d_var rfl (.str _)) (d_modC (d_var rfl (.int _)) d_int (by decide)) k26) (d_modC (d_fdivC (d_var rfl (.int _)) d_int ⟨by decide, by decide⟩) d_int (by decide)) k28) rfl (fun F29 H30 g31 hS32 => ?_)
  refine s_if (b := (decide ((salt_2 % (2 : Int)) = (0 : Int)))) hS32 (t_test (K := K) (d_eqI (d_modC (d_var rfl (.int _)) d_int (by decide)) d_int)) (fun hc F33 H34 g35 hS36 => ?_) (fun hc F45 H46 g47 hS48 => ?_)
  · rw [if_pos hc] at m
    obtain ⟨x37, k38, m⟩ := bnd m
    refine s_ret (K := K) (d := eS x37) hS36 (d_scat (d_var rfl (.str _)) (d_var rfl (.str _)) k38) (fun v43 F39 H40 g41 hS42 hv44 => ?_)
    obtain rfl := sm m
    exact q _ _ _ (Gr.tr g5 (Gr.tr g11 (Gr.tr g23 (Gr.tr g31 (Gr.tr g35 g41))))) hS42 hv44
  · rw [if_neg (bf hc)] at m
    refine nxt ?_
    obtain ⟨x49, k50, m⟩ := bnd m
    refine s_ret (K := K) (d := eS x49) hS48 (d_scat (d_var rfl (.str _)) (d_var rfl (.str _)) k50) (fun v55 F51 H52 g53 hS54 hv56 => ?_)
    obtain rfl := sm m
    exact q _ _ _ (Gr.tr g5 (Gr.tr g11 (Gr.tr g23 (Gr.tr g31 (Gr.tr g47 g53))))) hS54 hv56
theorem sc_name : FnScope N_name ["_law_k", "_law_salt"] (defScope s_name) := ⟨rfl, rfl, rfl, by decide +kernel, rfl, by decide +kernel, by decide +kernel⟩
theorem ok_name {P : Program} {w : World} {K : PySem.W.Frag} {mg : Str → Option Value} {base : Heap} (hF : Df K mg "_law_name" s_name) : Ok P w K mg base 1 "_law_name" ["_law_k", "_law_salt"] (sp_name K) := by
  obtain ⟨⟨fd, F⟩, gm⟩ := hF
  refine ⟨⟨fd, F.ok sc_name (fun vs H Q E h => ?_) (fun cdv A outer s H vs Q E hr h => ⟨t_name K, PSs.nox ?_, w_name vs H Q E h⟩), F.bindsN fun _ _ _ _ _ _ us hl => match us, hl with | [_, _], _ => rfl, lk_of F⟩, F.kp, gm⟩
  · obtain ⟨F0, cs, x, y, h, _⟩ := h; exact Dts.len h
  · exact (pss_cons (ps_set (i := 2) sc_name.nd rfl (Or.inl rfl) pe_str) (pss_cons (ps_set (i := 3) sc_name.nd rfl (Or.inl rfl) (pe_op op_mod (pe_op op_add (pe_op op_mul pe_int (pv 0)) (pv 1)) pe_int)) (pss_cons (ps_set (i := 4) sc_name.nd rfl (Or.inl rfl) (pe_op op_scatR (pe_ix ix_str (pv 2) (pe_op op_mod (pv 3) pe_int) (fun _ _ => rfl)) (pe_ix ix_list (pe_lst (pa_cons pe_str (pa_cons pe_str (pa_cons pe_str pa_nil)))) (pe_op op_fdiv (pv 3) pe_int) (fun _ _ => rfl)))) (pss_cons (ps_set (i := 5) sc_name.nd rfl (Or.inl rfl) (pe_op op_srep (pe_ix ix_str (pv 2) (pe_op op_mod (pv 1) pe_int) (fun _ _ => rfl)) (pe_op op_mod (pe_op op_fdiv (pv 1) pe_int) pe_int))) (pss_cons (ps_if (pt_cmpR op_eq (pe_op op_mod (pv 1) pe_int) pe_int (nomark _)) (pss_one (ps_ret (pe_op op_scatR (pv 5) (pv 4)))) pss_nil) (pss_one (ps_ret (pe_op op_scatR (pv 4) (pv 5)))))))))
abbrev s_orders : Stmt := (top 31)
def f_orders_b22 (script_1 : (List Int)) (last_2 : Int) (salt_3 : Int) (style_4 : Int) (hops_5 : (List Int)) : (Int × (List (Str × Int × Int × Int))) → Int → Option (Int × (List (Str × Int × Int × Int))) := fun (tick_25, orders_here_26) k_27 => (((f_pool (script_1, k_27))).bind fun x50 => (((f_take (x50, (hops_5.length : Int)))).bind fun (x59, pool_here_61) => ((atI hops_5 x59)).bind fun x62 => ((f_take (pool_here_61, x62))).bind fun (x64, pool_here_66) => letM (tick_25 + x64) fun tick_71 => (((f_take (pool_here_66, (last_2 + (1 : Int))))).bind fun (x73, pool_here_75) => ((atI ([x73, (last_2 / (2 : Int)), (0 : Int), last_2] : (List Int)) style_4)).bind fun x76 => (((f_name ((k_27 - (1 : Int)), salt_3))).bind fun x82 => ((f_take (pool_here_75, last_2))).bind fun (x84, pool_here_86) => ((modM ((x76 + (1 : Int)) + x84) (last_2 + (1 : Int)))).bind fun x87 => ((appM orders_here_26 (x82, tick_71, x76, x87))).bind fun orders_here_89 => some (tick_71, orders_here_89)))))
def f_orders : ((List Int) × Int × Int × Int × (List Int) × Int) → Option ((List (Str × Int × Int × Int))) := fun (script_1, last_2, salt_3, style_4, hops_5, fewest_6) => (letM ([] : (List (Str × Int × Int × Int))) fun orders_here_11 => (((rngM (1 : Int) (maxI fewest_6 (minI (script_1.length : Int) (61 : Int))))).bind fun x20 => (x20.foldlM (f_orders_b22 script_1 last_2 salt_3 style_4 hops_5) ((0 : Int), orders_here_11)).bind fun (tick_104, orders_here_105) => some orders_here_105))
abbrev A_orders : ((List Int) × Int × Int × Int × (List Int) × Int) → List Ar := fun x => [.d ((eL eI) x.1), .d (eI x.2.1), .d (eI x.2.2.1), .d (eI x.2.2.2.1), .d ((eL eI) x.2.2.2.2.1), .d (eI x.2.2.2.2.2)]
abbrev B_orders : ((List (Str × Int × Int × Int))) → List PyData := fun y => y.map (eT4 eS eI eI eI)
abbrev C_orders : ((List (Str × Int × Int × Int))) → List (List V) := fun y => []
abbrev N_orders : List Str := ["_law_script", "_law_last", "_law_salt", "_law_style", "_law_hops", "_law_fewest", "_law_orders_here", "_law_tick", "_law_k", "_law_pool_here", "_law_at"]
abbrev sp_orders (K : PySem.W.Frag) : Sp := spF K A_orders B_orders C_orders f_orders
def t_orders (K : PySem.W.Frag) : TS := (tSeq (tAsg (tLst tNil) (gName 6)) (tSeq (tAsg (tC (.int 0)) (gName 7)) (tSeq (tFor (iRng2 (tCons (tC (.int 1)) (tCons (tCB rMax2 (tCons (tVar 5) (tCons (tCB rMin2 (tCons (tCB (rLenL K) (tCons (tVar 0) tNil)) (tCons (tC (.int 61)) tNil))) tNil))) tNil))) (gName 8) (tSeq (tAsg (tCall (sp_pool K) [] E0 (tCons (tVar 0) (tCons (tVar 8) tNil))) (gName 9)) (tSeq (tAsg (tOp (rI0 fun i j => .int (i + j)) (tVar 7) (tCall (sp_take K) [] E0 (tCons (tVar 9) (tCons (tOp (rIxL K) (tVar 4) (tCall (sp_take K) [] E0 (tCons (tVar 9) (tCons (tCB (rLenL K) (tCons (tVar 4) tNil)) tNil)))) tNil)))) (gName 7)) (tSeq (tAsg (tOp (rIxL K) (tLst (tCons (tCall (sp_take K) [] E0 (tCons (tVar 9) (tCons (tOp (rI0 fun i j => .int (i + j)) (tVar 1) (tC (.int 1))) tNil))) (tCons (tOp (rI CDiv fun i j => .int (i / j)) (tVar 1) (tC (.int 2))) (tCons (tC (.int 0)) (tCons (tVar 1) tNil))))) (tVar 3)) (gName 10)) (tDrop (tBM K "list" rAppend (tVar 6) (tCons (tTup (tCons (tCall (sp_name K) [] E0 (tCons (tOp (rI0 fun i j => .int (i - j)) (tVar 8) (tC (.int 1))) (tCons (tVar 2) tNil))) (tCons (tVar 7) (tCons (tVar 10) (tCons (tOp (rI (fun _ j => 0 < j) fun i j => .int (i % j)) (tOp (rI0 fun i j => .int (i + j)) (tOp (rI0 fun i j => .int (i + j)) (tVar 10) (tC (.int 1))) (tCall (sp_take K) [] E0 (tCons (tVar 9) (tCons (tVar 1) tNil)))) (tOp (rI0 fun i j => .int (i + j)) (tVar 1) (tC (.int 1)))) tNil))))) tNil))))))) (tRet (tVar 6)))))
theorem w_orders {K : PySem.W.Frag} (vs : List V) (H : Hp) (Q : VK) (E : XK) (h : sp_orders K vs H Q E) : t_orders K { nx := fun _ H' => Q .non H', rt := Q } (start N_orders vs) H := by
  obtain ⟨F0, cc, cs, ⟨script_1, last_2, salt_3, style_4, hops_5, fewest_6⟩, y, h0, hS0, m, q⟩ := h
  obtain ⟨a0, _, rfl, ha0, h1⟩ := ArgR.hd h0
  obtain ⟨a1, _, rfl, ha1, h2⟩ := ArgR.hd h1
  obtain ⟨a2, _, rfl, ha2, h3⟩ := ArgR.hd h2
  obtain ⟨a3, _, rfl, ha3, h4⟩ := ArgR.hd h3
  obtain ⟨a4, _, rfl, ha4, h5⟩ := ArgR.hd h4
  obtain ⟨a5, _, rfl, ha5, h6⟩ := ArgR.hd h5
  obtain ⟨rfl, rfl⟩ := ArgR.no h6
  obtain rfl := Dt.toInt ha1
  obtain rfl := Dt.toInt ha2
  obtain rfl := Dt.toInt ha3
  obtain rfl := Dt.toInt ha5
  unfold f_orders at m
  try dsimp only at m
  unfold t_orders
  refine go (σ' := [some a0, some (.int last_2), some (.int salt_3), some (.int style_4), some a4, some (.int fewest_6), none, none, none, none, none]) rfl ?_
  obtain ⟨orders_here_11, k12, m⟩ := lt m
  refine s_setC (K := K) (ds := orders_here_11.map (eT4 eS eI eI eI)) (i := 6) (σ' := fun p13 => [some a0, some (.int last_2), some (.int salt_3), some (.int style_4), some a4, some (.int fewest_6), some (.ref p13), none, none, none, none]) hS0 (c_is (c_lst a_nil (Nat.le_of_ble_eq_true rfl)) (congrArg (List.map (eT4 eS eI eI eI)) k12)) (fun _ => rfl) (fun p13 us14 F7 H8 g9 hS10 hu15 => ?_)
  refine s_setV (K := K) (d := eI (0 : Int)) (i := 7) (σ' := [some a0, some (.int last_2), some (.int salt_3), some (.int style_4), some a4, some (.int fewest_6), some (.ref p13), some (.int (0 : Int)), none, none, none]) (fun _ _ h => Dt.toInt h) hS10 d_int rfl (fun F16 H17 g18 hS19 => ?_)
  obtain ⟨x20, k21, m⟩ := bnd m
  obtain ⟨⟨tick_104, orders_here_105⟩, k24, m⟩ := bnd m
  try dsimp only at m
  refine s_for (K := K) (xs := x20) (en := eI) (body := (f_orders_b22 script_1 last_2 salt_3 style_4 hops_5)) (s0 := ((0 : Int), orders_here_11)) (r := (tick_104, orders_here_105)) (fun (a : Int × (List (Str × Int × Int × Int))) F σ c => ∃ (j8 : Option V) (j9 : Option V) (j10 : Option V) (z6 : List V), σ = [some a0, some (.int last_2), some (.int salt_3), some (.int style_4), some a4, some (.int fewest_6), some (.ref p13), some (.int a.1), j8, j9, j10] ∧ (p13, .lst z6) :: cs = c ∧ Dts K F z6 (a.2.map (eT4 eS eI eI eI))) hS19 (i_rng2 (a_cons d_int (a_cons (d_max2 (a_cons (d_var rfl (.int _)) (a_cons (d_min2 (a_cons (d_len (e := eI) (a_cons (d_var rfl (Dt.gr (Gr.tr g9 g18) ha0)) a_nil)) (a_cons d_int a_nil))) a_nil))) a_nil)) k21) (fun _ _ => ⟨_, _, _, _, rfl, rfl, (Dts.gr ‹_› (Dts.gr g18 hu15))⟩) k24 ?_ ?_
  · rintro k_27 ⟨tick_25, orders_here_26⟩ b36 F28 F29 σ42 c43 H30 v35 N37 g31 ⟨u45, u46, u47, us48, rfl, rfl, h49⟩ g32 hS33 hv34 m44 hN39
    obtain rfl := Dt.toInt hv34
    refine tg (σ' := [some a0, some (.int last_2), some (.int salt_3), some (.int style_4), some a4, some (.int fewest_6), some (.ref p13), some (.int tick_25), some (.int k_27), u46, u47]) (fun Q hq => hq) ?_
    unfold f_orders_b22 at m44
    try dsimp only at m44
    obtain ⟨x50, k51, m44⟩ := bnd m44
    refine s_setC (K := K) (ds := x50.map eI) (i := 9) (σ' := fun p56 => [some a0, some (.int last_2), some (.int salt_3), some (.int style_4), some a4, some (.int fewest_6), some (.ref p13), some (.int tick_25), some (.int k_27), some (.ref p56), u47]) hS33 (c_callX (A := A_pool) (B := B_pool) (C := C_pool) (x := (script_1, k_27)) (y := x50) (cs2 := ((p13, HO.lst us48) :: cs)) (cc := []) (cs' := ((p13, HO.lst us48) :: cs)) (r_d (d_var rfl (Dt.gr (Gr.tr g9 (Gr.tr g18 (Gr.tr g31 g32))) ha0)) (r_d (d_var rfl (.int _)) r_nil)) sb_rfl k51 (fun _ => sb_rfl)) (fun _ => rfl) (fun p56 us57 F52 H53 g54 hS55 hu58 => ?_)
    obtain rfl := Dts.ints hu58
    obtain ⟨⟨x59, pool_here_61⟩, k60, m44⟩ := bnd m44; (try dsimp only at m44)
    obtain ⟨x62, k63, m44⟩ := bnd m44
    obtain ⟨⟨x64, pool_here_66⟩, k65, m44⟩ := bnd m44; (try dsimp only at m44)
    obtain ⟨tick_71, k72, m44⟩ := lt m44
    refine s_setV (K := K) (d := eI tick_71) (i := 7) (σ' := [some a0, some (.int last_2), some (.int salt_3), some (.int style_4), some a4, some (.int fewest_6), some (.ref p13), some (.int tick_71), some (.int k_27), some (.ref p56), u47]) (fun _ _ h => Dt.toInt h) hS55 (d_is (d_add (d_var rfl (.int _)) (d_callX (A := A_take) (B := B_take) (C := C_take) (x := (pool_here_61, x62)) (y := (x64, pool_here_66)) (cs2 := ((p56, HO.lst (pool_here_66.map V.int)) :: (p13, HO.lst us48) :: cs)) (cc := [(p56, HO.lst (pool_here_61.map V.int))]) (cs' := ((p13, HO.lst us48) :: cs)) (r_c rfl (r_d (d_ix (e := eI) (d_var rfl (Dt.gr (Gr.tr g9 (Gr.tr g18 (Gr.tr g31 (Gr.tr g32 g54)))) ha4)) (d_callX (A := A_take) (B := B_take) (C := C_take) (x := (x50, (hops_5.length : Int))) (y := (x59, pool_here_61)) (cs2 := ((p56, HO.lst (pool_here_61.map V.int)) :: (p13, HO.lst us48) :: cs)) (cc := [(p56, HO.lst (x50.map V.int))]) (cs' := ((p13, HO.lst us48) :: cs)) (r_c rfl (r_d (d_len (e := eI) (a_cons (d_var rfl (Dt.gr (Gr.tr g9 (Gr.tr g18 (Gr.tr g31 (Gr.tr g32 g54)))) ha4)) a_nil)) r_nil)) sb_rfl k60 sb_rfl) k63) r_nil)) sb_rfl k65 sb_rfl)) (congrArg eI k72)) rfl (fun F67 H68 g69 hS70 => ?_)
    obtain ⟨⟨x73, pool_here_75⟩, k74, m44⟩ := bnd m44; (try dsimp only at m44)
    obtain ⟨x76, k77, m44⟩ := bnd m44
    refine s_setV (K := K) (d := eI x76) (i := 10) (σ' := [some a0, some (.int last_2), some (.int salt_3), some (.int style_4), some a4, some (.int fewest_6), some (.ref p13), some (.int tick_71), some (.int k_27), some (.ref p56), some (.int x76)]) (fun _ _ h => Dt.toInt h) hS70 (d_ix (e := eI) (d_lst (a_cons (d_callX (A := A_take) (B := B_take) (C := C_take) (x := (pool_here_66, (last_2 + (1 : Int)))) (y := (x73, pool_here_75)) (cs2 := ((p56, HO.lst (pool_here_75.map V.int)) :: (p13, HO.lst us48) :: cs)) (cc := [(p56, HO.lst (pool_here_66.map V.int))]) (cs' := ((p13, HO.lst us48) :: cs)) (r_c rfl (r_d (d_add (d_var rfl (.int _)) d_int) r_nil)) sb_rfl k74 sb_rfl) (a_cons (d_fdivC (d_var rfl (.int _)) d_int ⟨by decide, by decide⟩) (a_cons d_int (a_cons (d_var rfl (.int _)) a_nil)))) (Nat.le_of_ble_eq_true rfl)) (d_var rfl (.int _)) k77) rfl (fun F78 H79 g80 hS81 => ?_)
    obtain ⟨x82, k83, m44⟩ := bnd m44
    obtain ⟨⟨x84, pool_here_86⟩, k85, m44⟩ := bnd m44; (try dsimp only at m44)
    obtain ⟨x87, k88, m44⟩ := bnd m44
    obtain ⟨orders_here_89, k90, m44⟩ := bnd m44
    refine s_appGV (K := K) (k1 := [(p56, .lst (pool_here_75.map V.int))]) (x := (x82, tick_71, x76, x87)) (l1 := [(p56, .lst (pool_here_86.map V.int))]) (p := p13) (en := (eT4 eS eI eI eI)) hS81 (Dts.gr (Gr.tr g32 (Gr.tr g54 (Gr.tr g69 g80))) h49) (vp_var rfl) (d_tup (a_cons (d_call (A := A_name) (B := eS) (x := ((k_27 - (1 : Int)), salt_3)) (a_cons (d_sub (d_var rfl (.int _)) d_int) (a_cons (d_var rfl (.int _)) a_nil)) k83) (a_cons (d_var rfl (.int _)) (a_cons (d_var rfl (.int _)) (a_cons (d_mod (d_add (d_add (d_var rfl (.int _)) d_int) (d_callX (A := A_take) (B := B_take) (C := C_take) (x := (pool_here_75, last_2)) (y := (x84, pool_here_86)) (cs2 := ((p56, HO.lst (pool_here_86.map V.int)) :: (p13, HO.lst us48) :: cs)) (cc := [(p56, HO.lst (pool_here_75.map V.int))]) (cs' := ((p13, HO.lst us48) :: cs)) (r_c rfl (r_d (d_var rfl (.int _)) r_nil)) sb_rfl k85 sb_rfl)) (d_add (d_var rfl (.int _)) d_int) k88) a_nil)))) (Nat.le_of_ble_eq_true rfl)) k90 (fun us95 F91 H92 g93 hS94 hu96 => ?_)
    have hS97 := Sta.frozeAt (l1 := []) hS94
    obtain rfl := sm m44
    exact hN39 _ _ _ _ (Gr.tr g54 (Gr.tr g69 (Gr.tr g80 (Gr.tr g93 (Gr.new (Sta.freeAt (l1 := []) hS94)))))) hS97 ⟨_, _, _, _, rfl, rfl, (Dts.gr (Gr.new (Sta.freeAt (l1 := []) hS94)) hu96)⟩
  · rintro F98 σ103 c102 H99 g100 hS101 ⟨u106, u107, u108, us109, rfl, rfl, h110⟩
    refine s_retV rfl ?_
    obtain rfl := sm m
    exact q _ _ _ _ (Gr.tr g9 (Gr.tr g18 g100)) hS101 h110
theorem sc_orders : FnScope N_orders ["_law_script", "_law_last", "_law_salt", "_law_style", "_law_hops", "_law_fewest"] (defScope s_orders) := ⟨rfl, rfl, rfl, by decide +kernel, rfl, by decide +kernel, by decide +kernel⟩
theorem ok_orders {P : Program} {w : World} {K : PySem.W.Frag} {mg : Str → Option Value} {base : Heap} (hF : Df K mg "_law_orders" s_orders) (m_len : mg "len" = none) (m_max : mg "max" = none) (m_min : mg "min" = none) (m_range : mg "range" = none) (o_take : Ok P w K mg base 1 "_law_take" ["_law_pool_here", "_law_many"] (sp_take K)) (o_name : Ok P w K mg base 1 "_law_name" ["_law_k", "_law_salt"] (sp_name K)) (o_pool : Ok P w K mg base 1 "_law_pool" ["_law_script", "_law_k"] (sp_pool K)) : Ok P w K mg base 2 "_law_orders" ["_law_script", "_law_last", "_law_salt", "_law_style", "_law_hops", "_law_fewest"] (sp_orders K) := by
  obtain ⟨⟨_, G_take, bd_take, _⟩, kp_take, gm_take⟩ := o_take
  obtain ⟨⟨_, G_name, bd_name, _⟩, kp_name, gm_name⟩ := o_name
  obtain ⟨⟨_, G_pool, bd_pool, _⟩, kp_pool, gm_pool⟩ := o_pool
  obtain ⟨⟨fd, F⟩, gm⟩ := hF
  refine ⟨⟨fd, F.ok sc_orders (fun vs H Q E h => ?_) (fun cdv A outer s H vs Q E hr h => ⟨t_orders K, PSs.nox ?_, w_orders vs H Q E h⟩), F.bindsN fun _ _ _ _ _ _ us hl => match us, hl with | [_, _, _, _, _, _], _ => rfl, lk_of F⟩, F.kp, gm⟩
  · obtain ⟨F0, cc, cs, x, y, h, _⟩ := h; exact ArgR.len h
  · exact (pss_cons (ps_set (i := 6) sc_orders.nd rfl (Or.inl rfl) (pe_lst pa_nil)) (pss_cons (ps_set (i := 7) sc_orders.nd rfl (Or.inl rfl) pe_int) (pss_cons (ps_for PassesOwn.never rfl (pi_range2 (by rfl) m_range (pa_cons pe_int (pa_cons (pe_callB (cr_max2 rfl) (by rfl) m_max (by decide +kernel) (pa_cons (pv 5) (pa_cons (pe_callB (cr_min2 rfl) (by rfl) m_min (by decide +kernel) (pa_cons (pe_callB cr_lenL (by rfl) m_len PySem.boot_len (pa_cons (pv 0) pa_nil)) (pa_cons pe_int pa_nil))) pa_nil))) pa_nil))) (pg_name (i := 8) sc_orders.nd rfl (Or.inl rfl)) (pss_cons (ps_set (i := 9) sc_orders.nd rfl (Or.inl rfl) (pe_call G_pool (hr.mono (by decide)) (by rfl) gm_pool kp_pool bd_pool .nil pass0 (pa_cons (pv 0) (pa_cons (pv 8) pa_nil)))) (pss_cons (ps_set (i := 7) sc_orders.nd rfl (Or.inl rfl) (pe_op op_add (pv 7) (pe_call G_take (hr.mono (by decide)) (by rfl) gm_take kp_take bd_take .nil pass0 (pa_cons (pv 9) (pa_cons (pe_ix ix_list (pv 4) (pe_call G_take (hr.mono (by decide)) (by rfl) gm_take kp_take bd_take .nil pass0 (pa_cons (pv 9) (pa_cons (pe_callB cr_lenL (by rfl) m_len PySem.boot_len (pa_cons (pv 4) pa_nil)) pa_nil))) (fun _ _ => rfl)) pa_nil))))) (pss_cons (ps_set (i := 10) sc_orders.nd rfl (Or.inl rfl) (pe_ix ix_list (pe_lst (pa_cons (pe_call G_take (hr.mono (by decide)) (by rfl) gm_take kp_take bd_take .nil pass0 (pa_cons (pv 9) (pa_cons (pe_op op_add (pv 1) pe_int) pa_nil))) (pa_cons (pe_op op_fdiv (pv 1) pe_int) (pa_cons pe_int (pa_cons (pv 1) pa_nil))))) (pv 3) (fun _ _ => rfl))) (pss_one (ps_expr (pe_bm PySem.F.plainAttrs_list PySem.F.slot_list_append PySem.F.type_list_append mt_append (pv 6) (pa_cons (pe_tup (pa_cons (pe_call G_name (hr.mono (by decide)) (by rfl) gm_name kp_name bd_name .nil pass0 (pa_cons (pe_op op_sub (pv 8) pe_int) (pa_cons (pv 2) pa_nil))) (pa_cons (pv 7) (pa_cons (pv 10) (pa_cons (pe_op op_mod (pe_op op_add (pe_op op_add (pv 10) pe_int) (pe_call G_take (hr.mono (by decide)) (by rfl) gm_take kp_take bd_take .nil pass0 (pa_cons (pv 9) (pa_cons (pv 1) pa_nil)))) (pe_op op_add (pv 1) pe_int)) pa_nil))))) pa_nil)))))))) (pss_one (ps_ret (pv 6))))))
abbrev s_later : Stmt := (top 32)
def f_later_b14 (last_2 : Int) (shift_3 : Int) (turned_4 : Bool) : ((List (Str × Int × Int × Int))) → (Str × Int × Int × Int) → Option ((List (Str × Int × Int × Int))) := fun found_17 (name_here_18, tick_19, at_20, to_21) => (if turned_4 = true then (((appM found_17 (name_here_18, (tick_19 + shift_3), (last_2 - at_20), (last_2 - to_21)))).bind fun found_59 => some found_59) else (((appM found_17 (name_here_18, (tick_19 + shift_3), at_20, to_21))).bind fun found_71 => some found_71))
def f_later : ((List (Str × Int × Int × Int)) × Int × Int × Bool) → Option ((List (Str × Int × Int × Int))) := fun (orders_here_1, last_2, shift_3, turned_4) => (letM ([] : (List (Str × Int × Int × Int))) fun found_9 => (orders_here_1.foldlM (f_later_b14 last_2 shift_3 turned_4) found_9).bind fun found_85 => some found_85)
abbrev A_later : ((List (Str × Int × Int × Int)) × Int × Int × Bool) → List Ar := fun x => [.d ((eL (eT4 eS eI eI eI)) x.1), .d (eI x.2.1), .d (eI x.2.2.1), .d (eB x.2.2.2)]
abbrev B_later : ((List (Str × Int × Int × Int))) → List PyData := fun y => y.map (eT4 eS eI eI eI)
abbrev C_later : ((List (Str × Int × Int × Int))) → List (List V) := fun y => []
abbrev N_later : List Str := ["_law_orders_here", "_law_last", "_law_shift", "_law_turned", "_law_found", "_law_name_here", "_law_tick", "_law_at", "_law_to"]
abbrev sp_later (K : PySem.W.Frag) : Sp := spF K A_later B_later C_later f_later
def t_later (K : PySem.W.Frag) : TS := (tSeq (tAsg (tLst tNil) (gName 4)) (tSeq (tFor (iList K (tVar 0)) (gTup K 4 (gCons (gName 5) (gCons (gName 6) (gCons (gName 7) (gCons (gName 8) gNil))))) (tIfS (tB (tVar 3)) (tDrop (tBM K "list" rAppend (tVar 4) (tCons (tTup (tCons (tVar 5) (tCons (tOp (rI0 fun i j => .int (i + j)) (tVar 6) (tVar 2)) (tCons (tOp (rI0 fun i j => .int (i - j)) (tVar 1) (tVar 7)) (tCons (tOp (rI0 fun i j => .int (i - j)) (tVar 1) (tVar 8)) tNil))))) tNil))) (tDrop (tBM K "list" rAppend (tVar 4) (tCons (tTup (tCons (tVar 5) (tCons (tOp (rI0 fun i j => .int (i + j)) (tVar 6) (tVar 2)) (tCons (tVar 7) (tCons (tVar 8) tNil))))) tNil))))) (tRet (tVar 4))))
theorem w_later {K : PySem.W.Frag} (vs : List V) (H : Hp) (Q : VK) (E : XK) (h : sp_later K vs H Q E) : t_later K { nx := fun _ H' => Q .non H', rt := Q } (start N_later vs) H := by
  obtain ⟨F0, cc, cs, ⟨orders_here_1, last_2, shift_3, turned_4⟩, y, h0, hS0, m, q⟩ := h
  obtain ⟨a0, _, rfl, ha0, h1⟩ := ArgR.hd h0
  obtain ⟨a1, _, rfl, ha1, h2⟩ := ArgR.hd h1
  obtain ⟨a2, _, rfl, ha2, h3⟩ := ArgR.hd h2
  obtain ⟨a3, _, rfl, ha3, h4⟩ := ArgR.hd h3
  obtain ⟨rfl, rfl⟩ := ArgR.no h4
  obtain rfl := Dt.toInt ha1
  obtain rfl := Dt.toInt ha2
  obtain rfl := Dt.toBl ha3
  unfold f_later at m
  try dsimp only at m
  unfold t_later
  refine go (σ' := [some a0, some (.int last_2), some (.int shift_3), some (.bl turned_4), none, none, none, none, none]) rfl ?_
  obtain ⟨found_9, k10, m⟩ := lt m
  refine s_setC (K := K) (ds := found_9.map (eT4 eS eI eI eI)) (i := 4) (σ' := fun p11 => [some a0, some (.int last_2), some (.int shift_3), some (.bl turned_4), some (.ref p11), none, none, none, none]) hS0 (c_is (c_lst a_nil (Nat.le_of_ble_eq_true rfl)) (congrArg (List.map (eT4 eS eI eI eI)) k10)) (fun _ => rfl) (fun p11 us12 F5 H6 g7 hS8 hu13 => ?_)
  obtain ⟨found_85, k16, m⟩ := bnd m
  refine s_for (K := K) (xs := orders_here_1) (en := (eT4 eS eI eI eI)) (body := (f_later_b14 last_2 shift_3 turned_4)) (s0 := found_9) (r := found_85) (fun (a : (List (Str × Int × Int × Int))) F σ c => ∃ (j5 : Option V) (j6 : Option V) (j7 : Option V) (j8 : Option V) (z4 : List V), σ = [some a0, some (.int last_2), some (.int shift_3), some (.bl turned_4), some (.ref p11), j5, j6, j7, j8] ∧ (p11, .lst z4) :: cs = c ∧ Dts K F z4 (a.map (eT4 eS eI eI eI))) hS8 (i_list (en := (eT4 eS eI eI eI)) (d_var rfl (Dt.gr g7 ha0))) (fun _ _ => ⟨_, _, _, _, _, rfl, rfl, (Dts.gr ‹_› hu13)⟩) k16 ?_ ?_
  · rintro ⟨name_here_18, tick_19, at_20, to_21⟩ found_17 b30 F22 F23 σ36 c37 H24 v29 N31 g25 ⟨u39, u40, u41, u42, us43, rfl, rfl, h44⟩ g26 hS27 hv28 m38 hN33
    obtain ⟨p45, w47, w48, w49, w50, rfl, hT46, hw51, hw52, hw53, hw54⟩ := u4 hv28
    obtain rfl := Dt.toStr hw51
    obtain rfl := Dt.toInt hw52
    obtain rfl := Dt.toInt hw53
    obtain rfl := Dt.toInt hw54
    refine tg (σ' := [some a0, some (.int last_2), some (.int shift_3), some (.bl turned_4), some (.ref p11), some (.str name_here_18), some (.int tick_19), some (.int at_20), some (.int to_21)]) (fun Q hq => ⟨p45, [_, _, _, _], rfl, gr_T hS27.fr hT46, rfl, _, _, rfl, _, _, rfl, _, _, rfl, _, _, rfl, rfl, hq⟩) ?_
    unfold f_later_b14 at m38
    try dsimp only at m38
    refine s_if (b := turned_4) hS27 (t_B (K := K) (d_var rfl (.bl _))) (fun hc F55 H56 g57 hS58 => ?_) (fun hc F67 H68 g69 hS70 => ?_)
    · rw [if_pos hc] at m38
      obtain ⟨found_59, k60, m38⟩ := bnd m38
      refine s_appGV (K := K) (k1 := []) (x := (name_here_18, (tick_19 + shift_3), (last_2 - at_20), (last_2 - to_21))) (l1 := []) (p := p11) (en := (eT4 eS eI eI eI)) hS58 (Dts.gr (Gr.tr g26 g57) h44) (vp_var rfl) (d_tup (a_cons (d_var rfl (.str _)) (a_cons (d_add (d_var rfl (.int _)) (d_var rfl (.int _))) (a_cons (d_sub (d_var rfl (.int _)) (d_var rfl (.int _))) (a_cons (d_sub (d_var rfl (.int _)) (d_var rfl (.int _))) a_nil)))) (Nat.le_of_ble_eq_true rfl)) k60 (fun us65 F61 H62 g63 hS64 hu66 => ?_)
      obtain rfl := sm m38
      exact hN33 _ _ _ _ (Gr.tr g57 g63) hS64 ⟨_, _, _, _, _, rfl, rfl, hu66⟩
    · rw [if_neg (bf hc)] at m38
      obtain ⟨found_71, k72, m38⟩ := bnd m38
      refine s_appGV (K := K) (k1 := []) (x := (name_here_18, (tick_19 + shift_3), at_20, to_21)) (l1 := []) (p := p11) (en := (eT4 eS eI eI eI)) hS70 (Dts.gr (Gr.tr g26 g69) h44) (vp_var rfl) (d_tup (a_cons (d_var rfl (.str _)) (a_cons (d_add (d_var rfl (.int _)) (d_var rfl (.int _))) (a_cons (d_var rfl (.int _)) (a_cons (d_var rfl (.int _)) a_nil)))) (Nat.le_of_ble_eq_true rfl)) k72 (fun us77 F73 H74 g75 hS76 hu78 => ?_)
      obtain rfl := sm m38
      exact hN33 _ _ _ _ (Gr.tr g69 g75) hS76 ⟨_, _, _, _, _, rfl, rfl, hu78⟩
  · rintro F79 σ84 c83 H80 g81 hS82 ⟨u86, u87, u88, u89, us90, rfl, rfl, h91⟩
    refine s_retV rfl ?_
    obtain rfl := sm m
    exact q _ _ _ _ (Gr.tr g7 g81) hS82 h91
theorem sc_later : FnScope N_later ["_law_orders_here", "_law_last", "_law_shift", "_law_turned"] (defScope s_later) := ⟨rfl, rfl, rfl, by decide +kernel, rfl, by decide +kernel, by decide +kernel⟩
theorem ok_later {P : Program} {w : World} {K : PySem.W.Frag} {mg : Str → Option Value} {base : Heap} (hF : Df K mg "_law_later" s_later) : Ok P w K mg base 1 "_law_later" ["_law_orders_here", "_law_last", "_law_shift", "_law_turned"] (sp_later K) := by
  obtain ⟨⟨fd, F⟩, gm⟩ := hF
  refine ⟨⟨fd, F.ok sc_later (fun vs H Q E h => ?_) (fun cdv A outer s H vs Q E hr h => ⟨t_later K, PSs.nox ?_, w_later vs H Q E h⟩), F.bindsN fun _ _ _ _ _ _ us hl => match us, hl with | [_, _, _, _], _ => rfl, lk_of F⟩, F.kp, gm⟩
  · obtain ⟨F0, cc, cs, x, y, h, _⟩ := h; exact ArgR.len h
  · exact (pss_cons (ps_set (i := 4) sc_later.nd rfl (Or.inl rfl) (pe_lst pa_nil)) (pss_cons (ps_for PassesOwn.never rfl (pi_list (pv 0)) (pg_tup rfl (pgs_cons (pg_name (i := 5) sc_later.nd rfl (Or.inl rfl)) (pgs_cons (pg_name (i := 6) sc_later.nd rfl (Or.inl rfl)) (pgs_cons (pg_name (i := 7) sc_later.nd rfl (Or.inl rfl)) (pgs_cons (pg_name (i := 8) sc_later.nd rfl (Or.inl rfl)) pgs_nil))))) (pss_one (ps_if (pt_val (pv 3)) (pss_one (ps_expr (pe_bm PySem.F.plainAttrs_list PySem.F.slot_list_append PySem.F.type_list_append mt_append (pv 4) (pa_cons (pe_tup (pa_cons (pv 5) (pa_cons (pe_op op_add (pv 6) (pv 2)) (pa_cons (pe_op op_sub (pv 1) (pv 7)) (pa_cons (pe_op op_sub (pv 1) (pv 8)) pa_nil))))) pa_nil)))) (pss_one (ps_expr (pe_bm PySem.F.plainAttrs_list PySem.F.slot_list_append PySem.F.type_list_append mt_append (pv 4) (pa_cons (pe_tup (pa_cons (pv 5) (pa_cons (pe_op op_add (pv 6) (pv 2)) (pa_cons (pv 7) (pa_cons (pv 8) pa_nil))))) pa_nil))))))) (pss_one (ps_ret (pv 4)))))
abbrev s_is_whole : Stmt := (top 7)
def f_is_whole : Int → Option Bool := fun thing_1 => some (true && (!false))
abbrev A_is_whole : Int → List PyData := fun x => [eI x]
abbrev N_is_whole : List Str := ["thing"]
abbrev sp_is_whole (K : PySem.W.Frag) : Sp := spP K A_is_whole eB f_is_whole
def t_is_whole (K : PySem.W.Frag) : TS := (tRet (tAndV (tCB (rIsi K) (tCons (tVar 0) (tCons (tC (.ty "int")) tNil))) (tNotV (tCB (rIsi K) (tCons (tVar 0) (tCons (tC (.ty "bool")) tNil))))))
theorem w_is_whole {K : PySem.W.Frag} (vs : List V) (H : Hp) (Q : VK) (E : XK) (h : sp_is_whole K vs H Q E) : t_is_whole K { nx := fun _ H' => Q .non H', rt := Q } (start N_is_whole vs) H := by
  obtain ⟨F0, cs, thing_1, y, h, hS0, m, q⟩ := h
  obtain ⟨a0, _, rfl, ha0, h⟩ := Dts.hd h
  obtain rfl := Dts.no h
  obtain rfl := Dt.toInt ha0
  unfold f_is_whole at m
  try dsimp only at m
  unfold t_is_whole
  refine go (σ' := [some (.int thing_1)]) rfl ?_
  refine s_ret (K := K) (d := eB (true && (!false))) hS0 (d_andP (d_is (e := PyData.bool true) (d_isiD (c := "int") (by decide) (d_var rfl (.int _))) (congrArg PyData.bool (by rfl))) (fun hc => (d_notV (d_is (e := PyData.bool false) (d_isiD (c := "bool") (by decide) (d_var rfl (.int _))) (congrArg PyData.bool (by rfl)))))) (fun v6 F2 H3 g4 hS5 hv7 => ?_)
  obtain rfl := sm m
  exact q _ _ _ g4 hS5 hv7
theorem sc_is_whole : FnScope N_is_whole ["thing"] (defScope s_is_whole) := ⟨rfl, rfl, rfl, by decide +kernel, rfl, by decide +kernel, by decide +kernel⟩
theorem ok_is_whole {P : Program} {w : World} {K : PySem.W.Frag} {mg : Str → Option Value} {base : Heap} (hF : Df K mg "is_whole" s_is_whole) (m_bool : mg "bool" = none) (m_int : mg "int" = none) (m_isinstance : mg "isinstance" = none) : Ok P w K mg base 1 "is_whole" ["thing"] (sp_is_whole K) := by
  obtain ⟨⟨fd, F⟩, gm⟩ := hF
  refine ⟨⟨fd, F.ok sc_is_whole (fun vs H Q E h => ?_) (fun cdv A outer s H vs Q E hr h => ⟨t_is_whole K, PSs.nox ?_, w_is_whole vs H Q E h⟩), F.bindsN fun _ _ _ _ _ _ us hl => match us, hl with | [_], _ => rfl, lk_of F⟩, F.kp, gm⟩
  · obtain ⟨F0, cs, x, y, h, _⟩ := h; exact Dts.len h
  · exact (pss_one (ps_ret (pe_and (pe_callB call_isi (by rfl) m_isinstance (by decide +kernel) (pa_cons (pv 0) (pa_cons (pe_bltn (v := .ty "int") (by rfl) m_int (by decide +kernel) rfl) pa_nil))) (pe_one (pe_not (pe_callB call_isi (by rfl) m_isinstance (by decide +kernel) (pa_cons (pv 0) (pa_cons (pe_bltn (v := .ty "bool") (by rfl) m_bool (by decide +kernel) rfl) pa_nil))))))))
abbrev s_is_between : Stmt := (top 15)
def f_is_between : (Int × Int × Int) → Option Bool := fun (thing_1, least_2, greatest_3) => (((f_is_whole thing_1)).bind fun x4 => some (x4 && (decide (least_2 ≤ thing_1) && decide (thing_1 ≤ greatest_3))))
abbrev A_is_between : (Int × Int × Int) → List PyData := fun x => [eI x.1, eI x.2.1, eI x.2.2]
abbrev N_is_between : List Str := ["thing", "least", "greatest"]
abbrev sp_is_between (K : PySem.W.Frag) : Sp := spP K A_is_between eB f_is_between
def t_is_between (K : PySem.W.Frag) : TS := (tRet (tAndV (tCall (sp_is_whole K) [] E0 (tCons (tVar 0) tNil)) (tChain (rI0 fun i j => .bl (decide (i ≤ j))) (rI0 fun i j => .bl (decide (i ≤ j))) (tVar 1) (tVar 0) (tVar 2))))
theorem w_is_between {K : PySem.W.Frag} (vs : List V) (H : Hp) (Q : VK) (E : XK) (h : sp_is_between K vs H Q E) : t_is_between K { nx := fun _ H' => Q .non H', rt := Q } (start N_is_between vs) H := by
  obtain ⟨F0, cs, ⟨thing_1, least_2, greatest_3⟩, y, h, hS0, m, q⟩ := h
  obtain ⟨a0, _, rfl, ha0, h⟩ := Dts.hd h
  obtain ⟨a1, _, rfl, ha1, h⟩ := Dts.hd h
  obtain ⟨a2, _, rfl, ha2, h⟩ := Dts.hd h
  obtain rfl := Dts.no h
  obtain rfl := Dt.toInt ha0
  obtain rfl := Dt.toInt ha1
  obtain rfl := Dt.toInt ha2
  unfold f_is_between at m
  try dsimp only at m
  unfold t_is_between
  refine go (σ' := [some (.int thing_1), some (.int least_2), some (.int greatest_3)]) rfl ?_
  obtain ⟨x4, k5, m⟩ := bnd m
  refine s_ret (K := K) (d := eB (x4 && (decide (least_2 ≤ thing_1) && decide (thing_1 ≤ greatest_3)))) hS0 (d_andP (d_call (A := A_is_whole) (B := eB) (x := thing_1) (a_cons (d_var rfl (.int _)) a_nil) k5) (fun hc => (d_chain (d_var rfl (.int _)) (d_var rfl (.int _)) (d_var rfl (.int _))))) (fun v10 F6 H7 g8 hS9 hv11 => ?_)
  obtain rfl := sm m
  exact q _ _ _ g8 hS9 hv11
theorem sc_is_between : FnScope N_is_between ["thing", "least", "greatest"] (defScope s_is_between) := ⟨rfl, rfl, rfl, by decide +kernel, rfl, by decide +kernel, by decide +kernel⟩
theorem ok_is_between {P : Program} {w : World} {K : PySem.W.Frag} {mg : Str → Option Value} {base : Heap} (hF : Df K mg "is_between" s_is_between) (o_is_whole : Ok P w K mg base 1 "is_whole" ["thing"] (sp_is_whole K)) : Ok P w K mg base 2 "is_between" ["thing", "least", "greatest"] (sp_is_between K) := by
  obtain ⟨⟨_, G_is_whole, bd_is_whole, _⟩, kp_is_whole, gm_is_whole⟩ := o_is_whole
  obtain ⟨⟨fd, F⟩, gm⟩ := hF
  refine ⟨⟨fd, F.ok sc_is_between (fun vs H Q E h => ?_) (fun cdv A outer s H vs Q E hr h => ⟨t_is_between K, PSs.nox ?_, w_is_between vs H Q E h⟩), F.bindsN fun _ _ _ _ _ _ us hl => match us, hl with | [_, _, _], _ => rfl, lk_of F⟩, F.kp, gm⟩
  · obtain ⟨F0, cs, x, y, h, _⟩ := h; exact Dts.len h
  · exact (pss_one (ps_ret (pe_and (pe_call G_is_whole (hr.mono (by decide)) (by rfl) gm_is_whole kp_is_whole bd_is_whole .nil pass0 (pa_cons (pv 0) pa_nil)) (pe_one (pe_chain op_le op_le (pv 1) (pv 0) (pv 2))))))
abbrev s_look_at_aisle : Stmt := (top 16)
def f_look_at_aisle : ((List Int) × Int) → Option Unit := fun thing_1 => (if ((!true) || (!decide ((2 : Int) = (2 : Int)))) = true then none else (letM thing_1.1 fun gaps_16 => letM thing_1.2 fun most_18 => (if ((!true) || (!(decide ((1 : Int) ≤ (gaps_16.length : Int)) && decide ((gaps_16.length : Int) ≤ (15 : Int))))) = true then none else (((lcC (fun gap_34 => (((f_is_between (gap_34, (1 : Int), (1000 : Int)))).bind fun x45 => some (some x45))) gaps_16)).bind fun x47 => (if (!((x47).all id)) = true then none else (((f_is_between (most_18, (1 : Int), (20 : Int)))).bind fun x57 => (if (!x57) = true then none else some ())))))))
abbrev A_look_at_aisle : ((List Int) × Int) → List PyData := fun x => [(eT2 (eL eI) eI) x]
abbrev N_look_at_aisle : List Str := ["thing", "gaps", "most", "gap"]
abbrev sp_look_at_aisle (K : PySem.W.Frag) : Sp := spP K A_look_at_aisle eN f_look_at_aisle
def t_look_at_aisle (K : PySem.W.Frag) : TS := (tSeq (tIfS (tOr (tNot (tB (tCB (rIsi K) (tCons (tVar 0) (tCons (tC (.ty "tuple")) tNil))))) (tTest (tOp rNe (tCB (rLenL K) (tCons (tVar 0) tNil)) (tC (.int 2))))) tNever tNext) (tSeq (tAsg (tVar 0) (gTup K 2 (gCons (gName 1) (gCons (gName 2) gNil)))) (tSeq (tIfS (tOr (tNot (tB (tCB (rIsi K) (tCons (tVar 1) (tCons (tC (.ty "list")) tNil))))) (tNot (tTest (tChain (rI0 fun i j => .bl (decide (i ≤ j))) (rI0 fun i j => .bl (decide (i ≤ j))) (tC (.int 1)) (tCB (rLenL K) (tCons (tVar 1) tNil)) (tC (.int 15)))))) tNever tNext) (tSeq (tIfS (tNot (tB (tCB (rAll K) (tCons (tLc (iList K (tVar 1)) (gName 3) tYes (tCall (sp_is_between K) [] E0 (tCons (tVar 3) (tCons (tC (.int 1)) (tCons (tC (.int 1000)) tNil)))) [3]) tNil)))) tNever tNext) (tIfS (tNot (tB (tCall (sp_is_between K) [] E0 (tCons (tVar 2) (tCons (tC (.int 1)) (tCons (tC (.int 20)) tNil)))))) tNever tNext)))))
theorem w_look_at_aisle {K : PySem.W.Frag} (vs : List V) (H : Hp) (Q : VK) (E : XK) (h : sp_look_at_aisle K vs H Q E) : t_look_at_aisle K { nx := fun _ H' => Q .non H', rt := Q } (start N_look_at_aisle vs) H := by
  obtain ⟨F0, cs, thing_1, y, h, hS0, m, q⟩ := h
  obtain ⟨a0, _, rfl, ha0, h⟩ := Dts.hd h
  obtain rfl := Dts.no h
  unfold f_look_at_aisle at m
  try dsimp only at m
  unfold t_look_at_aisle
  refine go (σ' := [some a0, none, none, none]) rfl ?_
  refine s_if (b := ((!true) || (!decide ((2 : Int) = (2 : Int))))) hS0 (t_orP (t_not (t_B (K := K) (d_is (e := PyData.bool true) (d_isiD (c := "tuple") (by decide) (d_var rfl ha0)) (congrArg PyData.bool (by rfl))))) (fun hc => (t_test (K := K) (d_neI (d_is (e := PyData.int 2) (d_lenT (a_cons (d_var rfl ha0) a_nil)) (congrArg PyData.int (by rfl))) d_int)))) (fun hc F2 H3 g4 hS5 => ?_) (fun hc F6 H7 g8 hS9 => ?_)
  · rw [if_pos hc] at m
    cases m
  · rw [if_neg (bf hc)] at m
    refine nxt ?_
    refine s_asg (K := K) (d := (eT2 (eL eI) eI) thing_1) hS9 (d_var rfl (Dt.gr g8 ha0)) (fun v14 F10 H11 g12 hS13 hv15 => ?_)
    obtain ⟨gaps_16, k17, m⟩ := lt m
    obtain ⟨most_18, k19, m⟩ := lt m
    obtain ⟨p20, w22, w23, rfl, hT21, hw24, hw25⟩ := u2 hv15
    rw [k17] at hw24
    rw [k19] at hw25
    obtain rfl := Dt.toInt hw25
    refine tg (σ' := [some a0, some w22, some (.int most_18), none]) (fun Q hq => ⟨p20, [_, _], rfl, gr_T hS13.fr hT21, rfl, _, _, rfl, _, _, rfl, rfl, hq⟩) ?_
    refine s_if (b := ((!true) || (!(decide ((1 : Int) ≤ (gaps_16.length : Int)) && decide ((gaps_16.length : Int) ≤ (15 : Int)))))) hS13 (t_orP (t_not (t_B (K := K) (d_is (e := PyData.bool true) (d_isiD (c := "list") (by decide) (d_var rfl hw24)) (congrArg PyData.bool (by rfl))))) (fun hc => (t_not (t_test (K := K) (d_chain d_int (d_len (e := eI) (a_cons (d_var rfl hw24) a_nil)) d_int))))) (fun hc F26 H27 g28 hS29 => ?_) (fun hc F30 H31 g32 hS33 => ?_)
    · rw [if_pos hc] at m
      cases m
    · rw [if_neg (bf hc)] at m
      refine nxt ?_
      obtain ⟨x47, k48, m⟩ := bnd m
      refine s_if (b := (!((x47).all id))) hS33 (t_not (t_B (K := K) (d_all (a_cons (EvC.dd (c_lcC (K := K) (f := (fun gap_34 => (((f_is_between (gap_34, (1 : Int), (1000 : Int)))).bind fun x45 => some (some x45)))) (em := eB) (i_list (en := eI) (d_var rfl (Dt.gr g32 hw24))) k48 (fun gap_34 o41 v42 F35 p36 us37 g38 hv39 ho40 => by obtain rfl := Dt.toInt hv39; obtain ⟨x45, k46, ho40⟩ := bnd ho40; obtain rfl := sm ho40; exact ⟨[some a0, some w22, some (.int most_18), some (.int gap_34)], fun H44 Q hS43 hq => (fun Q hq => hq) Q hq, rfl, t_yes, fun y hy => by obtain rfl := sm hy; exact (d_call (A := A_is_between) (B := eB) (x := (gap_34, (1 : Int), (1000 : Int))) (a_cons (d_var rfl (.int _)) (a_cons d_int (a_cons d_int a_nil))) k46)⟩))) a_nil)))) (fun hc F49 H50 g51 hS52 => ?_) (fun hc F53 H54 g55 hS56 => ?_)
      · rw [if_pos hc] at m
        cases m
      · rw [if_neg (bf hc)] at m
        refine nxt ?_
        obtain ⟨x57, k58, m⟩ := bnd m
        refine s_if (b := (!x57)) hS56 (t_not (t_B (K := K) (d_call (A := A_is_between) (B := eB) (x := (most_18, (1 : Int), (20 : Int))) (a_cons (d_var rfl (.int _)) (a_cons d_int (a_cons d_int a_nil))) k58))) (fun hc F59 H60 g61 hS62 => ?_) (fun hc F63 H64 g65 hS66 => ?_)
        · rw [if_pos hc] at m
          cases m
        · rw [if_neg (bf hc)] at m
          refine nxt ?_
          obtain rfl := sm m
          exact q _ _ _ (Gr.tr g8 (Gr.tr g12 (Gr.tr g32 (Gr.tr g55 g65)))) hS66 Dt.non
theorem sc_look_at_aisle : FnScope N_look_at_aisle ["thing"] (defScope s_look_at_aisle) := ⟨rfl, rfl, rfl, by decide +kernel, rfl, by decide +kernel, by decide +kernel⟩
theorem ok_look_at_aisle {P : Program} {w : World} {K : PySem.W.Frag} {mg : Str → Option Value} {base : Heap} (hF : Df K mg "look_at_aisle" s_look_at_aisle) (m_all : mg "all" = none) (m_isinstance : mg "isinstance" = none) (m_len : mg "len" = none) (m_list : mg "list" = none) (m_tuple : mg "tuple" = none) (c_LONGEST_GAP : ∃ t, mg "LONGEST_GAP" = some (.int 1000 t)) (c_MOST_GAPS : ∃ t, mg "MOST_GAPS" = some (.int 15 t)) (c_MOST_LOAD : ∃ t, mg "MOST_LOAD" = some (.int 20 t)) (o_is_between : Ok P w K mg base 2 "is_between" ["thing", "least", "greatest"] (sp_is_between K)) : Ok P w K mg base 3 "look_at_aisle" ["thing"] (sp_look_at_aisle K) := by
  obtain ⟨_, c_LONGEST_GAP⟩ := c_LONGEST_GAP
  obtain ⟨_, c_MOST_GAPS⟩ := c_MOST_GAPS
  obtain ⟨_, c_MOST_LOAD⟩ := c_MOST_LOAD
  obtain ⟨⟨_, G_is_between, bd_is_between, _⟩, kp_is_between, gm_is_between⟩ := o_is_between
  obtain ⟨⟨fd, F⟩, gm⟩ := hF
  refine ⟨⟨fd, F.ok sc_look_at_aisle (fun vs H Q E h => ?_) (fun cdv A outer s H vs Q E hr h => ⟨t_look_at_aisle K, PSs.nox ?_, w_look_at_aisle vs H Q E h⟩), F.bindsN fun _ _ _ _ _ _ us hl => match us, hl with | [_], _ => rfl, lk_of F⟩, F.kp, gm⟩
  · obtain ⟨F0, cs, x, y, h, _⟩ := h; exact Dts.len h
  · exact (pss_cons (ps_if (PW.pt (pw_or (pt_not (pt_val (pe_callB call_isi (by rfl) m_isinstance (by decide +kernel) (pa_cons (pv 0) (pa_cons (pe_bltn (v := .ty "tuple") (by rfl) m_tuple (by decide +kernel) rfl) pa_nil))))) (pw_or1 (pt_cmpR op_ne (pe_callB cr_lenL (by rfl) m_len PySem.boot_len (pa_cons (pv 0) pa_nil)) pe_int (nomark _))))) (pss_one ps_never) pss_nil) (pss_cons (ps_asg (pv 0) (pg_tup rfl (pgs_cons (pg_name (i := 1) sc_look_at_aisle.nd rfl (Or.inl rfl)) (pgs_cons (pg_name (i := 2) sc_look_at_aisle.nd rfl (Or.inl rfl)) pgs_nil)))) (pss_cons (ps_if (PW.pt (pw_or (pt_not (pt_val (pe_callB call_isi (by rfl) m_isinstance (by decide +kernel) (pa_cons (pv 1) (pa_cons (pe_bltn (v := .ty "list") (by rfl) m_list (by decide +kernel) rfl) pa_nil))))) (pw_or1 (pt_not (pt_chain op_le op_le pe_int (pe_callB cr_lenL (by rfl) m_len PySem.boot_len (pa_cons (pv 1) pa_nil)) (pe_glob (v := .int 15) (by rfl) c_MOST_GAPS ⟨_, rfl⟩)))))) (pss_one ps_never) pss_nil) (pss_cons (ps_if (pt_not (pt_val (pe_callB (cr_all rfl) (by rfl) m_all (by decide +kernel) (pa_cons (pe_lc (own := [("gap", 3)]) (g := (gName 3)) (tt := tYes) (te := (tCall (sp_is_between K) [] E0 (tCons (tVar 3) (tCons (tC (.int 1)) (tCons (tC (.int 1000)) tNil))))) (by rfl) sc_look_at_aisle.nd (pi_list (pv 1)) (blkOk_by (own := [("gap", 3)]) (N := N_look_at_aisle) (sc := defScope s_look_at_aisle) (by decide +kernel)) (fun _ _ _ _ _ => (pg_name (i := 3) sc_look_at_aisle.nd rfl (Or.inl rfl))) (fun _ _ _ _ _ => pts_nil) (fun _ _ _ _ _ => (pe_call G_is_between (hr.mono (by decide)) (by rfl) gm_is_between kp_is_between bd_is_between .nil pass0 (pa_cons (pv 3) (pa_cons pe_int (pa_cons (pe_glob (v := .int 1000) (by rfl) c_LONGEST_GAP ⟨_, rfl⟩) pa_nil)))))) pa_nil)))) (pss_one ps_never) pss_nil) (pss_one (ps_if (pt_not (pt_val (pe_call G_is_between (hr.mono (by decide)) (by rfl) gm_is_between kp_is_between bd_is_between .nil pass0 (pa_cons (pv 2) (pa_cons pe_int (pa_cons (pe_glob (v := .int 20) (by rfl) c_MOST_LOAD ⟨_, rfl⟩) pa_nil)))))) (pss_one ps_never) pss_nil))))))
abbrev s_is_name : Stmt := (top 8)
def f_is_name : Str → Option Bool := fun thing_1 => (((if (!true) = true then some true else (((lenS thing_1)).bind fun x2 => some (!(decide ((1 : Int) ≤ x2) && decide (x2 ≤ (8 : Int))))))).bind fun x4 => (if x4 = true then some false else (((mapC (fun sign_20 => (inS sign_20 ("abcdefghijklmnopqrstuvwxyz" : Str))) (signs thing_1))).bind fun x31 => some ((x31).all id))))
abbrev A_is_name : Str → List PyData := fun x => [eS x]
abbrev N_is_name : List Str := ["thing", "sign"]
abbrev sp_is_name (K : PySem.W.Frag) : Sp := spP K A_is_name eB f_is_name
def t_is_name (K : PySem.W.Frag) : TS := (tSeq (tIfS (tOr (tNot (tB (tCB (rIsi K) (tCons (tVar 0) (tCons (tC (.ty "str")) tNil))))) (tNot (tTest (tChain (rI0 fun i j => .bl (decide (i ≤ j))) (rI0 fun i j => .bl (decide (i ≤ j))) (tC (.int 1)) (tCB rLenS (tCons (tVar 0) tNil)) (tC (.int 8)))))) (tRet (tC (.bl false))) tNext) (tRet (tCB (rAll K) (tCons (tLc (iStr (tVar 0)) (gName 1) tYes (tOp rInS (tVar 1) (tC (.str "abcdefghijklmnopqrstuvwxyz"))) [1]) tNil))))
theorem w_is_name {K : PySem.W.Frag} (vs : List V) (H : Hp) (Q : VK) (E : XK) (h : sp_is_name K vs H Q E) : t_is_name K { nx := fun _ H' => Q .non H', rt := Q } (start N_is_name vs) H := by
  obtain ⟨F0, cs, thing_1, y, h, hS0, m, q⟩ := h
  obtain ⟨a0, _, rfl, ha0, h⟩ := Dts.hd h
  obtain rfl := Dts.no h
  obtain rfl := Dt.toStr ha0
  unfold f_is_name at m
  try dsimp only at m
  unfold t_is_name
  refine go (σ' := [some (.str thing_1), none]) rfl ?_
  obtain ⟨x4, k5, m⟩ := bnd m
  refine s_if (b := x4) hS0 (t_orM (r := x4) (t_not (t_B (K := K) (d_is (e := PyData.bool true) (d_isiD (c := "str") (by decide) (d_var rfl (.str _))) (congrArg PyData.bool (by rfl))))) (fun hc => by rw [if_neg (bf hc)] at k5; obtain ⟨x2, k3, k5⟩ := bnd k5; obtain rfl := sm k5; exact (t_not (t_test (K := K) (d_chain d_int (d_lenS (a_cons (d_var rfl (.str _)) a_nil) k3) d_int)))) (fun hc => by rw [if_pos hc] at k5; exact (sm k5).symm)) (fun hc F6 H7 g8 hS9 => ?_) (fun hc F16 H17 g18 hS19 => ?_)
  · rw [if_pos hc] at m
    refine s_ret (K := K) (d := eB false) hS9 d_bl (fun v14 F10 H11 g12 hS13 hv15 => ?_)
    obtain rfl := sm m
    exact q _ _ _ (Gr.tr g8 g12) hS13 hv15
  · rw [if_neg (bf hc)] at m
    refine nxt ?_
    obtain ⟨x31, k32, m⟩ := bnd m
    refine s_ret (K := K) (d := eB ((x31).all id)) hS19 (d_all (a_cons (EvC.dd (c_mapC (K := K) (f := (fun sign_20 => (inS sign_20 ("abcdefghijklmnopqrstuvwxyz" : Str)))) (em := eB) (i_str (d_var rfl (.str _))) k32 (fun sign_20 o27 v28 F21 p22 us23 g24 hv25 ho26 => by obtain rfl := Dt.toStr hv25; obtain rfl := sm ho26; exact ⟨[some (.str thing_1), some (.str sign_20)], fun H30 Q hS29 hq => (fun Q hq => hq) Q hq, rfl, t_yes, fun y hy => by obtain rfl := sm hy; exact (d_inS (d_var rfl (.str _)) d_str)⟩))) a_nil)) (fun v37 F33 H34 g35 hS36 hv38 => ?_)
    obtain rfl := sm m
    exact q _ _ _ (Gr.tr g18 g35) hS36 hv38
theorem sc_is_name : FnScope N_is_name ["thing"] (defScope s_is_name) := ⟨rfl, rfl, rfl, by decide +kernel, rfl, by decide +kernel, by decide +kernel⟩
theorem ok_is_name {P : Program} {w : World} {K : PySem.W.Frag} {mg : Str → Option Value} {base : Heap} (hF : Df K mg "is_name" s_is_name) (m_all : mg "all" = none) (m_isinstance : mg "isinstance" = none) (m_len : mg "len" = none) (m_str : mg "str" = none) (c_LETTERS : ∃ t, mg "LETTERS" = some (.str "abcdefghijklmnopqrstuvwxyz" t)) (c_LONGEST : ∃ t, mg "LONGEST" = some (.int 8 t)) : Ok P w K mg base 1 "is_name" ["thing"] (sp_is_name K) := by
  obtain ⟨_, c_LETTERS⟩ := c_LETTERS
  obtain ⟨_, c_LONGEST⟩ := c_LONGEST
  obtain ⟨⟨fd, F⟩, gm⟩ := hF
  refine ⟨⟨fd, F.ok sc_is_name (fun vs H Q E h => ?_) (fun cdv A outer s H vs Q E hr h => ⟨t_is_name K, PSs.nox ?_, w_is_name vs H Q E h⟩), F.bindsN fun _ _ _ _ _ _ us hl => match us, hl with | [_], _ => rfl, lk_of F⟩, F.kp, gm⟩
  · obtain ⟨F0, cs, x, y, h, _⟩ := h; exact Dts.len h
  · exact (pss_cons (ps_if (PW.pt (pw_or (pt_not (pt_val (pe_callB call_isi (by rfl) m_isinstance (by decide +kernel) (pa_cons (pv 0) (pa_cons (pe_bltn (v := .ty "str") (by rfl) m_str (by decide +kernel) rfl) pa_nil))))) (pw_or1 (pt_not (pt_chain op_le op_le pe_int (pe_callB cr_lenS (by rfl) m_len PySem.boot_len (pa_cons (pv 0) pa_nil)) (pe_glob (v := .int 8) (by rfl) c_LONGEST ⟨_, rfl⟩)))))) (pss_one (ps_ret pe_bl)) pss_nil) (pss_one (ps_ret (pe_callB (cr_all rfl) (by rfl) m_all (by decide +kernel) (pa_cons (pe_lc (own := [("sign", 1)]) (g := (gName 1)) (tt := tYes) (te := (tOp rInS (tVar 1) (tC (.str "abcdefghijklmnopqrstuvwxyz")))) (by rfl) sc_is_name.nd (pi_str (pv 0)) (blkOk_by (own := [("sign", 1)]) (N := N_is_name) (sc := defScope s_is_name) (by decide +kernel)) (fun _ _ _ _ _ => (pg_name (i := 1) sc_is_name.nd rfl (Or.inl rfl))) (fun _ _ _ _ _ => pts_nil) (fun _ _ _ _ _ => (pe_cmpR op_inR (pv 1) (pe_glob (v := .str "abcdefghijklmnopqrstuvwxyz") (by rfl) c_LETTERS ⟨_, rfl⟩) (by rfl)))) pa_nil)))))
abbrev s_is_order : Stmt := (top 17)
def f_is_order : ((Str × Int × Int × Int) × Int) → Option Bool := fun (thing_1, last_2) => (if ((!true) || (!decide ((4 : Int) = (4 : Int)))) = true then some false else (letM thing_1.1 fun name_23 => letM thing_1.2.1 fun tick_25 => (((f_is_name name_23)).bind fun x37 => ((if (!x37) = true then some true else (((f_is_between (tick_25, (0 : Int), (1000000000 : Int)))).bind fun x39 => some (!x39)))).bind fun x41 => (if x41 = true then some false else (((f_is_between (thing_1.2.2.1, (0 : Int), last_2))).bind fun x57 => ((if x57 = true then (((f_is_between (thing_1.2.2.2, (0 : Int), last_2))).bind fun x59 => some (x59 && (!decide (thing_1.2.2.1 = thing_1.2.2.2)))) else some false)).bind fun x61 => some x61)))))
abbrev A_is_order : ((Str × Int × Int × Int) × Int) → List PyData := fun x => [(eT4 eS eI eI eI) x.1, eI x.2]
abbrev N_is_order : List Str := ["thing", "last", "name", "tick", "at", "to"]
abbrev sp_is_order (K : PySem.W.Frag) : Sp := spP K A_is_order eB f_is_order
def t_is_order (K : PySem.W.Frag) : TS := (tSeq (tIfS (tOr (tNot (tB (tCB (rIsi K) (tCons (tVar 0) (tCons (tC (.ty "tuple")) tNil))))) (tTest (tOp rNe (tCB (rLenL K) (tCons (tVar 0) tNil)) (tC (.int 4))))) (tRet (tC (.bl false))) tNext) (tSeq (tAsg (tVar 0) (gTup K 4 (gCons (gName 2) (gCons (gName 3) (gCons (gName 4) (gCons (gName 5) gNil)))))) (tSeq (tIfS (tOr (tNot (tB (tCall (sp_is_name K) [] E0 (tCons (tVar 2) tNil)))) (tNot (tB (tCall (sp_is_between K) [] E0 (tCons (tVar 3) (tCons (tC (.int 0)) (tCons (tC (.int 1000000000)) tNil))))))) (tRet (tC (.bl false))) tNext) (tRet (tAndV (tCall (sp_is_between K) [] E0 (tCons (tVar 4) (tCons (tC (.int 0)) (tCons (tVar 1) tNil)))) (tAndV (tCall (sp_is_between K) [] E0 (tCons (tVar 5) (tCons (tC (.int 0)) (tCons (tVar 1) tNil)))) (tOp rNe (tVar 4) (tVar 5))))))))
theorem w_is_order {K : PySem.W.Frag} (vs : List V) (H : Hp) (Q : VK) (E : XK) (h : sp_is_order K vs H Q E) : t_is_order K { nx := fun _ H' => Q .non H', rt := Q } (start N_is_order vs) H := by
  obtain ⟨F0, cs, ⟨thing_1, last_2⟩, y, h, hS0, m, q⟩ := h
  obtain ⟨a0, _, rfl, ha0, h⟩ := Dts.hd h
  obtain ⟨a1, _, rfl, ha1, h⟩ := Dts.hd h
  obtain rfl := Dts.no h
  obtain rfl := Dt.toInt ha1
  unfold f_is_order at m
  try dsimp only at m
  unfold t_is_order
  refine go (σ' := [some a0, some (.int last_2), none, none, none, none]) rfl ?_
  refine s_if (b := ((!true) || (!decide ((4 : Int) = (4 : Int))))) hS0 (t_orP (t_not (t_B (K := K) (d_is (e := PyData.bool true) (d_isiD (c := "tuple") (by decide) (d_var rfl ha0)) (congrArg PyData.bool (by rfl))))) (fun hc => (t_test (K := K) (d_neI (d_is (e := PyData.int 4) (d_lenT (a_cons (d_var rfl ha0) a_nil)) (congrArg PyData.int (by rfl))) d_int)))) (fun hc F3 H4 g5 hS6 => ?_) (fun hc F13 H14 g15 hS16 => ?_)
  · rw [if_pos hc] at m
    refine s_ret (K := K) (d := eB false) hS6 d_bl (fun v11 F7 H8 g9 hS10 hv12 => ?_)
    obtain rfl := sm m
    exact q _ _ _ (Gr.tr g5 g9) hS10 hv12
  · rw [if_neg (bf hc)] at m
    refine nxt ?_
    refine s_asg (K := K) (d := (eT4 eS eI eI eI) thing_1) hS16 (d_var rfl (Dt.gr g15 ha0)) (fun v21 F17 H18 g19 hS20 hv22 => ?_)
    obtain ⟨name_23, k24, m⟩ := lt m
    obtain ⟨tick_25, k26, m⟩ := lt m
    obtain ⟨p27, w29, w30, w31, w32, rfl, hT28, hw33, hw34, hw35, hw36⟩ := u4 hv22
    rw [k24] at hw33
    obtain rfl := Dt.toStr hw33
    rw [k26] at hw34
    obtain rfl := Dt.toInt hw34
    obtain rfl := Dt.toInt hw35
    obtain rfl := Dt.toInt hw36
    refine tg (σ' := [some a0, some (.int last_2), some (.str name_23), some (.int tick_25), some (.int thing_1.2.2.1), some (.int thing_1.2.2.2)]) (fun Q hq => ⟨p27, [_, _, _, _], rfl, gr_T hS20.fr hT28, rfl, _, _, rfl, _, _, rfl, _, _, rfl, _, _, rfl, rfl, hq⟩) ?_
    obtain ⟨x37, k38, m⟩ := bnd m
    obtain ⟨x41, k42, m⟩ := bnd m
    refine s_if (b := x41) hS20 (t_orM (r := x41) (t_not (t_B (K := K) (d_call (A := A_is_name) (B := eB) (x := name_23) (a_cons (d_var rfl (.str _)) a_nil) k38))) (fun hc => by rw [if_neg (bf hc)] at k42; obtain ⟨x39, k40, k42⟩ := bnd k42; obtain rfl := sm k42; exact (t_not (t_B (K := K) (d_call (A := A_is_between) (B := eB) (x := (tick_25, (0 : Int), (1000000000 : Int))) (a_cons (d_var rfl (.int _)) (a_cons d_int (a_cons d_int a_nil))) k40)))) (fun hc => by rw [if_pos hc] at k42; exact (sm k42).symm)) (fun hc F43 H44 g45 hS46 => ?_) (fun hc F53 H54 g55 hS56 => ?_)
    · rw [if_pos hc] at m
      refine s_ret (K := K) (d := eB false) hS46 d_bl (fun v51 F47 H48 g49 hS50 hv52 => ?_)
      obtain rfl := sm m
      exact q _ _ _ (Gr.tr g15 (Gr.tr g19 (Gr.tr g45 g49))) hS50 hv52
    · rw [if_neg (bf hc)] at m
      refine nxt ?_
      obtain ⟨x57, k58, m⟩ := bnd m
      obtain ⟨x61, k62, m⟩ := bnd m
      refine s_ret (K := K) (d := eB x61) hS56 (d_andM (r := x61) (d_call (A := A_is_between) (B := eB) (x := (thing_1.2.2.1, (0 : Int), last_2)) (a_cons (d_var rfl (.int _)) (a_cons d_int (a_cons (d_var rfl (.int _)) a_nil))) k58) (fun hc => by rw [if_pos hc] at k62; obtain ⟨x59, k60, k62⟩ := bnd k62; obtain rfl := sm k62; exact (d_andP (d_call (A := A_is_between) (B := eB) (x := (thing_1.2.2.2, (0 : Int), last_2)) (a_cons (d_var rfl (.int _)) (a_cons d_int (a_cons (d_var rfl (.int _)) a_nil))) k60) (fun hc => (d_neI (d_var rfl (.int _)) (d_var rfl (.int _)))))) (fun hc => by rw [if_neg (bf hc)] at k62; exact (sm k62).symm)) (fun v67 F63 H64 g65 hS66 hv68 => ?_)
      obtain rfl := sm m
      exact q _ _ _ (Gr.tr g15 (Gr.tr g19 (Gr.tr g55 g65))) hS66 hv68
theorem sc_is_order : FnScope N_is_order ["thing", "last"] (defScope s_is_order) := ⟨rfl, rfl, rfl, by decide +kernel, rfl, by decide +kernel, by decide +kernel⟩
theorem ok_is_order {P : Program} {w : World} {K : PySem.W.Frag} {mg : Str → Option Value} {base : Heap} (hF : Df K mg "is_order" s_is_order) (m_isinstance : mg "isinstance" = none) (m_len : mg "len" = none) (m_tuple : mg "tuple" = none) (c_LATEST : ∃ t, mg "LATEST" = some (.int 1000000000 t)) (o_is_between : Ok P w K mg base 2 "is_between" ["thing", "least", "greatest"] (sp_is_between K)) (o_is_name : Ok P w K mg base 1 "is_name" ["thing"] (sp_is_name K)) : Ok P w K mg base 3 "is_order" ["thing", "last"] (sp_is_order K) := by
  obtain ⟨_, c_LATEST⟩ := c_LATEST
  obtain ⟨⟨_, G_is_between, bd_is_between, _⟩, kp_is_between, gm_is_between⟩ := o_is_between
  obtain ⟨⟨_, G_is_name, bd_is_name, _⟩, kp_is_name, gm_is_name⟩ := o_is_name
  obtain ⟨⟨fd, F⟩, gm⟩ := hF
  refine ⟨⟨fd, F.ok sc_is_order (fun vs H Q E h => ?_) (fun cdv A outer s H vs Q E hr h => ⟨t_is_order K, PSs.nox ?_, w_is_order vs H Q E h⟩), F.bindsN fun _ _ _ _ _ _ us hl => match us, hl with | [_, _], _ => rfl, lk_of F⟩, F.kp, gm⟩
  · obtain ⟨F0, cs, x, y, h, _⟩ := h; exact Dts.len h
  · exact (pss_cons (ps_if (PW.pt (pw_or (pt_not (pt_val (pe_callB call_isi (by rfl) m_isinstance (by decide +kernel) (pa_cons (pv 0) (pa_cons (pe_bltn (v := .ty "tuple") (by rfl) m_tuple (by decide +kernel) rfl) pa_nil))))) (pw_or1 (pt_cmpR op_ne (pe_callB cr_lenL (by rfl) m_len PySem.boot_len (pa_cons (pv 0) pa_nil)) pe_int (nomark _))))) (pss_one (ps_ret pe_bl)) pss_nil) (pss_cons (ps_asg (pv 0) (pg_tup rfl (pgs_cons (pg_name (i := 2) sc_is_order.nd rfl (Or.inl rfl)) (pgs_cons (pg_name (i := 3) sc_is_order.nd rfl (Or.inl rfl)) (pgs_cons (pg_name (i := 4) sc_is_order.nd rfl (Or.inl rfl)) (pgs_cons (pg_name (i := 5) sc_is_order.nd rfl (Or.inl rfl)) pgs_nil)))))) (pss_cons (ps_if (PW.pt (pw_or (pt_not (pt_val (pe_call G_is_name (hr.mono (by decide)) (by rfl) gm_is_name kp_is_name bd_is_name .nil pass0 (pa_cons (pv 2) pa_nil)))) (pw_or1 (pt_not (pt_val (pe_call G_is_between (hr.mono (by decide)) (by rfl) gm_is_between kp_is_between bd_is_between .nil pass0 (pa_cons (pv 3) (pa_cons pe_int (pa_cons (pe_glob (v := .int 1000000000) (by rfl) c_LATEST ⟨_, rfl⟩) pa_nil))))))))) (pss_one (ps_ret pe_bl)) pss_nil) (pss_one (ps_ret (pe_and (pe_call G_is_between (hr.mono (by decide)) (by rfl) gm_is_between kp_is_between bd_is_between .nil pass0 (pa_cons (pv 4) (pa_cons pe_int (pa_cons (pv 1) pa_nil)))) (pe_and (pe_call G_is_between (hr.mono (by decide)) (by rfl) gm_is_between kp_is_between bd_is_between .nil pass0 (pa_cons (pv 5) (pa_cons pe_int (pa_cons (pv 1) pa_nil)))) (pe_one (pe_cmpR op_ne (pv 4) (pv 5) (nomark _))))))))))
abbrev s_look_at_orders : Stmt := (top 18)
def f_look_at_orders_b24 (aisle_1 : ((List Int) × Int)) : (Int × (List (Str × Bool))) → (Str × Int × Int × Int) → Option (Int × (List (Str × Bool))) := fun (latest_27, names_28) order_29 => (((f_is_order (order_29, (aisle_1.1.length : Int)))).bind fun x48 => (if (!x48) = true then none else (if (hasK names_28 order_29.1) = true then none else (if (decide (order_29.2.1 < latest_27)) = true then none else (((putM names_28 order_29.1 true)).bind fun names_77 => (letM order_29.2.1 fun latest_87 => some (latest_87, names_77)))))))
def f_look_at_orders : (((List Int) × Int) × (List (Str × Int × Int × Int))) → Option Unit := fun (aisle_1, thing_2) => (((f_look_at_aisle aisle_1)).bind fun x3 => (if ((!true) || (decide ((60 : Int) < (thing_2.length : Int)))) = true then none else (thing_2.foldlM (f_look_at_orders_b24 aisle_1) ((0 : Int), ([] : (List (Str × Bool))))).bind fun (latest_95, names_96) => some ()))
abbrev A_look_at_orders : (((List Int) × Int) × (List (Str × Int × Int × Int))) → List PyData := fun x => [(eT2 (eL eI) eI) x.1, (eL (eT4 eS eI eI eI)) x.2]
abbrev N_look_at_orders : List Str := ["aisle", "thing", "names", "latest", "order"]
abbrev sp_look_at_orders (K : PySem.W.Frag) : Sp := spP K A_look_at_orders eN f_look_at_orders
def t_look_at_orders (K : PySem.W.Frag) : TS := (tSeq (tDrop (tCall (sp_look_at_aisle K) [] E0 (tCons (tVar 0) tNil))) (tSeq (tIfS (tOr (tNot (tB (tCB (rIsi K) (tCons (tVar 1) (tCons (tC (.ty "list")) tNil))))) (tTest (tOp (rI0 fun i j => .bl (decide (j < i))) (tCB (rLenL K) (tCons (tVar 1) tNil)) (tC (.int 60))))) tNever tNext) (tSeq (tAsg tDNewK (gName 2)) (tSeq (tAsg (tC (.int 0)) (gName 3)) (tFor (iList K (tVar 1)) (gName 4) (tSeq (tIfS (tNot (tB (tCall (sp_is_order K) [] E0 (tCons (tVar 4) (tCons (tCB (rLenL K) (tCons (tOp (rIxT K) (tVar 0) (tC (.int 0))) tNil)) tNil))))) tNever tNext) (tSeq (tIfS (tB (tDIn (tOp (rIxT K) (tVar 4) (tC (.int 0))) (tVar 2))) tNever tNext) (tSeq (tIfS (tTest (tOp (rI0 fun i j => .bl (decide (i < j))) (tOp (rIxT K) (tVar 4) (tC (.int 1))) (tVar 3))) tNever tNext) (tSeq (sDPut (tVar 2) (tOp (rIxT K) (tVar 4) (tC (.int 0))) (tC (.bl true))) (tAsg (tOp (rIxT K) (tVar 4) (tC (.int 1))) (gName 3)))))))))))
theorem w_look_at_orders {K : PySem.W.Frag} (vs : List V) (H : Hp) (Q : VK) (E : XK) (h : sp_look_at_orders K vs H Q E) : t_look_at_orders K { nx := fun _ H' => Q .non H', rt := Q } (start N_look_at_orders vs) H := by
  obtain ⟨F0, cs, ⟨aisle_1, thing_2⟩, y, h, hS0, m, q⟩ := h
  obtain ⟨a0, _, rfl, ha0, h⟩ := Dts.hd h
  obtain ⟨a1, _, rfl, ha1, h⟩ := Dts.hd h
  obtain rfl := Dts.no h
  unfold f_look_at_orders at m
  try dsimp only at m
  unfold t_look_at_orders
  refine go (σ' := [some a0, some a1, none, none, none]) rfl ?_
  obtain ⟨x3, k4, m⟩ := bnd m
  refine s_drop (K := K) (d := eN x3) hS0 (d_call (A := A_look_at_aisle) (B := eN) (x := aisle_1) (a_cons (d_var rfl ha0) a_nil) k4) (fun F5 H6 g7 hS8 => ?_)
  refine s_if (b := ((!true) || (decide ((60 : Int) < (thing_2.length : Int))))) hS8 (t_orP (t_not (t_B (K := K) (d_is (e := PyData.bool true) (d_isiD (c := "list") (by decide) (d_var rfl (Dt.gr g7 ha1))) (congrArg PyData.bool (by rfl))))) (fun hc => (t_test (K := K) (d_gt (d_len (e := (eT4 eS eI eI eI)) (a_cons (d_var rfl (Dt.gr g7 ha1)) a_nil)) d_int)))) (fun hc F9 H10 g11 hS12 => ?_) (fun hc F13 H14 g15 hS16 => ?_)
  · rw [if_pos hc] at m
    cases m
  · rw [if_neg (bf hc)] at m
    refine nxt ?_
    refine s_setDict (kf := kS) (vf := V.bl) (σ' := fun p17 => [some a0, some a1, some (.ref p17), none, none]) hS16 (fun _ => rfl) (fun p17 H18 hS19 => ?_)
    refine s_setV (K := K) (d := eI (0 : Int)) (i := 3) (σ' := [some a0, some a1, some (.ref p17), some (.int (0 : Int)), none]) (fun _ _ h => Dt.toInt h) hS19 d_int rfl (fun F20 H21 g22 hS23 => ?_)
    obtain ⟨⟨latest_95, names_96⟩, k26, m⟩ := bnd m
    try dsimp only at m
    refine s_for (K := K) (xs := thing_2) (en := (eT4 eS eI eI eI)) (body := (f_look_at_orders_b24 aisle_1)) (s0 := ((0 : Int), ([] : (List (Str × Bool))))) (r := (latest_95, names_96)) (fun (a : Int × (List (Str × Bool))) F σ c => ∃ (j4 : Option V), σ = [some a0, some a1, some (.ref p17), some (.int a.1), j4] ∧ (p17, .dK (kvE kS V.bl a.2)) :: cs = c) hS23 (i_list (en := (eT4 eS eI eI eI)) (d_var rfl (Dt.gr (Gr.tr g7 (Gr.tr g15 g22)) ha1))) (fun _ _ => ⟨_, rfl, rfl⟩) k26 ?_ ?_
    · rintro order_29 ⟨latest_27, names_28⟩ b38 F30 F31 σ44 c45 H32 v37 N39 g33 ⟨u47, rfl, rfl⟩ g34 hS35 hv36 m46 hN41
      refine tg (σ' := [some a0, some a1, some (.ref p17), some (.int latest_27), some v37]) (fun Q hq => hq) ?_
      unfold f_look_at_orders_b24 at m46
      try dsimp only at m46
      obtain ⟨x48, k49, m46⟩ := bnd m46
      refine s_if (b := (!x48)) hS35 (t_not (t_B (K := K) (d_call (A := A_is_order) (B := eB) (x := (order_29, (aisle_1.1.length : Int))) (a_cons (d_var rfl hv36) (a_cons (d_len (e := eI) (a_cons (d_ixT (d_var rfl (Dt.gr (Gr.tr g7 (Gr.tr g15 (Gr.tr g22 (Gr.tr g33 g34)))) ha0)) d_int rfl) a_nil)) a_nil)) k49))) (fun hc F50 H51 g52 hS53 => ?_) (fun hc F54 H55 g56 hS57 => ?_)
      · rw [if_pos hc] at m46
        cases m46
      · rw [if_neg (bf hc)] at m46
        refine nxt ?_
        refine s_if (b := (hasK names_28 order_29.1)) hS57 (t_lendX (l1 := []) (m1 := []) (fun F58 g59 hn60 => (t_B (K := K) (d_din kf_S (d_ixT (d_var rfl (Dt.gr (Gr.tr g56 (Gr.tr g59 (Gr.new hn60))) hv36)) d_int rfl) (vp_var rfl) upd_same)))) (fun hc F61 H62 g63 hS64 => ?_) (fun hc F65 H66 g67 hS68 => ?_)
        · rw [if_pos hc] at m46
          cases m46
        · rw [if_neg (bf hc)] at m46
          refine nxt ?_
          refine s_if (b := (decide (order_29.2.1 < latest_27))) hS68 (t_test (K := K) (d_lt (d_ixT (d_var rfl (Dt.gr (Gr.tr g56 g67) hv36)) d_int rfl) (d_var rfl (.int _)))) (fun hc F69 H70 g71 hS72 => ?_) (fun hc F73 H74 g75 hS76 => ?_)
          · rw [if_pos hc] at m46
            cases m46
          · rw [if_neg (bf hc)] at m46
            refine nxt ?_
            obtain ⟨names_77, k78, m46⟩ := bnd m46
            refine s_dput (K := K) (k1 := []) (m1 := []) (l1 := []) (p := p17) (kf := kS) (vf := V.bl) (ek := eS) (ev := eB) (x := true) kf_S (fun _ _ _ h => Dt.toBl h) hS76 d_bl (vp_var rfl) (d_ixT (d_var rfl (Dt.gr (Gr.tr g56 (Gr.tr g67 g75)) hv36)) d_int rfl) k78 (fun F79 H80 g81 hS82 => ?_)
            obtain ⟨latest_87, k88, m46⟩ := lt m46
            refine s_setV (K := K) (d := eI latest_87) (i := 3) (σ' := [some a0, some a1, some (.ref p17), some (.int latest_87), some v37]) (fun _ _ h => Dt.toInt h) hS82 (d_is (d_ixT (d_var rfl (Dt.gr (Gr.tr g56 (Gr.tr g67 (Gr.tr g75 g81))) hv36)) d_int rfl) (congrArg eI k88)) rfl (fun F83 H84 g85 hS86 => ?_)
            obtain rfl := sm m46
            exact hN41 _ _ _ _ (Gr.tr g56 (Gr.tr g67 (Gr.tr g75 (Gr.tr g81 g85)))) hS86 ⟨_, rfl, rfl⟩
    · rintro F89 σ94 c93 H90 g91 hS92 ⟨u97, rfl, rfl⟩
      have hS98 := Sta.frozeAt (l1 := []) hS92
      obtain rfl := sm m
      exact q _ _ _ (Gr.tr g7 (Gr.tr g15 (Gr.tr g22 (Gr.tr g91 (Gr.new (Sta.freeAt (l1 := []) hS92)))))) hS98 Dt.non
theorem sc_look_at_orders : FnScope N_look_at_orders ["aisle", "thing"] (defScope s_look_at_orders) := ⟨rfl, rfl, rfl, by decide +kernel, rfl, by decide +kernel, by decide +kernel⟩
theorem ok_look_at_orders {P : Program} {w : World} {K : PySem.W.Frag} {mg : Str → Option Value} {base : Heap} (hF : Df K mg "look_at_orders" s_look_at_orders) (m_isinstance : mg "isinstance" = none) (m_len : mg "len" = none) (m_list : mg "list" = none) (c_MOST_ORDERS : ∃ t, mg "MOST_ORDERS" = some (.int 60 t)) (o_is_order : Ok P w K mg base 3 "is_order" ["thing", "last"] (sp_is_order K)) (o_look_at_aisle : Ok P w K mg base 3 "look_at_aisle" ["thing"] (sp_look_at_aisle K)) : Ok P w K mg base 4 "look_at_orders" ["aisle", "thing"] (sp_look_at_orders K) := by
  obtain ⟨_, c_MOST_ORDERS⟩ := c_MOST_ORDERS
  obtain ⟨⟨_, G_is_order, bd_is_order, _⟩, kp_is_order, gm_is_order⟩ := o_is_order
  obtain ⟨⟨_, G_look_at_aisle, bd_look_at_aisle, _⟩, kp_look_at_aisle, gm_look_at_aisle⟩ := o_look_at_aisle
  obtain ⟨⟨fd, F⟩, gm⟩ := hF
  refine ⟨⟨fd, F.ok sc_look_at_orders (fun vs H Q E h => ?_) (fun cdv A outer s H vs Q E hr h => ⟨t_look_at_orders K, PSs.nox ?_, w_look_at_orders vs H Q E h⟩), F.bindsN fun _ _ _ _ _ _ us hl => match us, hl with | [_, _], _ => rfl, lk_of F⟩, F.kp, gm⟩
  · obtain ⟨F0, cs, x, y, h, _⟩ := h; exact Dts.len h
  · exact (pss_cons (ps_expr (pe_call G_look_at_aisle (hr.mono (by decide)) (by rfl) gm_look_at_aisle kp_look_at_aisle bd_look_at_aisle .nil pass0 (pa_cons (pv 0) pa_nil))) (pss_cons (ps_if (PW.pt (pw_or (pt_not (pt_val (pe_callB call_isi (by rfl) m_isinstance (by decide +kernel) (pa_cons (pv 1) (pa_cons (pe_bltn (v := .ty "list") (by rfl) m_list (by decide +kernel) rfl) pa_nil))))) (pw_or1 (pt_cmpR op_gt (pe_callB cr_lenL (by rfl) m_len PySem.boot_len (pa_cons (pv 1) pa_nil)) (pe_glob (v := .int 60) (by rfl) c_MOST_ORDERS ⟨_, rfl⟩) (nomark _))))) (pss_one ps_never) pss_nil) (pss_cons (ps_set (i := 2) sc_look_at_orders.nd rfl (Or.inl rfl) pe_dnewK) (pss_cons (ps_set (i := 3) sc_look_at_orders.nd rfl (Or.inl rfl) pe_int) (pss_one (ps_for PassesOwn.never rfl (pi_list (pv 1)) (pg_name (i := 4) sc_look_at_orders.nd rfl (Or.inl rfl)) (pss_cons (ps_if (pt_not (pt_val (pe_call G_is_order (hr.mono (by decide)) (by rfl) gm_is_order kp_is_order bd_is_order .nil pass0 (pa_cons (pv 4) (pa_cons (pe_callB cr_lenL (by rfl) m_len PySem.boot_len (pa_cons (pe_ix ix_tup (pv 0) pe_int (fun _ _ => rfl)) pa_nil)) pa_nil))))) (pss_one ps_never) pss_nil) (pss_cons (ps_if (pt_cmp (pc_din (hu_of hr) (pe_ix ix_tup (pv 4) pe_int (fun _ _ => rfl)) (pv 2))) (pss_one ps_never) pss_nil) (pss_cons (ps_if (pt_cmpR op_lt (pe_ix ix_tup (pv 4) pe_int (fun _ _ => rfl)) (pv 3) (nomark _)) (pss_one ps_never) pss_nil) (pss_cons (ps_dput (hu_of hr) (pv 2) (pe_ix ix_tup (pv 4) pe_int (fun _ _ => rfl)) pe_bl rfl) (pss_one (ps_set (i := 3) sc_look_at_orders.nd rfl (Or.inl rfl) (pe_ix ix_tup (pv 4) pe_int (fun _ _ => rfl))))))))))))))
abbrev s_Tour : Stmt := ((clsB (top 23)).getD 0 (.Pass ⟨0, 0, 0, 0⟩))
def f_Tour : (((List Int) × Int) × (List (Str × Int × Int × Int))) → Option T_Tour := fun (aisle_1, orders_2) => (((repM ([(none : Option Int)] : (List (Option Int))) (orders_2.length : Int))).bind fun x19 => (((repM ([(none : Option Int)] : (List (Option Int))) (orders_2.length : Int))).bind fun x30 => (letM (orders_2.length : Int) fun x41 => (letM ([] : (List Int)) fun x73 => some (aisle_1, orders_2, x19, x30, x41, (0 : Int), ([] : (List ((Int × Bool) × (List Int)))), (0 : Int), x73, (0 : Int), (0 : Int), true)))))
abbrev N_Tour : List Str := ["self", "aisle", "orders"]
abbrev A_Tour : (((List Int) × Int) × (List (Str × Int × Int × Int))) → List PyData := fun x => [(eT2 (eL eI) eI) x.1, (eL (eT4 eS eI eI eI)) x.2]
abbrev sp_Tour (K : PySem.W.Frag) : Sp := spMk K (He.ga K "Tour") A_Tour (O_Tour K) f_Tour
def t_Tour (K : PySem.W.Frag) : TS := (tSeq (sFld K (tVar 0) (tVar 1) "aisle") (tSeq (sFld K (tVar 0) (tVar 2) "orders") (tSeq (sFld K (tVar 0) (tOp rRep (tLst (tCons (tC .non) tNil)) (tCB (rLenL K) (tCons (tVar 2) tNil))) "taken") (tSeq (sFld K (tVar 0) (tOp rRep (tLst (tCons (tC .non) tNil)) (tCB (rLenL K) (tCons (tVar 2) tNil))) "homes") (tSeq (sFld K (tVar 0) (tCB (rLenL K) (tCons (tVar 2) tNil)) "many") (tSeq (sFld K (tVar 0) (tC (.int 0)) "come") (tSeq (sFld K (tVar 0) tDNewL "lines") (tSeq (sFld K (tVar 0) (tC (.int 0)) "queued") (tSeq (sFld K (tVar 0) (tLst tNil) "riding") (tSeq (sFld K (tVar 0) (tC (.int 0)) "tick") (tSeq (sFld K (tVar 0) (tC (.int 0)) "bay") (sFld K (tVar 0) (tC (.bl true)) "upward"))))))))))))
theorem w_Tour {K : PySem.W.Frag} (cl_Tour : Cls K (He.ga K "Tour")) (na_Tour_aisle : NoAttr K (He.ga K "Tour") "aisle") (na_Tour_bay : NoAttr K (He.ga K "Tour") "bay") (na_Tour_come : NoAttr K (He.ga K "Tour") "come") (na_Tour_homes : NoAttr K (He.ga K "Tour") "homes") (na_Tour_lines : NoAttr K (He.ga K "Tour") "lines") (na_Tour_many : NoAttr K (He.ga K "Tour") "many") (na_Tour_orders : NoAttr K (He.ga K "Tour") "orders") (na_Tour_queued : NoAttr K (He.ga K "Tour") "queued") (na_Tour_riding : NoAttr K (He.ga K "Tour") "riding") (na_Tour_taken : NoAttr K (He.ga K "Tour") "taken") (na_Tour_tick : NoAttr K (He.ga K "Tour") "tick") (na_Tour_upward : NoAttr K (He.ga K "Tour") "upward") (vs : List V) (H : Hp) (Q : VK) (E : XK) (h : sp_Tour K vs H Q E) : t_Tour K { nx := fun _ H' => Q .non H', rt := Q } (start N_Tour vs) H := by
  obtain ⟨F0, cs, z0, dx0, ws, ⟨aisle_1, orders_2⟩, y, rfl, h, hS0, m, q⟩ := h
  obtain ⟨a0, _, rfl, ha0, h⟩ := Dts.hd h
  obtain ⟨a1, _, rfl, ha1, h⟩ := Dts.hd h
  obtain rfl := Dts.no h
  have hS1 : Sta F0 ((z0, .ins (He.ga K "Tour") dx0 []) :: (dx0, .own z0) :: cs) H := hS0
  unfold f_Tour at m
  try dsimp only at m
  unfold t_Tour
  refine go (σ' := [some (.ref z0), some a0, some a1]) rfl ?_
  refine s_fldO ?_
  refine o_d (K := K) (d := (eT2 (eL eI) eI) aisle_1) hS1 (d_var rfl ha0) (fun v7 F3 H4 g5 hS6 hv8 => ?_)
  refine o_fld (σ := [some (.ref z0), some a0, some a1]) (ta := (tVar 0)) (l1 := []) (fs' := [("aisle", v7)]) hS6 (vp_var rfl) cl_Tour na_Tour_aisle (Nat.le_of_ble_eq_true rfl) rfl (fun H9 hS10 => ?_)
  refine s_fldO ?_
  refine o_d (K := K) (d := (eL (eT4 eS eI eI eI)) orders_2) hS10 (d_var rfl (Dt.gr g5 ha1)) (fun v15 F11 H12 g13 hS14 hv16 => ?_)
  refine o_fld (σ := [some (.ref z0), some a0, some a1]) (ta := (tVar 0)) (l1 := []) (fs' := [("aisle", v7), ("orders", v15)]) hS14 (vp_var rfl) cl_Tour na_Tour_orders (Nat.le_of_ble_eq_true rfl) rfl (fun H17 hS18 => ?_)
  refine s_fldO ?_
  obtain ⟨x19, k20, m⟩ := bnd m
  refine o_c (K := K) (ds := x19.map (eO eI)) hS18 (c_rep (en := (eO eI)) (c_lst (a_cons d_non a_nil) (Nat.le_of_ble_eq_true rfl)) (fun _ => (d_len (e := (eT4 eS eI eI eI)) (a_cons (d_var rfl (Dt.gr (Gr.tr g5 g13) ha1)) a_nil))) k20) (fun p25 us26 F21 H22 g23 hS24 hu27 => ?_)
  refine o_fld (σ := [some (.ref z0), some a0, some a1]) (ta := (tVar 0)) (l1 := [(p25, .lst us26)]) (fs' := [("aisle", v7), ("orders", v15), ("taken", (.ref p25))]) hS24 (vp_var rfl) cl_Tour na_Tour_taken (Nat.le_of_ble_eq_true rfl) rfl (fun H28 hS29 => ?_)
  refine s_fldO ?_
  obtain ⟨x30, k31, m⟩ := bnd m
  refine o_c (K := K) (ds := x30.map (eO eI)) hS29 (c_rep (en := (eO eI)) (c_lst (a_cons d_non a_nil) (Nat.le_of_ble_eq_true rfl)) (fun _ => (d_len (e := (eT4 eS eI eI eI)) (a_cons (d_var rfl (Dt.gr (Gr.tr g5 (Gr.tr g13 g23)) ha1)) a_nil))) k31) (fun p36 us37 F32 H33 g34 hS35 hu38 => ?_)
  refine o_fld (σ := [some (.ref z0), some a0, some a1]) (ta := (tVar 0)) (l1 := [(p36, .lst us37), (p25, .lst us26)]) (fs' := [("aisle", v7), ("orders", v15), ("taken", (.ref p25)), ("homes", (.ref p36))]) hS35 (vp_var rfl) cl_Tour na_Tour_homes (Nat.le_of_ble_eq_true rfl) rfl (fun H39 hS40 => ?_)
  refine s_fldO ?_
  obtain ⟨x41, k42, m⟩ := lt m
  refine o_d (K := K) (d := eI x41) hS40 (d_is (d_len (e := (eT4 eS eI eI eI)) (a_cons (d_var rfl (Dt.gr (Gr.tr g5 (Gr.tr g13 (Gr.tr g23 g34))) ha1)) a_nil)) (congrArg eI k42)) (fun v47 F43 H44 g45 hS46 hv48 => ?_)
  obtain rfl := Dt.toInt hv48
  refine o_fld (σ := [some (.ref z0), some a0, some a1]) (ta := (tVar 0)) (l1 := [(p36, .lst us37), (p25, .lst us26)]) (fs' := [("aisle", v7), ("orders", v15), ("taken", (.ref p25)), ("homes", (.ref p36)), ("many", (.int x41))]) hS46 (vp_var rfl) cl_Tour na_Tour_many (Nat.le_of_ble_eq_true rfl) rfl (fun H49 hS50 => ?_)
  refine s_fldO ?_
  refine o_d (K := K) (d := eI (0 : Int)) hS50 d_int (fun v55 F51 H52 g53 hS54 hv56 => ?_)
  obtain rfl := Dt.toInt hv56
  refine o_fld (σ := [some (.ref z0), some a0, some a1]) (ta := (tVar 0)) (l1 := [(p36, .lst us37), (p25, .lst us26)]) (fs' := [("aisle", v7), ("orders", v15), ("taken", (.ref p25)), ("homes", (.ref p36)), ("many", (.int x41)), ("come", (.int (0 : Int)))]) hS54 (vp_var rfl) cl_Tour na_Tour_come (Nat.le_of_ble_eq_true rfl) rfl (fun H57 hS58 => ?_)
  refine s_fldO ?_
  refine o_dnewL hS58 (fun p59 H60 hS61 => ?_)
  have hS62 : Sta F51 ((p59, dlO p59 (lnsD ([] : List Ln))) :: (p36, .lst us37) :: (p25, .lst us26) :: (z0, .ins (He.ga K "Tour") dx0 [("aisle", v7), ("orders", v15), ("taken", (.ref p25)), ("homes", (.ref p36)), ("many", (.int x41)), ("come", (.int (0 : Int)))]) :: (dx0, .own z0) :: (lnsC ([] : List Ln) ++ cs)) H60 := hS61
  refine o_fld (σ := [some (.ref z0), some a0, some a1]) (ta := (tVar 0)) (l1 := [(p59, dlO p59 (lnsD ([] : List Ln))), (p36, .lst us37), (p25, .lst us26)]) (fs' := [("aisle", v7), ("orders", v15), ("taken", (.ref p25)), ("homes", (.ref p36)), ("many", (.int x41)), ("come", (.int (0 : Int))), ("lines", (.ref p59))]) hS62 (vp_var rfl) cl_Tour na_Tour_lines (Nat.le_of_ble_eq_true rfl) rfl (fun H63 hS64 => ?_)
  refine s_fldO ?_
  refine o_d (K := K) (d := eI (0 : Int)) hS64 d_int (fun v69 F65 H66 g67 hS68 hv70 => ?_)
  obtain rfl := Dt.toInt hv70
  refine o_fld (σ := [some (.ref z0), some a0, some a1]) (ta := (tVar 0)) (l1 := [(p59, dlO p59 (lnsD ([] : List Ln))), (p36, .lst us37), (p25, .lst us26)]) (fs' := [("aisle", v7), ("orders", v15), ("taken", (.ref p25)), ("homes", (.ref p36)), ("many", (.int x41)), ("come", (.int (0 : Int))), ("lines", (.ref p59)), ("queued", (.int (0 : Int)))]) hS68 (vp_var rfl) cl_Tour na_Tour_queued (Nat.le_of_ble_eq_true rfl) rfl (fun H71 hS72 => ?_)
  refine s_fldO ?_
  obtain ⟨x73, k74, m⟩ := lt m
  refine o_c (K := K) (ds := x73.map eI) hS72 (c_is (c_lst a_nil (Nat.le_of_ble_eq_true rfl)) (congrArg (List.map eI) k74)) (fun p79 us80 F75 H76 g77 hS78 hu81 => ?_)
  obtain rfl := Dts.ints hu81
  refine o_fld (σ := [some (.ref z0), some a0, some a1]) (ta := (tVar 0)) (l1 := [(p79, .lst (x73.map V.int)), (p59, dlO p59 (lnsD ([] : List Ln))), (p36, .lst us37), (p25, .lst us26)]) (fs' := [("aisle", v7), ("orders", v15), ("taken", (.ref p25)), ("homes", (.ref p36)), ("many", (.int x41)), ("come", (.int (0 : Int))), ("lines", (.ref p59)), ("queued", (.int (0 : Int))), ("riding", (.ref p79))]) hS78 (vp_var rfl) cl_Tour na_Tour_riding (Nat.le_of_ble_eq_true rfl) rfl (fun H82 hS83 => ?_)
  refine s_fldO ?_
  refine o_d (K := K) (d := eI (0 : Int)) hS83 d_int (fun v88 F84 H85 g86 hS87 hv89 => ?_)
  obtain rfl := Dt.toInt hv89
  refine o_fld (σ := [some (.ref z0), some a0, some a1]) (ta := (tVar 0)) (l1 := [(p79, .lst (x73.map V.int)), (p59, dlO p59 (lnsD ([] : List Ln))), (p36, .lst us37), (p25, .lst us26)]) (fs' := [("aisle", v7), ("orders", v15), ("taken", (.ref p25)), ("homes", (.ref p36)), ("many", (.int x41)), ("come", (.int (0 : Int))), ("lines", (.ref p59)), ("queued", (.int (0 : Int))), ("riding", (.ref p79)), ("tick", (.int (0 : Int)))]) hS87 (vp_var rfl) cl_Tour na_Tour_tick (Nat.le_of_ble_eq_true rfl) rfl (fun H90 hS91 => ?_)
  refine s_fldO ?_
  refine o_d (K := K) (d := eI (0 : Int)) hS91 d_int (fun v96 F92 H93 g94 hS95 hv97 => ?_)
  obtain rfl := Dt.toInt hv97
  refine o_fld (σ := [some (.ref z0), some a0, some a1]) (ta := (tVar 0)) (l1 := [(p79, .lst (x73.map V.int)), (p59, dlO p59 (lnsD ([] : List Ln))), (p36, .lst us37), (p25, .lst us26)]) (fs' := [("aisle", v7), ("orders", v15), ("taken", (.ref p25)), ("homes", (.ref p36)), ("many", (.int x41)), ("come", (.int (0 : Int))), ("lines", (.ref p59)), ("queued", (.int (0 : Int))), ("riding", (.ref p79)), ("tick", (.int (0 : Int))), ("bay", (.int (0 : Int)))]) hS95 (vp_var rfl) cl_Tour na_Tour_bay (Nat.le_of_ble_eq_true rfl) rfl (fun H98 hS99 => ?_)
  refine s_fldO ?_
  refine o_d (K := K) (d := eB true) hS99 d_bl (fun v104 F100 H101 g102 hS103 hv105 => ?_)
  obtain rfl := Dt.toBl hv105
  refine o_fld (σ := [some (.ref z0), some a0, some a1]) (ta := (tVar 0)) (l1 := [(p79, .lst (x73.map V.int)), (p59, dlO p59 (lnsD ([] : List Ln))), (p36, .lst us37), (p25, .lst us26)]) (fs' := [("aisle", v7), ("orders", v15), ("taken", (.ref p25)), ("homes", (.ref p36)), ("many", (.int x41)), ("come", (.int (0 : Int))), ("lines", (.ref p59)), ("queued", (.int (0 : Int))), ("riding", (.ref p79)), ("tick", (.int (0 : Int))), ("bay", (.int (0 : Int))), ("upward", (.bl true))]) hS103 (vp_var rfl) cl_Tour na_Tour_upward (Nat.le_of_ble_eq_true rfl) rfl (fun H106 hS107 => ?_)
  have hS108 := Sta.perm hS107 (List.Perm.trans (List.perm_middle (l₁ := [(p79, HO.lst (x73.map V.int))])) (List.Perm.trans (List.perm_middle (l₁ := [(p59, dlO p59 (lnsD ([] : List Ln))), (p79, HO.lst (x73.map V.int))])) (List.Perm.trans (List.perm_middle (l₁ := [(p36, HO.lst us37), (p59, dlO p59 (lnsD ([] : List Ln))), (p79, HO.lst (x73.map V.int))])) (List.Perm.trans (List.perm_middle (l₁ := [(p25, HO.lst us26), (p36, HO.lst us37), (p59, dlO p59 (lnsD ([] : List Ln))), (p79, HO.lst (x73.map V.int)), (z0, HO.ins (He.ga K "Tour") dx0 [("aisle", v7), ("orders", v15), ("taken", (.ref p25)), ("homes", (.ref p36)), ("many", (.int x41)), ("come", (.int (0 : Int))), ("lines", (.ref p59)), ("queued", (.int (0 : Int))), ("riding", (.ref p79)), ("tick", (.int (0 : Int))), ("bay", (.int (0 : Int))), ("upward", (.bl true))])])) (List.perm_middle (l₁ := [(dx0, HO.own z0), (p25, HO.lst us26), (p36, HO.lst us37), (p59, dlO p59 (lnsD ([] : List Ln))), (p79, HO.lst (x73.map V.int))]))))))
  obtain rfl := sm m
  exact q ([(z0, HO.ins (He.ga K "Tour") dx0 [("aisle", v7), ("orders", v15), ("taken", (.ref p25)), ("homes", (.ref p36)), ("many", (.int x41)), ("come", (.int (0 : Int))), ("lines", (.ref p59)), ("queued", (.int (0 : Int))), ("riding", (.ref p79)), ("tick", (.int (0 : Int))), ("bay", (.int (0 : Int))), ("upward", (.bl true))]), (dx0, HO.own z0), (p25, HO.lst us26), (p36, HO.lst us37), (p59, dlO p59 (lnsD ([] : List Ln))), (p79, HO.lst (x73.map V.int))] ++ lnsC ([] : List Ln)) _ _ (Gr.tr g5 (Gr.tr g13 (Gr.tr g23 (Gr.tr g34 (Gr.tr g45 (Gr.tr g53 (Gr.tr g67 (Gr.tr g77 (Gr.tr g86 (Gr.tr g94 g102)))))))))) hS108 ⟨_, _, _, _, _, _, _, _, _, _, rfl, (Dt.gr (Gr.tr g13 (Gr.tr g23 (Gr.tr g34 (Gr.tr g45 (Gr.tr g53 (Gr.tr g67 (Gr.tr g77 (Gr.tr g86 (Gr.tr g94 g102))))))))) hv8), (Dt.gr (Gr.tr g23 (Gr.tr g34 (Gr.tr g45 (Gr.tr g53 (Gr.tr g67 (Gr.tr g77 (Gr.tr g86 (Gr.tr g94 g102)))))))) hv16), (Dts.gr (Gr.tr g34 (Gr.tr g45 (Gr.tr g53 (Gr.tr g67 (Gr.tr g77 (Gr.tr g86 (Gr.tr g94 g102))))))) hu27), (Dts.gr (Gr.tr g45 (Gr.tr g53 (Gr.tr g67 (Gr.tr g77 (Gr.tr g86 (Gr.tr g94 g102)))))) hu38), (LnOk.gr (Gr.tr g67 (Gr.tr g77 (Gr.tr g86 (Gr.tr g94 g102)))) LnOk.nil), rfl⟩
theorem sc_Tour : FnScope N_Tour ["self", "aisle", "orders"] (defScope s_Tour) := ⟨rfl, rfl, rfl, by decide +kernel, rfl, by decide +kernel, by decide +kernel⟩
theorem ok_Tour {P : Program} {w : World} {K : PySem.W.Frag} {mg : Str → Option Value} {base : Heap} (hF : DfM K "Tour" "__init__" "Tour.__init__" s_Tour) (gmM : mg "Tour" = some (.ref (He.ga K "Tour"))) (mkM : Mk K (He.ga K "Tour") (He.ma K (He.ga K "Tour") "__init__")) (m_len : mg "len" = none) (cl_Tour : Cls K (He.ga K "Tour")) (na_Tour_aisle : NoAttr K (He.ga K "Tour") "aisle") (na_Tour_bay : NoAttr K (He.ga K "Tour") "bay") (na_Tour_come : NoAttr K (He.ga K "Tour") "come") (na_Tour_homes : NoAttr K (He.ga K "Tour") "homes") (na_Tour_lines : NoAttr K (He.ga K "Tour") "lines") (na_Tour_many : NoAttr K (He.ga K "Tour") "many") (na_Tour_orders : NoAttr K (He.ga K "Tour") "orders") (na_Tour_queued : NoAttr K (He.ga K "Tour") "queued") (na_Tour_riding : NoAttr K (He.ga K "Tour") "riding") (na_Tour_taken : NoAttr K (He.ga K "Tour") "taken") (na_Tour_tick : NoAttr K (He.ga K "Tour") "tick") (na_Tour_upward : NoAttr K (He.ga K "Tour") "upward") : OkMk P w K mg base CX0 1 "Tour" ["self", "aisle", "orders"] (sp_Tour K) := by
  obtain ⟨fd, F⟩ := hF
  refine ⟨⟨fd, F.ok sc_Tour (fun vs H Q E h => ?_) (fun cdv A outer s H vs Q E hr h => ⟨t_Tour K, PSs.nox ?_, w_Tour cl_Tour na_Tour_aisle na_Tour_bay na_Tour_come na_Tour_homes na_Tour_lines na_Tour_many na_Tour_orders na_Tour_queued na_Tour_riding na_Tour_taken na_Tour_tick na_Tour_upward vs H Q E h⟩), F.bindsN fun _ _ _ _ _ _ us hl => match us, hl with | [_, _, _], _ => rfl⟩, gmM, mkM⟩
  · obtain ⟨F0, cs, a, dx, ws, x, y, rfl, h, _⟩ := h; exact congrArg Nat.succ (Dts.len h)
  · exact (pss_cons (ps_fld (pv 0) (pv 1) rfl) (pss_cons (ps_fld (pv 0) (pv 2) rfl) (pss_cons (ps_fld (pv 0) (pe_op op_rep (pe_lst (pa_cons pe_non pa_nil)) (pe_callB cr_lenL (by rfl) m_len PySem.boot_len (pa_cons (pv 2) pa_nil))) rfl) (pss_cons (ps_fld (pv 0) (pe_op op_rep (pe_lst (pa_cons pe_non pa_nil)) (pe_callB cr_lenL (by rfl) m_len PySem.boot_len (pa_cons (pv 2) pa_nil))) rfl) (pss_cons (ps_fld (pv 0) (pe_callB cr_lenL (by rfl) m_len PySem.boot_len (pa_cons (pv 2) pa_nil)) rfl) (pss_cons (ps_fld (pv 0) pe_int rfl) (pss_cons (ps_fld (pv 0) pe_dnewL rfl) (pss_cons (ps_fld (pv 0) pe_int rfl) (pss_cons (ps_fld (pv 0) (pe_lst pa_nil) rfl) (pss_cons (ps_fld (pv 0) pe_int rfl) (pss_cons (ps_fld (pv 0) pe_int rfl) (pss_one (ps_fld (pv 0) pe_bl rfl)))))))))))))
abbrev s_round_of : Stmt := (top 21)
def f_round_of : ((List Int) × Int) → Option Int := fun aisle_1 => some ((2 : Int) * (aisle_1.1).sum)
abbrev A_round_of : ((List Int) × Int) → List PyData := fun x => [(eT2 (eL eI) eI) x]
abbrev N_round_of : List Str := ["aisle"]
abbrev sp_round_of (K : PySem.W.Frag) : Sp := spP K A_round_of eI f_round_of
def t_round_of (K : PySem.W.Frag) : TS := (tRet (tOp (rI CMul fun i j => .int (i * j)) (tC (.int 2)) (tCB (rSum K) (tCons (tOp (rIxT K) (tVar 0) (tC (.int 0))) tNil))))
theorem w_round_of {K : PySem.W.Frag} (vs : List V) (H : Hp) (Q : VK) (E : XK) (h : sp_round_of K vs H Q E) : t_round_of K { nx := fun _ H' => Q .non H', rt := Q } (start N_round_of vs) H := by
  obtain ⟨F0, cs, aisle_1, y, h, hS0, m, q⟩ := h
  obtain ⟨a0, _, rfl, ha0, h⟩ := Dts.hd h
  obtain rfl := Dts.no h
  unfold f_round_of at m
  try dsimp only at m
  unfold t_round_of
  refine go (σ' := [some a0]) rfl ?_
  refine s_ret (K := K) (d := eI ((2 : Int) * (aisle_1.1).sum)) hS0 (d_mulC d_int (d_sum (a_cons (d_ixT (d_var rfl ha0) d_int rfl) a_nil)) (.inl ⟨by decide, by decide⟩)) (fun v6 F2 H3 g4 hS5 hv7 => ?_)
  obtain rfl := sm m
  exact q _ _ _ g4 hS5 hv7
theorem sc_round_of : FnScope N_round_of ["aisle"] (defScope s_round_of) := ⟨rfl, rfl, rfl, by decide +kernel, rfl, by decide +kernel, by decide +kernel⟩
theorem ok_round_of {P : Program} {w : World} {K : PySem.W.Frag} {mg : Str → Option Value} {base : Heap} (hF : Df K mg "round_of" s_round_of) (m_sum : mg "sum" = none) : Ok P w K mg base 1 "round_of" ["aisle"] (sp_round_of K) := by
  obtain ⟨⟨fd, F⟩, gm⟩ := hF
  refine ⟨⟨fd, F.ok sc_round_of (fun vs H Q E h => ?_) (fun cdv A outer s H vs Q E hr h => ⟨t_round_of K, PSs.nox ?_, w_round_of vs H Q E h⟩), F.bindsN fun _ _ _ _ _ _ us hl => match us, hl with | [_], _ => rfl, lk_of F⟩, F.kp, gm⟩
  · obtain ⟨F0, cs, x, y, h, _⟩ := h; exact Dts.len h
  · exact (pss_one (ps_ret (pe_op op_mul pe_int (pe_callB (cr_sum rfl) (by rfl) m_sum (by decide +kernel) (pa_cons (pe_ix ix_tup (pv 0) pe_int (fun _ _ => rfl)) pa_nil)))))
abbrev s_Tour_skip : Stmt := ((clsB (top 23)).getD 1 (.Pass ⟨0, 0, 0, 0⟩))
def f_Tour_skip : T_Tour → Option (Unit × T_Tour) := fun self_1 => (if ((decide (self_1.2.2.2.2.2.2.2.1 = (0 : Int))) && (decide (self_1.2.2.2.2.2.2.2.2.1 = ([] : (List Int))))) = true then (((atI self_1.2.1 self_1.2.2.2.2.2.1)).bind fun x25 => letM (maxI (0 : Int) (x25.2.1 - self_1.2.2.2.2.2.2.2.2.2.1)) fun ahead_31 => (((f_round_of self_1.1)).bind fun x33 => (((fdivM ahead_31 x33)).bind fun x39 => ((mulM x39 x33)).bind fun x41 => letM (self_1.2.2.2.2.2.2.2.2.2.1 + x41) fun tick_43 => some ((), (self_1.1, self_1.2.1, self_1.2.2.1, self_1.2.2.2.1, self_1.2.2.2.2.1, self_1.2.2.2.2.2.1, self_1.2.2.2.2.2.2.1, self_1.2.2.2.2.2.2.2.1, self_1.2.2.2.2.2.2.2.2.1, tick_43, self_1.2.2.2.2.2.2.2.2.2.2.1, self_1.2.2.2.2.2.2.2.2.2.2.2))))) else some ((), self_1))
abbrev N_Tour_skip : List Str := ["self", "ahead", "length"]
abbrev A_Tour_skip (K : PySem.W.Frag) : T_Tour → List Ag := fun x => [.o (fun F v c => ∃ a, v = .ref a ∧ O_Tour K x F a c)]
def R_Tour_skip (K : PySem.W.Frag) (y : (Unit × T_Tour)) (F : Hp) (vs : List V) (v : V) (c : Cs) : Prop := ∃ c0 c1 : Cs, c = (c0 ++ (c1 ++ [])) ∧ (c0 = [] ∧ Dt K F v (eN y.1)) ∧ O_Tour K y.2 F (adV (vs.getD 0 .non)) c1
abbrev sp_Tour_skip (K : PySem.W.Frag) : Sp := spG K (A_Tour_skip K) (R_Tour_skip K) f_Tour_skip
def t_Tour_skip (K : PySem.W.Frag) : TS := (tIfS (tAnd (tTest (tOp rEq (tFld K (tVar 0) "queued") (tC (.int 0)))) (tTest (tOp (rEqD K) (tFld K (tVar 0) "riding") (tLst tNil)))) (tSeq (tAsg (tCB rMax2 (tCons (tC (.int 0)) (tCons (tOp (rI0 fun i j => .int (i - j)) (tOp (rIxT K) (tOp (rIxL K) (tFld K (tVar 0) "orders") (tFld K (tVar 0) "come")) (tC (.int 1))) (tFld K (tVar 0) "tick")) tNil))) (gName 1)) (tSeq (tAsg (tCall (sp_round_of K) [] E0 (tCons (tFld K (tVar 0) "aisle") tNil)) (gName 2)) (sFldAug K (tVar 0) (tOp (rI CMul fun i j => .int (i * j)) (tOp (rI CDiv fun i j => .int (i / j)) (tVar 1) (tVar 2)) (tVar 2)) rAdd "tick"))) tNext)
theorem w_Tour_skip {K : PySem.W.Frag} (cl_Tour : Cls K (He.ga K "Tour")) (na_Tour_aisle : NoAttr K (He.ga K "Tour") "aisle") (na_Tour_come : NoAttr K (He.ga K "Tour") "come") (na_Tour_orders : NoAttr K (He.ga K "Tour") "orders") (na_Tour_queued : NoAttr K (He.ga K "Tour") "queued") (na_Tour_riding : NoAttr K (He.ga K "Tour") "riding") (na_Tour_tick : NoAttr K (He.ga K "Tour") "tick") (vs : List V) (H : Hp) (Q : VK) (E : XK) (h : sp_Tour_skip K vs H Q E) : t_Tour_skip K { nx := fun _ H' => Q .non H', rt := Q } (start N_Tour_skip vs) H := by
  obtain ⟨F0, cc, cs, self_1, y, h0, hS0, m, q⟩ := h
  obtain ⟨_, _, _, _, rfl, rfl, ⟨a0, rfl, ho0⟩, h1⟩ := ArgG.ho h0
  obtain ⟨rfl, rfl⟩ := ArgG.no h1
  obtain ⟨dx2, w3, w5, p7, us8, p10, us11, p13, ls14, p17, rfl, hw4, hw6, hu9, hu12, hk15, he16⟩ := ho0
  have hS1 : Sta F0 ((a0, .ins (He.ga K "Tour") dx2 [("aisle", w3), ("orders", w5), ("taken", (.ref p7)), ("homes", (.ref p10)), ("many", (.int self_1.2.2.2.2.1)), ("come", (.int self_1.2.2.2.2.2.1)), ("lines", (.ref p13)), ("queued", (.int self_1.2.2.2.2.2.2.2.1)), ("riding", (.ref p17)), ("tick", (.int self_1.2.2.2.2.2.2.2.2.2.1)), ("bay", (.int self_1.2.2.2.2.2.2.2.2.2.2.1)), ("upward", (.bl self_1.2.2.2.2.2.2.2.2.2.2.2))]) :: (dx2, .own a0) :: (p7, .lst us8) :: (p10, .lst us11) :: (p13, dlO p13 (lnsD ls14)) :: (p17, .lst (self_1.2.2.2.2.2.2.2.2.1.map V.int)) :: (lnsC ls14 ++ cs)) H := (staE (by simp [adV]) hS0)
  unfold f_Tour_skip at m
  try dsimp only at m
  unfold t_Tour_skip
  refine go (σ' := [some (.ref a0), none, none]) rfl ?_
  refine s_if (b := ((decide (self_1.2.2.2.2.2.2.2.1 = (0 : Int))) && (decide (self_1.2.2.2.2.2.2.2.2.1 = ([] : (List Int)))))) hS1 (t_lendX (l1 := [(a0, HO.ins (He.ga K "Tour") dx2 [("aisle", w3), ("orders", w5), ("taken", (.ref p7)), ("homes", (.ref p10)), ("many", (.int self_1.2.2.2.2.1)), ("come", (.int self_1.2.2.2.2.2.1)), ("lines", (.ref p13)), ("queued", (.int self_1.2.2.2.2.2.2.2.1)), ("riding", (.ref p17)), ("tick", (.int self_1.2.2.2.2.2.2.2.2.2.1)), ("bay", (.int self_1.2.2.2.2.2.2.2.2.2.2.1)), ("upward", (.bl self_1.2.2.2.2.2.2.2.2.2.2.2))]), (dx2, HO.own a0), (p7, HO.lst us8), (p10, HO.lst us11), (p13, dlO p13 (lnsD ls14))]) (m1 := [(a0, HO.ins (He.ga K "Tour") dx2 [("aisle", w3), ("orders", w5), ("taken", (.ref p7)), ("homes", (.ref p10)), ("many", (.int self_1.2.2.2.2.1)), ("come", (.int self_1.2.2.2.2.2.1)), ("lines", (.ref p13)), ("queued", (.int self_1.2.2.2.2.2.2.2.1)), ("riding", (.ref p17)), ("tick", (.int self_1.2.2.2.2.2.2.2.2.2.1)), ("bay", (.int self_1.2.2.2.2.2.2.2.2.2.2.1)), ("upward", (.bl self_1.2.2.2.2.2.2.2.2.2.2.2))]), (dx2, HO.own a0), (p7, HO.lst us8), (p10, HO.lst us11), (p13, dlO p13 (lnsD ls14))]) (fun F18 g19 hn20 => (t_andP (t_test (K := K) (d_eqI (d_vp (vp_fld (vp_var rfl) (List.Mem.head _) cl_Tour na_Tour_queued rfl) (.int _)) d_int)) (fun hc => (t_test (K := K) (d_eqT (e := (eL eI)) (EqE.l eqE_I) (ShE.l sh_I) (by decide) (d_vp (vp_fld (vp_var rfl) (List.Mem.head _) cl_Tour na_Tour_riding rfl) (lent_l hn20 (Dts.gr g19 (Dts.of_ints _)))) (d_lst a_nil (Nat.le_of_ble_eq_true rfl)))))))) (fun hc F21 H22 g23 hS24 => ?_) (fun hc F50 H51 g52 hS53 => ?_)
  · rw [if_pos hc] at m
    obtain ⟨x25, k26, m⟩ := bnd m
    obtain ⟨ahead_31, k32, m⟩ := lt m
    refine s_setV (K := K) (d := eI ahead_31) (i := 1) (σ' := [some (.ref a0), some (.int ahead_31), none]) (fun _ _ h => Dt.toInt h) hS24 (d_is (d_max2 (a_cons d_int (a_cons (d_sub (d_ixT (d_ix (e := (eT4 eS eI eI eI)) (d_vp (vp_fld (vp_var rfl) (List.Mem.head _) cl_Tour na_Tour_orders rfl) (Dt.gr g23 hw6)) (d_vp (vp_fld (vp_var rfl) (List.Mem.head _) cl_Tour na_Tour_come rfl) (.int _)) k26) d_int rfl) (d_vp (vp_fld (vp_var rfl) (List.Mem.head _) cl_Tour na_Tour_tick rfl) (.int _))) a_nil))) (congrArg eI k32)) rfl (fun F27 H28 g29 hS30 => ?_)
    obtain ⟨x33, k34, m⟩ := bnd m
    refine s_setV (K := K) (d := eI x33) (i := 2) (σ' := [some (.ref a0), some (.int ahead_31), some (.int x33)]) (fun _ _ h => Dt.toInt h) hS30 (d_call (A := A_round_of) (B := eI) (x := self_1.1) (a_cons (d_vp (vp_fld (vp_var rfl) (List.Mem.head _) cl_Tour na_Tour_aisle rfl) (Dt.gr (Gr.tr g23 g29) hw4)) a_nil) k34) rfl (fun F35 H36 g37 hS38 => ?_)
    obtain ⟨x39, k40, m⟩ := bnd m
    obtain ⟨x41, k42, m⟩ := bnd m
    obtain ⟨tick_43, k44, m⟩ := lt m
    refine s_fldAdd (ta := (tVar 0)) (l1 := []) (m1 := []) (fs' := [("aisle", w3), ("orders", w5), ("taken", (.ref p7)), ("homes", (.ref p10)), ("many", (.int self_1.2.2.2.2.1)), ("come", (.int self_1.2.2.2.2.2.1)), ("lines", (.ref p13)), ("queued", (.int self_1.2.2.2.2.2.2.2.1)), ("riding", (.ref p17)), ("tick", (.int tick_43)), ("bay", (.int self_1.2.2.2.2.2.2.2.2.2.2.1)), ("upward", (.bl self_1.2.2.2.2.2.2.2.2.2.2.2))]) hS38 (vp_var rfl) cl_Tour na_Tour_tick rfl (d_mul (d_fdiv (d_var rfl (.int _)) (d_var rfl (.int _)) k40) (d_var rfl (.int _)) k42) (Nat.le_of_ble_eq_true rfl) (by rw [k44]; rfl) (fun F45 H46 g47 hS48 => ?_)
    have hS49 := Sta.perm hS48 (List.Perm.trans (List.perm_middle (l₁ := [(a0, HO.ins (He.ga K "Tour") dx2 [("aisle", w3), ("orders", w5), ("taken", (.ref p7)), ("homes", (.ref p10)), ("many", (.int self_1.2.2.2.2.1)), ("come", (.int self_1.2.2.2.2.2.1)), ("lines", (.ref p13)), ("queued", (.int self_1.2.2.2.2.2.2.2.1)), ("riding", (.ref p17)), ("tick", (.int tick_43)), ("bay", (.int self_1.2.2.2.2.2.2.2.2.2.2.1)), ("upward", (.bl self_1.2.2.2.2.2.2.2.2.2.2.2))]), (dx2, HO.own a0), (p7, HO.lst us8), (p10, HO.lst us11), (p13, dlO p13 (lnsD ls14))])) (List.Perm.trans (List.perm_middle (l₁ := [(p17, HO.lst (self_1.2.2.2.2.2.2.2.2.1.map V.int)), (a0, HO.ins (He.ga K "Tour") dx2 [("aisle", w3), ("orders", w5), ("taken", (.ref p7)), ("homes", (.ref p10)), ("many", (.int self_1.2.2.2.2.1)), ("come", (.int self_1.2.2.2.2.2.1)), ("lines", (.ref p13)), ("queued", (.int self_1.2.2.2.2.2.2.2.1)), ("riding", (.ref p17)), ("tick", (.int tick_43)), ("bay", (.int self_1.2.2.2.2.2.2.2.2.2.2.1)), ("upward", (.bl self_1.2.2.2.2.2.2.2.2.2.2.2))]), (dx2, HO.own a0), (p7, HO.lst us8), (p10, HO.lst us11)])) (List.Perm.trans (List.perm_middle (l₁ := [(p13, dlO p13 (lnsD ls14)), (p17, HO.lst (self_1.2.2.2.2.2.2.2.2.1.map V.int)), (a0, HO.ins (He.ga K "Tour") dx2 [("aisle", w3), ("orders", w5), ("taken", (.ref p7)), ("homes", (.ref p10)), ("many", (.int self_1.2.2.2.2.1)), ("come", (.int self_1.2.2.2.2.2.1)), ("lines", (.ref p13)), ("queued", (.int self_1.2.2.2.2.2.2.2.1)), ("riding", (.ref p17)), ("tick", (.int tick_43)), ("bay", (.int self_1.2.2.2.2.2.2.2.2.2.2.1)), ("upward", (.bl self_1.2.2.2.2.2.2.2.2.2.2.2))]), (dx2, HO.own a0), (p7, HO.lst us8)])) (List.Perm.trans (List.perm_middle (l₁ := [(p10, HO.lst us11), (p13, dlO p13 (lnsD ls14)), (p17, HO.lst (self_1.2.2.2.2.2.2.2.2.1.map V.int)), (a0, HO.ins (He.ga K "Tour") dx2 [("aisle", w3), ("orders", w5), ("taken", (.ref p7)), ("homes", (.ref p10)), ("many", (.int self_1.2.2.2.2.1)), ("come", (.int self_1.2.2.2.2.2.1)), ("lines", (.ref p13)), ("queued", (.int self_1.2.2.2.2.2.2.2.1)), ("riding", (.ref p17)), ("tick", (.int tick_43)), ("bay", (.int self_1.2.2.2.2.2.2.2.2.2.2.1)), ("upward", (.bl self_1.2.2.2.2.2.2.2.2.2.2.2))]), (dx2, HO.own a0)])) (List.Perm.trans (List.perm_middle (l₁ := [(p7, HO.lst us8), (p10, HO.lst us11), (p13, dlO p13 (lnsD ls14)), (p17, HO.lst (self_1.2.2.2.2.2.2.2.2.1.map V.int)), (a0, HO.ins (He.ga K "Tour") dx2 [("aisle", w3), ("orders", w5), ("taken", (.ref p7)), ("homes", (.ref p10)), ("many", (.int self_1.2.2.2.2.1)), ("come", (.int self_1.2.2.2.2.2.1)), ("lines", (.ref p13)), ("queued", (.int self_1.2.2.2.2.2.2.2.1)), ("riding", (.ref p17)), ("tick", (.int tick_43)), ("bay", (.int self_1.2.2.2.2.2.2.2.2.2.2.1)), ("upward", (.bl self_1.2.2.2.2.2.2.2.2.2.2.2))])])) (List.perm_middle (l₁ := [(dx2, HO.own a0), (p7, HO.lst us8), (p10, HO.lst us11), (p13, dlO p13 (lnsD ls14)), (p17, HO.lst (self_1.2.2.2.2.2.2.2.2.1.map V.int))])))))))
    obtain rfl := sm m
    exact q _ ([] ++ (([(a0, HO.ins (He.ga K "Tour") dx2 [("aisle", w3), ("orders", w5), ("taken", (.ref p7)), ("homes", (.ref p10)), ("many", (.int self_1.2.2.2.2.1)), ("come", (.int self_1.2.2.2.2.2.1)), ("lines", (.ref p13)), ("queued", (.int self_1.2.2.2.2.2.2.2.1)), ("riding", (.ref p17)), ("tick", (.int tick_43)), ("bay", (.int self_1.2.2.2.2.2.2.2.2.2.2.1)), ("upward", (.bl self_1.2.2.2.2.2.2.2.2.2.2.2))]), (dx2, HO.own a0), (p7, HO.lst us8), (p10, HO.lst us11), (p13, dlO p13 (lnsD ls14)), (p17, HO.lst (self_1.2.2.2.2.2.2.2.2.1.map V.int))] ++ lnsC ls14) ++ [])) _ _ (Gr.tr g23 (Gr.tr g29 (Gr.tr g37 g47))) (staE (by simp [adV]) (show Sta _ ((a0, HO.ins (He.ga K "Tour") dx2 [("aisle", w3), ("orders", w5), ("taken", (.ref p7)), ("homes", (.ref p10)), ("many", (.int self_1.2.2.2.2.1)), ("come", (.int self_1.2.2.2.2.2.1)), ("lines", (.ref p13)), ("queued", (.int self_1.2.2.2.2.2.2.2.1)), ("riding", (.ref p17)), ("tick", (.int tick_43)), ("bay", (.int self_1.2.2.2.2.2.2.2.2.2.2.1)), ("upward", (.bl self_1.2.2.2.2.2.2.2.2.2.2.2))]) :: (dx2, HO.own a0) :: (p7, HO.lst us8) :: (p10, HO.lst us11) :: (p13, dlO p13 (lnsD ls14)) :: (p17, HO.lst (self_1.2.2.2.2.2.2.2.2.1.map V.int)) :: (lnsC ls14 ++ cs)) _ from hS49)) ⟨[], ([(a0, HO.ins (He.ga K "Tour") dx2 [("aisle", w3), ("orders", w5), ("taken", (.ref p7)), ("homes", (.ref p10)), ("many", (.int self_1.2.2.2.2.1)), ("come", (.int self_1.2.2.2.2.2.1)), ("lines", (.ref p13)), ("queued", (.int self_1.2.2.2.2.2.2.2.1)), ("riding", (.ref p17)), ("tick", (.int tick_43)), ("bay", (.int self_1.2.2.2.2.2.2.2.2.2.2.1)), ("upward", (.bl self_1.2.2.2.2.2.2.2.2.2.2.2))]), (dx2, HO.own a0), (p7, HO.lst us8), (p10, HO.lst us11), (p13, dlO p13 (lnsD ls14)), (p17, HO.lst (self_1.2.2.2.2.2.2.2.2.1.map V.int))] ++ lnsC ls14), rfl, ⟨rfl, Dt.non⟩, ⟨_, _, _, _, _, _, _, _, _, _, rfl, (Dt.gr (Gr.tr g23 (Gr.tr g29 (Gr.tr g37 g47))) hw4), (Dt.gr (Gr.tr g23 (Gr.tr g29 (Gr.tr g37 g47))) hw6), (Dts.gr (Gr.tr g23 (Gr.tr g29 (Gr.tr g37 g47))) hu9), (Dts.gr (Gr.tr g23 (Gr.tr g29 (Gr.tr g37 g47))) hu12), (LnOk.gr (Gr.tr g23 (Gr.tr g29 (Gr.tr g37 g47))) hk15), he16⟩⟩
  · rw [if_neg (bf hc)] at m
    refine nxt ?_
    have hS54 := Sta.perm hS53 (List.Perm.trans (List.perm_middle (l₁ := [(a0, HO.ins (He.ga K "Tour") dx2 [("aisle", w3), ("orders", w5), ("taken", (.ref p7)), ("homes", (.ref p10)), ("many", (.int self_1.2.2.2.2.1)), ("come", (.int self_1.2.2.2.2.2.1)), ("lines", (.ref p13)), ("queued", (.int self_1.2.2.2.2.2.2.2.1)), ("riding", (.ref p17)), ("tick", (.int self_1.2.2.2.2.2.2.2.2.2.1)), ("bay", (.int self_1.2.2.2.2.2.2.2.2.2.2.1)), ("upward", (.bl self_1.2.2.2.2.2.2.2.2.2.2.2))]), (dx2, HO.own a0), (p7, HO.lst us8), (p10, HO.lst us11), (p13, dlO p13 (lnsD ls14))])) (List.Perm.trans (List.perm_middle (l₁ := [(p17, HO.lst (self_1.2.2.2.2.2.2.2.2.1.map V.int)), (a0, HO.ins (He.ga K "Tour") dx2 [("aisle", w3), ("orders", w5), ("taken", (.ref p7)), ("homes", (.ref p10)), ("many", (.int self_1.2.2.2.2.1)), ("come", (.int self_1.2.2.2.2.2.1)), ("lines", (.ref p13)), ("queued", (.int self_1.2.2.2.2.2.2.2.1)), ("riding", (.ref p17)), ("tick", (.int self_1.2.2.2.2.2.2.2.2.2.1)), ("bay", (.int self_1.2.2.2.2.2.2.2.2.2.2.1)), ("upward", (.bl self_1.2.2.2.2.2.2.2.2.2.2.2))]), (dx2, HO.own a0), (p7, HO.lst us8), (p10, HO.lst us11)])) (List.Perm.trans (List.perm_middle (l₁ := [(p13, dlO p13 (lnsD ls14)), (p17, HO.lst (self_1.2.2.2.2.2.2.2.2.1.map V.int)), (a0, HO.ins (He.ga K "Tour") dx2 [("aisle", w3), ("orders", w5), ("taken", (.ref p7)), ("homes", (.ref p10)), ("many", (.int self_1.2.2.2.2.1)), ("come", (.int self_1.2.2.2.2.2.1)), ("lines", (.ref p13)), ("queued", (.int self_1.2.2.2.2.2.2.2.1)), ("riding", (.ref p17)), ("tick", (.int self_1.2.2.2.2.2.2.2.2.2.1)), ("bay", (.int self_1.2.2.2.2.2.2.2.2.2.2.1)), ("upward", (.bl self_1.2.2.2.2.2.2.2.2.2.2.2))]), (dx2, HO.own a0), (p7, HO.lst us8)])) (List.Perm.trans (List.perm_middle (l₁ := [(p10, HO.lst us11), (p13, dlO p13 (lnsD ls14)), (p17, HO.lst (self_1.2.2.2.2.2.2.2.2.1.map V.int)), (a0, HO.ins (He.ga K "Tour") dx2 [("aisle", w3), ("orders", w5), ("taken", (.ref p7)), ("homes", (.ref p10)), ("many", (.int self_1.2.2.2.2.1)), ("come", (.int self_1.2.2.2.2.2.1)), ("lines", (.ref p13)), ("queued", (.int self_1.2.2.2.2.2.2.2.1)), ("riding", (.ref p17)), ("tick", (.int self_1.2.2.2.2.2.2.2.2.2.1)), ("bay", (.int self_1.2.2.2.2.2.2.2.2.2.2.1)), ("upward", (.bl self_1.2.2.2.2.2.2.2.2.2.2.2))]), (dx2, HO.own a0)])) (List.Perm.trans (List.perm_middle (l₁ := [(p7, HO.lst us8), (p10, HO.lst us11), (p13, dlO p13 (lnsD ls14)), (p17, HO.lst (self_1.2.2.2.2.2.2.2.2.1.map V.int)), (a0, HO.ins (He.ga K "Tour") dx2 [("aisle", w3), ("orders", w5), ("taken", (.ref p7)), ("homes", (.ref p10)), ("many", (.int self_1.2.2.2.2.1)), ("come", (.int self_1.2.2.2.2.2.1)), ("lines", (.ref p13)), ("queued", (.int self_1.2.2.2.2.2.2.2.1)), ("riding", (.ref p17)), ("tick", (.int self_1.2.2.2.2.2.2.2.2.2.1)), ("bay", (.int self_1.2.2.2.2.2.2.2.2.2.2.1)), ("upward", (.bl self_1.2.2.2.2.2.2.2.2.2.2.2))])])) (List.perm_middle (l₁ := [(dx2, HO.own a0), (p7, HO.lst us8), (p10, HO.lst us11), (p13, dlO p13 (lnsD ls14)), (p17, HO.lst (self_1.2.2.2.2.2.2.2.2.1.map V.int))])))))))
    obtain rfl := sm m
    exact q _ ([] ++ (([(a0, HO.ins (He.ga K "Tour") dx2 [("aisle", w3), ("orders", w5), ("taken", (.ref p7)), ("homes", (.ref p10)), ("many", (.int self_1.2.2.2.2.1)), ("come", (.int self_1.2.2.2.2.2.1)), ("lines", (.ref p13)), ("queued", (.int self_1.2.2.2.2.2.2.2.1)), ("riding", (.ref p17)), ("tick", (.int self_1.2.2.2.2.2.2.2.2.2.1)), ("bay", (.int self_1.2.2.2.2.2.2.2.2.2.2.1)), ("upward", (.bl self_1.2.2.2.2.2.2.2.2.2.2.2))]), (dx2, HO.own a0), (p7, HO.lst us8), (p10, HO.lst us11), (p13, dlO p13 (lnsD ls14)), (p17, HO.lst (self_1.2.2.2.2.2.2.2.2.1.map V.int))] ++ lnsC ls14) ++ [])) _ _ g52 (staE (by simp [adV]) (show Sta _ ((a0, HO.ins (He.ga K "Tour") dx2 [("aisle", w3), ("orders", w5), ("taken", (.ref p7)), ("homes", (.ref p10)), ("many", (.int self_1.2.2.2.2.1)), ("come", (.int self_1.2.2.2.2.2.1)), ("lines", (.ref p13)), ("queued", (.int self_1.2.2.2.2.2.2.2.1)), ("riding", (.ref p17)), ("tick", (.int self_1.2.2.2.2.2.2.2.2.2.1)), ("bay", (.int self_1.2.2.2.2.2.2.2.2.2.2.1)), ("upward", (.bl self_1.2.2.2.2.2.2.2.2.2.2.2))]) :: (dx2, HO.own a0) :: (p7, HO.lst us8) :: (p10, HO.lst us11) :: (p13, dlO p13 (lnsD ls14)) :: (p17, HO.lst (self_1.2.2.2.2.2.2.2.2.1.map V.int)) :: (lnsC ls14 ++ cs)) _ from hS54)) ⟨[], ([(a0, HO.ins (He.ga K "Tour") dx2 [("aisle", w3), ("orders", w5), ("taken", (.ref p7)), ("homes", (.ref p10)), ("many", (.int self_1.2.2.2.2.1)), ("come", (.int self_1.2.2.2.2.2.1)), ("lines", (.ref p13)), ("queued", (.int self_1.2.2.2.2.2.2.2.1)), ("riding", (.ref p17)), ("tick", (.int self_1.2.2.2.2.2.2.2.2.2.1)), ("bay", (.int self_1.2.2.2.2.2.2.2.2.2.2.1)), ("upward", (.bl self_1.2.2.2.2.2.2.2.2.2.2.2))]), (dx2, HO.own a0), (p7, HO.lst us8), (p10, HO.lst us11), (p13, dlO p13 (lnsD ls14)), (p17, HO.lst (self_1.2.2.2.2.2.2.2.2.1.map V.int))] ++ lnsC ls14), rfl, ⟨rfl, Dt.non⟩, ⟨_, _, _, _, _, _, _, _, _, _, rfl, (Dt.gr g52 hw4), (Dt.gr g52 hw6), (Dts.gr g52 hu9), (Dts.gr g52 hu12), (LnOk.gr g52 hk15), he16⟩⟩
theorem sc_Tour_skip : FnScope N_Tour_skip ["self"] (defScope s_Tour_skip) := ⟨rfl, rfl, rfl, by decide +kernel, rfl, by decide +kernel, by decide +kernel⟩
theorem ok_Tour_skip {P : Program} {w : World} {K : PySem.W.Frag} {mg : Str → Option Value} {base : Heap} (hF : DfM K "Tour" "skip" "Tour.skip" s_Tour_skip) (clM : Cls K (He.ga K "Tour")) (meM : Meth K (He.ga K "Tour") "skip" (He.ma K (He.ga K "Tour") "skip")) (m_max : mg "max" = none) (o_round_of : Ok P w K mg base 1 "round_of" ["aisle"] (sp_round_of K)) (cl_Tour : Cls K (He.ga K "Tour")) (na_Tour_aisle : NoAttr K (He.ga K "Tour") "aisle") (na_Tour_come : NoAttr K (He.ga K "Tour") "come") (na_Tour_orders : NoAttr K (He.ga K "Tour") "orders") (na_Tour_queued : NoAttr K (He.ga K "Tour") "queued") (na_Tour_riding : NoAttr K (He.ga K "Tour") "riding") (na_Tour_tick : NoAttr K (He.ga K "Tour") "tick") : OkMe P w K mg base CX0 2 "Tour" "skip" ["self"] (sp_Tour_skip K) := by
  obtain ⟨⟨_, G_round_of, bd_round_of, _⟩, kp_round_of, gm_round_of⟩ := o_round_of
  obtain ⟨fd, F⟩ := hF
  refine ⟨⟨fd, F.ok sc_Tour_skip (fun vs H Q E h => ?_) (fun cdv A outer s H vs Q E hr h => ⟨t_Tour_skip K, PSs.nox ?_, w_Tour_skip cl_Tour na_Tour_aisle na_Tour_come na_Tour_orders na_Tour_queued na_Tour_riding na_Tour_tick vs H Q E h⟩), F.bindsN fun _ _ _ _ _ _ us hl => match us, hl with | [_], _ => rfl⟩, clM, meM⟩
  · obtain ⟨F0, cc, cs, x, y, h, _⟩ := h; exact ArgG.len h
  · exact (pss_one (ps_if (PW.pt (pw_and (pt_cmpR op_eq (pe_fld (pv 0) rfl) pe_int (nomark _)) (pw_and1 (pt_cmpR (op_eqD hr.units) (pe_fld (pv 0) rfl) (pe_lst pa_nil) (nomark _))))) (pss_cons (ps_set (i := 1) sc_Tour_skip.nd rfl (Or.inl rfl) (pe_callB (cr_max2 rfl) (by rfl) m_max (by decide +kernel) (pa_cons pe_int (pa_cons (pe_op op_sub (pe_ix ix_tup (pe_ix ix_list (pe_fld (pv 0) rfl) (pe_fld (pv 0) rfl) (fun _ _ => rfl)) pe_int (fun _ _ => rfl)) (pe_fld (pv 0) rfl)) pa_nil)))) (pss_cons (ps_set (i := 2) sc_Tour_skip.nd rfl (Or.inl rfl) (pe_call G_round_of (hr.mono (by decide)) (by rfl) gm_round_of kp_round_of bd_round_of .nil pass0 (pa_cons (pe_fld (pv 0) rfl) pa_nil))) (pss_one (ps_fldaug (pv 0) (pe_op op_mul (pe_op op_fdiv (pv 1) (pv 2)) (pv 2)) in_add)))) pss_nil))
abbrev s_is_upward : Stmt := (top 20)
def f_is_upward : (Str × Int × Int × Int) → Option Bool := fun order_1 => some (decide (order_1.2.2.1 < order_1.2.2.2))
abbrev A_is_upward : (Str × Int × Int × Int) → List PyData := fun x => [(eT4 eS eI eI eI) x]
abbrev N_is_upward : List Str := ["order"]
abbrev sp_is_upward (K : PySem.W.Frag) : Sp := spP K A_is_upward eB f_is_upward
def t_is_upward (K : PySem.W.Frag) : TS := (tRet (tOp (rI0 fun i j => .bl (decide (i < j))) (tOp (rIxT K) (tVar 0) (tC (.int 2))) (tOp (rIxT K) (tVar 0) (tC (.int 3)))))
theorem w_is_upward {K : PySem.W.Frag} (vs : List V) (H : Hp) (Q : VK) (E : XK) (h : sp_is_upward K vs H Q E) : t_is_upward K { nx := fun _ H' => Q .non H', rt := Q } (start N_is_upward vs) H := by
  obtain ⟨F0, cs, order_1, y, h, hS0, m, q⟩ := h
  obtain ⟨a0, _, rfl, ha0, h⟩ := Dts.hd h
  obtain rfl := Dts.no h
  unfold f_is_upward at m
  try dsimp only at m
  unfold t_is_upward
  refine go (σ' := [some a0]) rfl ?_
  refine s_ret (K := K) (d := eB (decide (order_1.2.2.1 < order_1.2.2.2))) hS0 (d_lt (d_ixT (d_var rfl ha0) d_int rfl) (d_ixT (d_var rfl ha0) d_int rfl)) (fun v6 F2 H3 g4 hS5 hv7 => ?_)
  obtain rfl := sm m
  exact q _ _ _ g4 hS5 hv7
theorem sc_is_upward : FnScope N_is_upward ["order"] (defScope s_is_upward) := ⟨rfl, rfl, rfl, by decide +kernel, rfl, by decide +kernel, by decide +kernel⟩
theorem ok_is_upward {P : Program} {w : World} {K : PySem.W.Frag} {mg : Str → Option Value} {base : Heap} (hF : Df K mg "is_upward" s_is_upward) : Ok P w K mg base 1 "is_upward" ["order"] (sp_is_upward K) := by
  obtain ⟨⟨fd, F⟩, gm⟩ := hF
  refine ⟨⟨fd, F.ok sc_is_upward (fun vs H Q E h => ?_) (fun cdv A outer s H vs Q E hr h => ⟨t_is_upward K, PSs.nox ?_, w_is_upward vs H Q E h⟩), F.bindsN fun _ _ _ _ _ _ us hl => match us, hl with | [_], _ => rfl, lk_of F⟩, F.kp, gm⟩
  · obtain ⟨F0, cs, x, y, h, _⟩ := h; exact Dts.len h
  · exact (pss_one (ps_ret (pe_cmpR op_lt (pe_ix ix_tup (pv 0) pe_int (fun _ _ => rfl)) (pe_ix ix_tup (pv 0) pe_int (fun _ _ => rfl)) (nomark _))))
abbrev s_Tour_lie_down : Stmt := ((clsB (top 23)).getD 2 (.Pass ⟨0, 0, 0, 0⟩))
def f_Tour_lie_down_t18 : T_Tour → Option Bool := fun self_21 => (((if (decide (self_21.2.2.2.2.2.1 < (self_21.2.1.length : Int))) = true then (((atI self_21.2.1 self_21.2.2.2.2.2.1)).bind fun x47 => some (decide (x47.2.1 ≤ self_21.2.2.2.2.2.2.2.2.2.1))) else some false)).bind fun x49 => some x49)
def f_Tour_lie_down_w18 : T_Tour → Option (Fl T_Tour (Unit × T_Tour)) := fun self_76 => (((atI self_76.2.1 self_76.2.2.2.2.2.1)).bind fun x110 => (((f_is_upward x110)).bind fun x118 => ((addLM self_76.2.2.2.2.2.2.1 (x110.2.2.1, x118) self_76.2.2.2.2.2.1)).bind fun lines_120 => (letM (self_76.2.2.2.2.2.2.2.1 + (1 : Int)) fun queued_129 => (letM (self_76.2.2.2.2.2.1 + (1 : Int)) fun come_135 => some (Fl.nx (self_76.1, self_76.2.1, self_76.2.2.1, self_76.2.2.2.1, self_76.2.2.2.2.1, come_135, lines_120, queued_129, self_76.2.2.2.2.2.2.2.2.1, self_76.2.2.2.2.2.2.2.2.2.1, self_76.2.2.2.2.2.2.2.2.2.2.1, self_76.2.2.2.2.2.2.2.2.2.2.2))))))
def f_Tour_lie_down : T_Tour → Option (Unit × T_Tour) := fun self_1 => (whileF (f_Tour_lie_down_t18) (f_Tour_lie_down_w18) fuel self_1).bind fun r19 => match r19 with | .nx self_148 => some ((), self_148) | .br _ => none | .rt z170 => some z170
abbrev N_Tour_lie_down : List Str := ["self", "order"]
abbrev A_Tour_lie_down (K : PySem.W.Frag) : T_Tour → List Ag := fun x => [.o (fun F v c => ∃ a, v = .ref a ∧ O_Tour K x F a c)]
def R_Tour_lie_down (K : PySem.W.Frag) (y : (Unit × T_Tour)) (F : Hp) (vs : List V) (v : V) (c : Cs) : Prop := ∃ c0 c1 : Cs, c = (c0 ++ (c1 ++ [])) ∧ (c0 = [] ∧ Dt K F v (eN y.1)) ∧ O_Tour K y.2 F (adV (vs.getD 0 .non)) c1
abbrev sp_Tour_lie_down (K : PySem.W.Frag) : Sp := spG K (A_Tour_lie_down K) (R_Tour_lie_down K) f_Tour_lie_down
def t_Tour_lie_down (K : PySem.W.Frag) : TS := (tWhile (tAnd (tTest (tOp (rI0 fun i j => .bl (decide (i < j))) (tFld K (tVar 0) "come") (tCB (rLenL K) (tCons (tFld K (tVar 0) "orders") tNil)))) (tTest (tOp (rI0 fun i j => .bl (decide (i ≤ j))) (tOp (rIxT K) (tOp (rIxL K) (tFld K (tVar 0) "orders") (tFld K (tVar 0) "come")) (tC (.int 1))) (tFld K (tVar 0) "tick")))) (tSeq (tAsg (tOp (rIxL K) (tFld K (tVar 0) "orders") (tFld K (tVar 0) "come")) (gName 1)) (tSeq (tDrop (tBM K "list" rAppend (tSetdL K (tFld K (tVar 0) "lines") (tTup (tCons (tOp (rIxT K) (tVar 1) (tC (.int 2))) (tCons (tCall (sp_is_upward K) [] E0 (tCons (tVar 1) tNil)) tNil))) (tLst tNil)) (tCons (tFld K (tVar 0) "come") tNil))) (tSeq (sFldAug K (tVar 0) (tC (.int 1)) rAdd "queued") (sFldAug K (tVar 0) (tC (.int 1)) rAdd "come")))))
theorem w_Tour_lie_down {K : PySem.W.Frag} (cl_Tour : Cls K (He.ga K "Tour")) (na_Tour_come : NoAttr K (He.ga K "Tour") "come") (na_Tour_lines : NoAttr K (He.ga K "Tour") "lines") (na_Tour_orders : NoAttr K (He.ga K "Tour") "orders") (na_Tour_queued : NoAttr K (He.ga K "Tour") "queued") (na_Tour_tick : NoAttr K (He.ga K "Tour") "tick") (vs : List V) (H : Hp) (Q : VK) (E : XK) (h : sp_Tour_lie_down K vs H Q E) : t_Tour_lie_down K { nx := fun _ H' => Q .non H', rt := Q } (start N_Tour_lie_down vs) H := by
  obtain ⟨F0, cc, cs, self_1, y, h0, hS0, m, q⟩ := h
  obtain ⟨_, _, _, _, rfl, rfl, ⟨a0, rfl, ho0⟩, h1⟩ := ArgG.ho h0
  obtain ⟨rfl, rfl⟩ := ArgG.no h1
  obtain ⟨dx2, w3, w5, p7, us8, p10, us11, p13, ls14, p17, rfl, hw4, hw6, hu9, hu12, hk15, he16⟩ := ho0
  have hS1 : Sta F0 ((a0, .ins (He.ga K "Tour") dx2 [("aisle", w3), ("orders", w5), ("taken", (.ref p7)), ("homes", (.ref p10)), ("many", (.int self_1.2.2.2.2.1)), ("come", (.int self_1.2.2.2.2.2.1)), ("lines", (.ref p13)), ("queued", (.int self_1.2.2.2.2.2.2.2.1)), ("riding", (.ref p17)), ("tick", (.int self_1.2.2.2.2.2.2.2.2.2.1)), ("bay", (.int self_1.2.2.2.2.2.2.2.2.2.2.1)), ("upward", (.bl self_1.2.2.2.2.2.2.2.2.2.2.2))]) :: (dx2, .own a0) :: (p7, .lst us8) :: (p10, .lst us11) :: (p13, dlO p13 (lnsD ls14)) :: (p17, .lst (self_1.2.2.2.2.2.2.2.2.1.map V.int)) :: (lnsC ls14 ++ cs)) H := (staE (by simp [adV]) hS0)
  unfold f_Tour_lie_down at m
  try dsimp only at m
  unfold t_Tour_lie_down
  refine go (σ' := [some (.ref a0), none]) rfl ?_
  obtain ⟨r19, k20, m⟩ := bnd m
  refine s_while (c := (f_Tour_lie_down_t18)) (body := (f_Tour_lie_down_w18)) (s0 := self_1) (r := r19) (n := fuel) (fun (a : T_Tour) F σ c => ∃ (j1 : Option V) (c0 : Cs), σ = [some (.ref a0), j1] ∧ (c0 ++ (cs)) = c ∧ O_Tour K a F a0 c0) hS1 ⟨_, ([(a0, HO.ins (He.ga K "Tour") dx2 [("aisle", w3), ("orders", w5), ("taken", (.ref p7)), ("homes", (.ref p10)), ("many", (.int self_1.2.2.2.2.1)), ("come", (.int self_1.2.2.2.2.2.1)), ("lines", (.ref p13)), ("queued", (.int self_1.2.2.2.2.2.2.2.1)), ("riding", (.ref p17)), ("tick", (.int self_1.2.2.2.2.2.2.2.2.2.1)), ("bay", (.int self_1.2.2.2.2.2.2.2.2.2.2.1)), ("upward", (.bl self_1.2.2.2.2.2.2.2.2.2.2.2))]), (dx2, HO.own a0), (p7, HO.lst us8), (p10, HO.lst us11), (p13, dlO p13 (lnsD ls14)), (p17, HO.lst (self_1.2.2.2.2.2.2.2.2.1.map V.int))] ++ lnsC ls14), rfl, rfl, ⟨_, _, _, _, _, _, _, _, _, _, rfl, hw4, hw6, hu9, hu12, hk15, he16⟩⟩ k20 ?_ ?_ ?_ ?_
  · rintro self_148 F141 σ146 c145 H142 hz147 g143 hS144 ⟨u149, c150, rfl, rfl, h151⟩
    rcases hz147.symm with rfl | rfl
    · cases (show (none : Option _) = some _ from m)
    try dsimp only at m
    obtain ⟨dx152, w153, w155, p157, us158, p160, us161, p163, ls164, p167, rfl, hw154, hw156, hu159, hu162, hk165, he166⟩ := h151
    have hS168 : Sta F141 ((a0, .ins (He.ga K "Tour") dx152 [("aisle", w153), ("orders", w155), ("taken", (.ref p157)), ("homes", (.ref p160)), ("many", (.int self_148.2.2.2.2.1)), ("come", (.int self_148.2.2.2.2.2.1)), ("lines", (.ref p163)), ("queued", (.int self_148.2.2.2.2.2.2.2.1)), ("riding", (.ref p167)), ("tick", (.int self_148.2.2.2.2.2.2.2.2.2.1)), ("bay", (.int self_148.2.2.2.2.2.2.2.2.2.2.1)), ("upward", (.bl self_148.2.2.2.2.2.2.2.2.2.2.2))]) :: (dx152, .own a0) :: (p157, .lst us158) :: (p160, .lst us161) :: (p163, dlO p163 (lnsD ls164)) :: (p167, .lst (self_148.2.2.2.2.2.2.2.2.1.map V.int)) :: (lnsC ls164 ++ cs)) H142 := hS144
    have hS169 := Sta.perm hS168 (List.Perm.trans (List.perm_middle (l₁ := [(a0, HO.ins (He.ga K "Tour") dx152 [("aisle", w153), ("orders", w155), ("taken", (.ref p157)), ("homes", (.ref p160)), ("many", (.int self_148.2.2.2.2.1)), ("come", (.int self_148.2.2.2.2.2.1)), ("lines", (.ref p163)), ("queued", (.int self_148.2.2.2.2.2.2.2.1)), ("riding", (.ref p167)), ("tick", (.int self_148.2.2.2.2.2.2.2.2.2.1)), ("bay", (.int self_148.2.2.2.2.2.2.2.2.2.2.1)), ("upward", (.bl self_148.2.2.2.2.2.2.2.2.2.2.2))]), (dx152, HO.own a0), (p157, HO.lst us158), (p160, HO.lst us161), (p163, dlO p163 (lnsD ls164))])) (List.Perm.trans (List.perm_middle (l₁ := [(p167, HO.lst (self_148.2.2.2.2.2.2.2.2.1.map V.int)), (a0, HO.ins (He.ga K "Tour") dx152 [("aisle", w153), ("orders", w155), ("taken", (.ref p157)), ("homes", (.ref p160)), ("many", (.int self_148.2.2.2.2.1)), ("come", (.int self_148.2.2.2.2.2.1)), ("lines", (.ref p163)), ("queued", (.int self_148.2.2.2.2.2.2.2.1)), ("riding", (.ref p167)), ("tick", (.int self_148.2.2.2.2.2.2.2.2.2.1)), ("bay", (.int self_148.2.2.2.2.2.2.2.2.2.2.1)), ("upward", (.bl self_148.2.2.2.2.2.2.2.2.2.2.2))]), (dx152, HO.own a0), (p157, HO.lst us158), (p160, HO.lst us161)])) (List.Perm.trans (List.perm_middle (l₁ := [(p163, dlO p163 (lnsD ls164)), (p167, HO.lst (self_148.2.2.2.2.2.2.2.2.1.map V.int)), (a0, HO.ins (He.ga K "Tour") dx152 [("aisle", w153), ("orders", w155), ("taken", (.ref p157)), ("homes", (.ref p160)), ("many", (.int self_148.2.2.2.2.1)), ("come", (.int self_148.2.2.2.2.2.1)), ("lines", (.ref p163)), ("queued", (.int self_148.2.2.2.2.2.2.2.1)), ("riding", (.ref p167)), ("tick", (.int self_148.2.2.2.2.2.2.2.2.2.1)), ("bay", (.int self_148.2.2.2.2.2.2.2.2.2.2.1)), ("upward", (.bl self_148.2.2.2.2.2.2.2.2.2.2.2))]), (dx152, HO.own a0), (p157, HO.lst us158)])) (List.Perm.trans (List.perm_middle (l₁ := [(p160, HO.lst us161), (p163, dlO p163 (lnsD ls164)), (p167, HO.lst (self_148.2.2.2.2.2.2.2.2.1.map V.int)), (a0, HO.ins (He.ga K "Tour") dx152 [("aisle", w153), ("orders", w155), ("taken", (.ref p157)), ("homes", (.ref p160)), ("many", (.int self_148.2.2.2.2.1)), ("come", (.int self_148.2.2.2.2.2.1)), ("lines", (.ref p163)), ("queued", (.int self_148.2.2.2.2.2.2.2.1)), ("riding", (.ref p167)), ("tick", (.int self_148.2.2.2.2.2.2.2.2.2.1)), ("bay", (.int self_148.2.2.2.2.2.2.2.2.2.2.1)), ("upward", (.bl self_148.2.2.2.2.2.2.2.2.2.2.2))]), (dx152, HO.own a0)])) (List.Perm.trans (List.perm_middle (l₁ := [(p157, HO.lst us158), (p160, HO.lst us161), (p163, dlO p163 (lnsD ls164)), (p167, HO.lst (self_148.2.2.2.2.2.2.2.2.1.map V.int)), (a0, HO.ins (He.ga K "Tour") dx152 [("aisle", w153), ("orders", w155), ("taken", (.ref p157)), ("homes", (.ref p160)), ("many", (.int self_148.2.2.2.2.1)), ("come", (.int self_148.2.2.2.2.2.1)), ("lines", (.ref p163)), ("queued", (.int self_148.2.2.2.2.2.2.2.1)), ("riding", (.ref p167)), ("tick", (.int self_148.2.2.2.2.2.2.2.2.2.1)), ("bay", (.int self_148.2.2.2.2.2.2.2.2.2.2.1)), ("upward", (.bl self_148.2.2.2.2.2.2.2.2.2.2.2))])])) (List.perm_middle (l₁ := [(dx152, HO.own a0), (p157, HO.lst us158), (p160, HO.lst us161), (p163, dlO p163 (lnsD ls164)), (p167, HO.lst (self_148.2.2.2.2.2.2.2.2.1.map V.int))])))))))
    obtain rfl := sm m
    exact q _ ([] ++ (([(a0, HO.ins (He.ga K "Tour") dx152 [("aisle", w153), ("orders", w155), ("taken", (.ref p157)), ("homes", (.ref p160)), ("many", (.int self_148.2.2.2.2.1)), ("come", (.int self_148.2.2.2.2.2.1)), ("lines", (.ref p163)), ("queued", (.int self_148.2.2.2.2.2.2.2.1)), ("riding", (.ref p167)), ("tick", (.int self_148.2.2.2.2.2.2.2.2.2.1)), ("bay", (.int self_148.2.2.2.2.2.2.2.2.2.2.1)), ("upward", (.bl self_148.2.2.2.2.2.2.2.2.2.2.2))]), (dx152, HO.own a0), (p157, HO.lst us158), (p160, HO.lst us161), (p163, dlO p163 (lnsD ls164)), (p167, HO.lst (self_148.2.2.2.2.2.2.2.2.1.map V.int))] ++ lnsC ls164) ++ [])) _ _ g143 (staE (by simp [adV]) (show Sta _ ((a0, HO.ins (He.ga K "Tour") dx152 [("aisle", w153), ("orders", w155), ("taken", (.ref p157)), ("homes", (.ref p160)), ("many", (.int self_148.2.2.2.2.1)), ("come", (.int self_148.2.2.2.2.2.1)), ("lines", (.ref p163)), ("queued", (.int self_148.2.2.2.2.2.2.2.1)), ("riding", (.ref p167)), ("tick", (.int self_148.2.2.2.2.2.2.2.2.2.1)), ("bay", (.int self_148.2.2.2.2.2.2.2.2.2.2.1)), ("upward", (.bl self_148.2.2.2.2.2.2.2.2.2.2.2))]) :: (dx152, HO.own a0) :: (p157, HO.lst us158) :: (p160, HO.lst us161) :: (p163, dlO p163 (lnsD ls164)) :: (p167, HO.lst (self_148.2.2.2.2.2.2.2.2.1.map V.int)) :: (lnsC ls164 ++ cs)) _ from hS169)) ⟨[], ([(a0, HO.ins (He.ga K "Tour") dx152 [("aisle", w153), ("orders", w155), ("taken", (.ref p157)), ("homes", (.ref p160)), ("many", (.int self_148.2.2.2.2.1)), ("come", (.int self_148.2.2.2.2.2.1)), ("lines", (.ref p163)), ("queued", (.int self_148.2.2.2.2.2.2.2.1)), ("riding", (.ref p167)), ("tick", (.int self_148.2.2.2.2.2.2.2.2.2.1)), ("bay", (.int self_148.2.2.2.2.2.2.2.2.2.2.1)), ("upward", (.bl self_148.2.2.2.2.2.2.2.2.2.2.2))]), (dx152, HO.own a0), (p157, HO.lst us158), (p160, HO.lst us161), (p163, dlO p163 (lnsD ls164)), (p167, HO.lst (self_148.2.2.2.2.2.2.2.2.1.map V.int))] ++ lnsC ls164), rfl, ⟨rfl, Dt.non⟩, ⟨_, _, _, _, _, _, _, _, _, _, rfl, hw154, hw156, hu159, hu162, hk165, he166⟩⟩
  · rintro self_21 b26 F22 σ25 c24 g23 ⟨u28, c29, rfl, rfl, h30⟩ m27
    unfold f_Tour_lie_down_t18 at m27
    try dsimp only at m27
    obtain ⟨dx31, w32, w34, p36, us37, p39, us40, p42, ls43, p46, rfl, hw33, hw35, hu38, hu41, hk44, he45⟩ := h30
    show EvT _ _ _ ((a0, .ins (He.ga K "Tour") dx31 [("aisle", w32), ("orders", w34), ("taken", (.ref p36)), ("homes", (.ref p39)), ("many", (.int self_21.2.2.2.2.1)), ("come", (.int self_21.2.2.2.2.2.1)), ("lines", (.ref p42)), ("queued", (.int self_21.2.2.2.2.2.2.2.1)), ("riding", (.ref p46)), ("tick", (.int self_21.2.2.2.2.2.2.2.2.2.1)), ("bay", (.int self_21.2.2.2.2.2.2.2.2.2.2.1)), ("upward", (.bl self_21.2.2.2.2.2.2.2.2.2.2.2))]) :: (dx31, .own a0) :: (p36, .lst us37) :: (p39, .lst us40) :: (p42, dlO p42 (lnsD ls43)) :: (p46, .lst (self_21.2.2.2.2.2.2.2.2.1.map V.int)) :: (lnsC ls43 ++ cs)) _ ((a0, .ins (He.ga K "Tour") dx31 [("aisle", w32), ("orders", w34), ("taken", (.ref p36)), ("homes", (.ref p39)), ("many", (.int self_21.2.2.2.2.1)), ("come", (.int self_21.2.2.2.2.2.1)), ("lines", (.ref p42)), ("queued", (.int self_21.2.2.2.2.2.2.2.1)), ("riding", (.ref p46)), ("tick", (.int self_21.2.2.2.2.2.2.2.2.2.1)), ("bay", (.int self_21.2.2.2.2.2.2.2.2.2.2.1)), ("upward", (.bl self_21.2.2.2.2.2.2.2.2.2.2.2))]) :: (dx31, .own a0) :: (p36, .lst us37) :: (p39, .lst us40) :: (p42, dlO p42 (lnsD ls43)) :: (p46, .lst (self_21.2.2.2.2.2.2.2.2.1.map V.int)) :: (lnsC ls43 ++ cs))
    obtain ⟨x49, k50, m27⟩ := bnd m27
    obtain rfl := sm m27
    exact (t_andM (r := x49) (t_test (K := K) (d_lt (d_vp (vp_fld (vp_var rfl) (List.Mem.head _) cl_Tour na_Tour_come rfl) (.int _)) (d_len (e := (eT4 eS eI eI eI)) (a_cons (d_vp (vp_fld (vp_var rfl) (List.Mem.head _) cl_Tour na_Tour_orders rfl) hw35) a_nil)))) (fun hc => by rw [if_pos hc] at k50; obtain ⟨x47, k48, k50⟩ := bnd k50; obtain rfl := sm k50; exact (t_test (K := K) (d_le (d_ixT (d_ix (e := (eT4 eS eI eI eI)) (d_vp (vp_fld (vp_var rfl) (List.Mem.head _) cl_Tour na_Tour_orders rfl) hw35) (d_vp (vp_fld (vp_var rfl) (List.Mem.head _) cl_Tour na_Tour_come rfl) (.int _)) k48) d_int rfl) (d_vp (vp_fld (vp_var rfl) (List.Mem.head _) cl_Tour na_Tour_tick rfl) (.int _))))) (fun hc => by rw [if_neg (bf hc)] at k50; exact (sm k50).symm))
  · rintro self_51 F52 F53 σ74 c75 ⟨u55, c56, rfl, rfl, h57⟩ g54
    obtain ⟨dx58, w59, w61, p63, us64, p66, us67, p69, ls70, p73, rfl, hw60, hw62, hu65, hu68, hk71, he72⟩ := h57
    exact ⟨_, ([(a0, HO.ins (He.ga K "Tour") dx58 [("aisle", w59), ("orders", w61), ("taken", (.ref p63)), ("homes", (.ref p66)), ("many", (.int self_51.2.2.2.2.1)), ("come", (.int self_51.2.2.2.2.2.1)), ("lines", (.ref p69)), ("queued", (.int self_51.2.2.2.2.2.2.2.1)), ("riding", (.ref p73)), ("tick", (.int self_51.2.2.2.2.2.2.2.2.2.1)), ("bay", (.int self_51.2.2.2.2.2.2.2.2.2.2.1)), ("upward", (.bl self_51.2.2.2.2.2.2.2.2.2.2.2))]), (dx58, HO.own a0), (p63, HO.lst us64), (p66, HO.lst us67), (p69, dlO p69 (lnsD ls70)), (p73, HO.lst (self_51.2.2.2.2.2.2.2.2.1.map V.int))] ++ lnsC ls70), rfl, rfl, ⟨_, _, _, _, _, _, _, _, _, _, rfl, (Dt.gr g54 hw60), (Dt.gr g54 hw62), (Dts.gr g54 hu65), (Dts.gr g54 hu68), (LnOk.gr g54 hk71), he72⟩⟩
  · rintro self_76 b77 F78 σ79 c80 H81 N82 B83 g84 ⟨u90, c91, rfl, rfl, h92⟩ hS85 m86 hN87 hB88 hR89
    unfold f_Tour_lie_down_w18 at m86
    try dsimp only at m86
    obtain ⟨dx93, w94, w96, p98, us99, p101, us102, p104, ls105, p108, rfl, hw95, hw97, hu100, hu103, hk106, he107⟩ := h92
    have hS109 : Sta F78 ((a0, .ins (He.ga K "Tour") dx93 [("aisle", w94), ("orders", w96), ("taken", (.ref p98)), ("homes", (.ref p101)), ("many", (.int self_76.2.2.2.2.1)), ("come", (.int self_76.2.2.2.2.2.1)), ("lines", (.ref p104)), ("queued", (.int self_76.2.2.2.2.2.2.2.1)), ("riding", (.ref p108)), ("tick", (.int self_76.2.2.2.2.2.2.2.2.2.1)), ("bay", (.int self_76.2.2.2.2.2.2.2.2.2.2.1)), ("upward", (.bl self_76.2.2.2.2.2.2.2.2.2.2.2))]) :: (dx93, .own a0) :: (p98, .lst us99) :: (p101, .lst us102) :: (p104, dlO p104 (lnsD ls105)) :: (p108, .lst (self_76.2.2.2.2.2.2.2.2.1.map V.int)) :: (lnsC ls105 ++ cs)) H81 := hS85
    obtain ⟨x110, k111, m86⟩ := bnd m86
    refine s_set (K := K) (d := (eT4 eS eI eI eI) x110) (i := 1) (σ' := fun v116 => [some (.ref a0), some v116]) hS109 (d_ix (e := (eT4 eS eI eI eI)) (d_vp (vp_fld (vp_var rfl) (List.Mem.head _) cl_Tour na_Tour_orders rfl) hw97) (d_vp (vp_fld (vp_var rfl) (List.Mem.head _) cl_Tour na_Tour_come rfl) (.int _)) k111) (fun _ => rfl) (fun v116 F112 H113 g114 hS115 hv117 => ?_)
    obtain ⟨x118, k119, m86⟩ := bnd m86
    obtain ⟨lines_120, k121, m86⟩ := bnd m86
    refine s_addL (K := K) (hd := (a0, HO.ins (He.ga K "Tour") dx93 [("aisle", w94), ("orders", w96), ("taken", (.ref p98)), ("homes", (.ref p101)), ("many", (.int self_76.2.2.2.2.1)), ("come", (.int self_76.2.2.2.2.2.1)), ("lines", (.ref p104)), ("queued", (.int self_76.2.2.2.2.2.2.2.1)), ("riding", (.ref p108)), ("tick", (.int self_76.2.2.2.2.2.2.2.2.2.1)), ("bay", (.int self_76.2.2.2.2.2.2.2.2.2.2.1)), ("upward", (.bl self_76.2.2.2.2.2.2.2.2.2.2.2))])) (l1 := [(a0, .ins (He.ga K "Tour") dx93 [("aisle", w94), ("orders", w96), ("taken", (.ref p98)), ("homes", (.ref p101)), ("many", (.int self_76.2.2.2.2.1)), ("come", (.int self_76.2.2.2.2.2.1)), ("lines", (.ref p104)), ("queued", (.int self_76.2.2.2.2.2.2.2.1)), ("riding", (.ref p108)), ("tick", (.int self_76.2.2.2.2.2.2.2.2.2.1)), ("bay", (.int self_76.2.2.2.2.2.2.2.2.2.2.1)), ("upward", (.bl self_76.2.2.2.2.2.2.2.2.2.2.2))]), (dx93, .own a0), (p98, .lst us99), (p101, .lst us102)]) (l2 := [(p108, HO.lst (self_76.2.2.2.2.2.2.2.2.1.map V.int))]) (k := (x110.2.2.1, x118)) (n := self_76.2.2.2.2.2.1) hS115 (LnOk.gr g114 hk106) he107 (vp_fld (vp_var rfl) (List.Mem.head _) cl_Tour na_Tour_lines rfl) (d_tup (a_cons (d_ixT (d_var rfl hv117) d_int rfl) (a_cons (d_call (A := A_is_upward) (B := eB) (x := x110) (a_cons (d_var rfl hv117) a_nil) k119) a_nil)) (Nat.le_of_ble_eq_true rfl)) (by simp) (fun _ hm_ => vp_fld (vp_var rfl) hm_ cl_Tour na_Tour_come rfl) k121 (fun ls126 F122 H123 g124 hS125 hk127 he128 => ?_)
    obtain ⟨queued_129, k130, m86⟩ := lt m86
    refine s_fldAdd (ta := (tVar 0)) (l1 := []) (m1 := []) (fs' := [("aisle", w94), ("orders", w96), ("taken", (.ref p98)), ("homes", (.ref p101)), ("many", (.int self_76.2.2.2.2.1)), ("come", (.int self_76.2.2.2.2.2.1)), ("lines", (.ref p104)), ("queued", (.int queued_129)), ("riding", (.ref p108)), ("tick", (.int self_76.2.2.2.2.2.2.2.2.2.1)), ("bay", (.int self_76.2.2.2.2.2.2.2.2.2.2.1)), ("upward", (.bl self_76.2.2.2.2.2.2.2.2.2.2.2))]) hS125 (vp_var rfl) cl_Tour na_Tour_queued rfl d_int (Nat.le_of_ble_eq_true rfl) (by rw [k130]; rfl) (fun F131 H132 g133 hS134 => ?_)
    obtain ⟨come_135, k136, m86⟩ := lt m86
    refine s_fldAdd (ta := (tVar 0)) (l1 := []) (m1 := []) (fs' := [("aisle", w94), ("orders", w96), ("taken", (.ref p98)), ("homes", (.ref p101)), ("many", (.int self_76.2.2.2.2.1)), ("come", (.int come_135)), ("lines", (.ref p104)), ("queued", (.int queued_129)), ("riding", (.ref p108)), ("tick", (.int self_76.2.2.2.2.2.2.2.2.2.1)), ("bay", (.int self_76.2.2.2.2.2.2.2.2.2.2.1)), ("upward", (.bl self_76.2.2.2.2.2.2.2.2.2.2.2))]) hS134 (vp_var rfl) cl_Tour na_Tour_come rfl d_int (Nat.le_of_ble_eq_true rfl) (by rw [k136]; rfl) (fun F137 H138 g139 hS140 => ?_)
    obtain rfl := sm m86
    exact hN87 _ _ _ _ _ rfl (Gr.tr g114 (Gr.tr g124 (Gr.tr g133 g139))) hS140 ⟨_, ([(a0, HO.ins (He.ga K "Tour") dx93 [("aisle", w94), ("orders", w96), ("taken", (.ref p98)), ("homes", (.ref p101)), ("many", (.int self_76.2.2.2.2.1)), ("come", (.int come_135)), ("lines", (.ref p104)), ("queued", (.int queued_129)), ("riding", (.ref p108)), ("tick", (.int self_76.2.2.2.2.2.2.2.2.2.1)), ("bay", (.int self_76.2.2.2.2.2.2.2.2.2.2.1)), ("upward", (.bl self_76.2.2.2.2.2.2.2.2.2.2.2))]), (dx93, HO.own a0), (p98, HO.lst us99), (p101, HO.lst us102), (p104, dlO p104 (lnsD ls126)), (p108, HO.lst (self_76.2.2.2.2.2.2.2.2.1.map V.int))] ++ lnsC ls126), rfl, rfl, ⟨_, _, _, _, _, _, _, _, _, _, rfl, (Dt.gr (Gr.tr g114 (Gr.tr g124 (Gr.tr g133 g139))) hw95), (Dt.gr (Gr.tr g114 (Gr.tr g124 (Gr.tr g133 g139))) hw97), (Dts.gr (Gr.tr g114 (Gr.tr g124 (Gr.tr g133 g139))) hu100), (Dts.gr (Gr.tr g114 (Gr.tr g124 (Gr.tr g133 g139))) hu103), (LnOk.gr (Gr.tr g133 g139) hk127), he128⟩⟩
theorem sc_Tour_lie_down : FnScope N_Tour_lie_down ["self"] (defScope s_Tour_lie_down) := ⟨rfl, rfl, rfl, by decide +kernel, rfl, by decide +kernel, by decide +kernel⟩
theorem ok_Tour_lie_down {P : Program} {w : World} {K : PySem.W.Frag} {mg : Str → Option Value} {base : Heap} (hF : DfM K "Tour" "lie_down" "Tour.lie_down" s_Tour_lie_down) (clM : Cls K (He.ga K "Tour")) (meM : Meth K (He.ga K "Tour") "lie_down" (He.ma K (He.ga K "Tour") "lie_down")) (m_len : mg "len" = none) (o_is_upward : Ok P w K mg base 1 "is_upward" ["order"] (sp_is_upward K)) (cl_Tour : Cls K (He.ga K "Tour")) (na_Tour_come : NoAttr K (He.ga K "Tour") "come") (na_Tour_lines : NoAttr K (He.ga K "Tour") "lines") (na_Tour_orders : NoAttr K (He.ga K "Tour") "orders") (na_Tour_queued : NoAttr K (He.ga K "Tour") "queued") (na_Tour_tick : NoAttr K (He.ga K "Tour") "tick") : OkMe P w K mg base CX0 2 "Tour" "lie_down" ["self"] (sp_Tour_lie_down K) := by
  obtain ⟨⟨_, G_is_upward, bd_is_upward, _⟩, kp_is_upward, gm_is_upward⟩ := o_is_upward
  obtain ⟨fd, F⟩ := hF
  refine ⟨⟨fd, F.ok sc_Tour_lie_down (fun vs H Q E h => ?_) (fun cdv A outer s H vs Q E hr h => ⟨t_Tour_lie_down K, PSs.nox ?_, w_Tour_lie_down cl_Tour na_Tour_come na_Tour_lines na_Tour_orders na_Tour_queued na_Tour_tick vs H Q E h⟩), F.bindsN fun _ _ _ _ _ _ us hl => match us, hl with | [_], _ => rfl⟩, clM, meM⟩
  · obtain ⟨F0, cc, cs, x, y, h, _⟩ := h; exact ArgG.len h
  · exact (pss_one (ps_while PassesOwn.never (PW.pt (pw_and (pt_cmpR op_lt (pe_fld (pv 0) rfl) (pe_callB cr_lenL (by rfl) m_len PySem.boot_len (pa_cons (pe_fld (pv 0) rfl) pa_nil)) (nomark _)) (pw_and1 (pt_cmpR op_le (pe_ix ix_tup (pe_ix ix_list (pe_fld (pv 0) rfl) (pe_fld (pv 0) rfl) (fun _ _ => rfl)) pe_int (fun _ _ => rfl)) (pe_fld (pv 0) rfl) (nomark _))))) (pss_cons (ps_set (i := 1) sc_Tour_lie_down.nd rfl (Or.inl rfl) (pe_ix ix_list (pe_fld (pv 0) rfl) (pe_fld (pv 0) rfl) (fun _ _ => rfl))) (pss_cons (ps_expr (pe_bm PySem.F.plainAttrs_list PySem.F.slot_list_append PySem.F.type_list_append mt_append (pe_setdL (hu_of hr) (pe_fld (pv 0) rfl) (pe_tup (pa_cons (pe_ix ix_tup (pv 1) pe_int (fun _ _ => rfl)) (pa_cons (pe_call G_is_upward (hr.mono (by decide)) (by rfl) gm_is_upward kp_is_upward bd_is_upward .nil pass0 (pa_cons (pv 1) pa_nil)) pa_nil))) (pe_lst pa_nil) ⟨by rfl, by rfl, by rfl, by rfl⟩) (pa_cons (pe_fld (pv 0) rfl) pa_nil))) (pss_cons (ps_fldaug (pv 0) pe_int in_add) (pss_one (ps_fldaug (pv 0) pe_int in_add)))))))
abbrev s_Tour_stop : Stmt := ((clsB (top 23)).getD 3 (.Pass ⟨0, 0, 0, 0⟩))
def f_Tour_stop_b28 (self_1 : T_Tour) : ((List (Option Int)) × Int × (List Int)) → Int → Option ((List (Option Int)) × Int × (List Int)) := fun (self_homes_31, self_many_32, kept_33) number_34 => (((atI self_1.2.1 number_34)).bind fun x57 => (if (decide (x57.2.2.2 = self_1.2.2.2.2.2.2.2.2.2.2.1)) = true then (((setM self_homes_31 number_34 (some self_1.2.2.2.2.2.2.2.2.2.1))).bind fun self_63 => (letM (self_many_32 - (1 : Int)) fun many_71 => some (self_63, many_71, kept_33))) else (((appM kept_33 number_34)).bind fun kept_81 => some (self_homes_31, self_many_32, kept_81))))
def f_Tour_stop_b116 (self_1 : T_Tour) (self_homes_93 : (List (Option Int))) (self_many_94 : Int) : (List (Option Int)) → Int → Option (List (Option Int)) := fun self_taken_119 number_120 => (((setM self_taken_119 number_120 (some self_1.2.2.2.2.2.2.2.2.2.1))).bind fun self_141 => some self_141)
def f_Tour_stop : T_Tour → Option (Unit × T_Tour) := fun self_1 => (letM ([] : (List Int)) fun kept_22 => (self_1.2.2.2.2.2.2.2.2.1.foldlM (f_Tour_stop_b28 self_1) (self_1.2.2.2.1, self_1.2.2.2.2.1, kept_22)).bind fun (self_homes_93, self_many_94, kept_95) => (((getLM self_1.2.2.2.2.2.2.1 (self_1.2.2.2.2.2.2.2.2.2.2.1, self_1.2.2.2.2.2.2.2.2.2.2.2))).bind fun line_102 => (letM (self_1.1.2 - (kept_95.length : Int)) fun room_114 => ((cutL line_102 none (some room_114)).foldlM (f_Tour_stop_b116 self_1 self_homes_93 self_many_94) self_1.2.2.1).bind fun self_taken_155 => (((catM kept_95 (cutL line_102 none (some room_114)))).bind fun x159 => (letM (self_1.2.2.2.2.2.2.2.1 - ((cutL line_102 none (some room_114)).length : Int)) fun queued_170 => (((putLM self_1.2.2.2.2.2.2.1 (self_1.2.2.2.2.2.2.2.2.2.2.1, self_1.2.2.2.2.2.2.2.2.2.2.2) (cutL line_102 (some room_114) none))).bind fun lines_178 => some ((), (self_1.1, self_1.2.1, self_taken_155, self_homes_93, self_many_94, self_1.2.2.2.2.2.1, lines_178, queued_170, x159, self_1.2.2.2.2.2.2.2.2.2.1, self_1.2.2.2.2.2.2.2.2.2.2.1, self_1.2.2.2.2.2.2.2.2.2.2.2))))))))
abbrev N_Tour_stop : List Str := ["self", "kept", "number", "line", "room"]
abbrev A_Tour_stop (K : PySem.W.Frag) : T_Tour → List Ag := fun x => [.o (fun F v c => ∃ a, v = .ref a ∧ O_Tour K x F a c)]
def R_Tour_stop (K : PySem.W.Frag) (y : (Unit × T_Tour)) (F : Hp) (vs : List V) (v : V) (c : Cs) : Prop := ∃ c0 c1 : Cs, c = (c0 ++ (c1 ++ [])) ∧ (c0 = [] ∧ Dt K F v (eN y.1)) ∧ O_Tour K y.2 F (adV (vs.getD 0 .non)) c1
abbrev sp_Tour_stop (K : PySem.W.Frag) : Sp := spG K (A_Tour_stop K) (R_Tour_stop K) f_Tour_stop
def t_Tour_stop (K : PySem.W.Frag) : TS := (tSeq (tAsg (tLst tNil) (gName 1)) (tSeq (tFor (iList K (tFld K (tVar 0) "riding")) (gName 2) (tIfS (tTest (tOp rEq (tOp (rIxT K) (tOp (rIxL K) (tFld K (tVar 0) "orders") (tVar 2)) (tC (.int 3))) (tFld K (tVar 0) "bay"))) (tSeq (tAsg (tFld K (tVar 0) "tick") (gSub (tFld K (tVar 0) "homes") (tVar 2) rSetL)) (sFldAug K (tVar 0) (tC (.int 1)) rSub "many")) (tDrop (tBM K "list" rAppend (tVar 1) (tCons (tVar 2) tNil))))) (tSeq (tAsg (tGetL K (tFld K (tVar 0) "lines") (tTup (tCons (tFld K (tVar 0) "bay") (tCons (tFld K (tVar 0) "upward") tNil))) (tLst tNil)) (gName 3)) (tSeq (tAsg (tOp (rI0 fun i j => .int (i - j)) (tOp (rIxT K) (tFld K (tVar 0) "aisle") (tC (.int 1))) (tCB (rLenL K) (tCons (tVar 1) tNil))) (gName 4)) (tSeq (tFor (iList K (tSl (rSlL K) (tVar 3) tNoPart (tPart (tVar 4)))) (gName 2) (tAsg (tFld K (tVar 0) "tick") (gSub (tFld K (tVar 0) "taken") (tVar 2) rSetL))) (tSeq (sFld K (tVar 0) (tOp (rCatS K) (tVar 1) (tSl (rSlL K) (tVar 3) tNoPart (tPart (tVar 4)))) "riding") (tSeq (sFldAug K (tVar 0) (tCB (rLenL K) (tCons (tSl (rSlL K) (tVar 3) tNoPart (tPart (tVar 4))) tNil)) rSub "queued") (sPutL K (tFld K (tVar 0) "lines") (tTup (tCons (tFld K (tVar 0) "bay") (tCons (tFld K (tVar 0) "upward") tNil))) (tSl (rSlL K) (tVar 3) (tPart (tVar 4)) tNoPart)))))))))
theorem w_Tour_stop {K : PySem.W.Frag} (cl_Tour : Cls K (He.ga K "Tour")) (na_Tour_aisle : NoAttr K (He.ga K "Tour") "aisle") (na_Tour_bay : NoAttr K (He.ga K "Tour") "bay") (na_Tour_homes : NoAttr K (He.ga K "Tour") "homes") (na_Tour_lines : NoAttr K (He.ga K "Tour") "lines") (na_Tour_many : NoAttr K (He.ga K "Tour") "many") (na_Tour_orders : NoAttr K (He.ga K "Tour") "orders") (na_Tour_queued : NoAttr K (He.ga K "Tour") "queued") (na_Tour_riding : NoAttr K (He.ga K "Tour") "riding") (na_Tour_taken : NoAttr K (He.ga K "Tour") "taken") (na_Tour_tick : NoAttr K (He.ga K "Tour") "tick") (na_Tour_upward : NoAttr K (He.ga K "Tour") "upward") (vs : List V) (H : Hp) (Q : VK) (E : XK) (h : sp_Tour_stop K vs H Q E) : t_Tour_stop K { nx := fun _ H' => Q .non H', rt := Q } (start N_Tour_stop vs) H := by
  obtain ⟨F0, cc, cs, self_1, y, h0, hS0, m, q⟩ := h
  obtain ⟨_, _, _, _, rfl, rfl, ⟨a0, rfl, ho0⟩, h1⟩ := ArgG.ho h0
  obtain ⟨rfl, rfl⟩ := ArgG.no h1
  obtain ⟨dx2, w3, w5, p7, us8, p10, us11, p13, ls14, p17, rfl, hw4, hw6, hu9, hu12, hk15, he16⟩ := ho0
  have hS1 : Sta F0 ((a0, .ins (He.ga K "Tour") dx2 [("aisle", w3), ("orders", w5), ("taken", (.ref p7)), ("homes", (.ref p10)), ("many", (.int self_1.2.2.2.2.1)), ("come", (.int self_1.2.2.2.2.2.1)), ("lines", (.ref p13)), ("queued", (.int self_1.2.2.2.2.2.2.2.1)), ("riding", (.ref p17)), ("tick", (.int self_1.2.2.2.2.2.2.2.2.2.1)), ("bay", (.int self_1.2.2.2.2.2.2.2.2.2.2.1)), ("upward", (.bl self_1.2.2.2.2.2.2.2.2.2.2.2))]) :: (dx2, .own a0) :: (p7, .lst us8) :: (p10, .lst us11) :: (p13, dlO p13 (lnsD ls14)) :: (p17, .lst (self_1.2.2.2.2.2.2.2.2.1.map V.int)) :: (lnsC ls14 ++ cs)) H := (staE (by simp [adV]) hS0)
  unfold f_Tour_stop at m
  try dsimp only at m
  unfold t_Tour_stop
  refine go (σ' := [some (.ref a0), none, none, none, none]) rfl ?_
  obtain ⟨kept_22, k23, m⟩ := lt m
  refine s_setC (K := K) (ds := kept_22.map eI) (i := 1) (σ' := fun p24 => [some (.ref a0), some (.ref p24), none, none, none]) hS1 (c_is (c_lst a_nil (Nat.le_of_ble_eq_true rfl)) (congrArg (List.map eI) k23)) (fun _ => rfl) (fun p24 us25 F18 H19 g20 hS21 hu26 => ?_)
  obtain rfl := Dts.ints hu26
  have hS27 := Sta.frozeAt (l1 := [(p24, .lst (kept_22.map V.int)), (a0, .ins (He.ga K "Tour") dx2 [("aisle", w3), ("orders", w5), ("taken", (.ref p7)), ("homes", (.ref p10)), ("many", (.int self_1.2.2.2.2.1)), ("come", (.int self_1.2.2.2.2.2.1)), ("lines", (.ref p13)), ("queued", (.int self_1.2.2.2.2.2.2.2.1)), ("riding", (.ref p17)), ("tick", (.int self_1.2.2.2.2.2.2.2.2.2.1)), ("bay", (.int self_1.2.2.2.2.2.2.2.2.2.2.1)), ("upward", (.bl self_1.2.2.2.2.2.2.2.2.2.2.2))]), (dx2, .own a0), (p7, .lst us8), (p10, .lst us11), (p13, dlO p13 (lnsD ls14))]) hS21
  obtain ⟨⟨self_homes_93, self_many_94, kept_95⟩, k30, m⟩ := bnd m
  try dsimp only at m
  refine s_for (K := K) (xs := self_1.2.2.2.2.2.2.2.2.1) (en := eI) (body := (f_Tour_stop_b28 self_1)) (s0 := (self_1.2.2.2.1, self_1.2.2.2.2.1, kept_22)) (r := (self_homes_93, self_many_94, kept_95)) (fun (a : (List (Option Int)) × Int × (List Int)) F σ c => ∃ (j2 : Option V) (j3 : Option V) (j4 : Option V) (z104 : List V), σ = [some (.ref a0), some (.ref p24), j2, j3, j4] ∧ (p24, .lst (a.2.2.map V.int)) :: (a0, .ins (He.ga K "Tour") dx2 [("aisle", w3), ("orders", w5), ("taken", (.ref p7)), ("homes", (.ref p10)), ("many", (.int a.2.1)), ("come", (.int self_1.2.2.2.2.2.1)), ("lines", (.ref p13)), ("queued", (.int self_1.2.2.2.2.2.2.2.1)), ("riding", (.ref p17)), ("tick", (.int self_1.2.2.2.2.2.2.2.2.2.1)), ("bay", (.int self_1.2.2.2.2.2.2.2.2.2.2.1)), ("upward", (.bl self_1.2.2.2.2.2.2.2.2.2.2.2))]) :: (dx2, .own a0) :: (p7, .lst us8) :: (p10, .lst z104) :: (p13, dlO p13 (lnsD ls14)) :: (lnsC ls14 ++ (cs)) = c ∧ Dts K F z104 (a.1.map (eO eI))) hS27 (i_list (en := eI) (d_vp (vp_fld (vp_var rfl) (List.Mem.tail _ (List.Mem.head _)) cl_Tour na_Tour_riding rfl) (Dt.lst (.inl (.inl upd_same)) (Dts.gr (Gr.new (Sta.freeAt (l1 := [(p24, .lst (kept_22.map V.int)), (a0, .ins (He.ga K "Tour") dx2 [("aisle", w3), ("orders", w5), ("taken", (.ref p7)), ("homes", (.ref p10)), ("many", (.int self_1.2.2.2.2.1)), ("come", (.int self_1.2.2.2.2.2.1)), ("lines", (.ref p13)), ("queued", (.int self_1.2.2.2.2.2.2.2.1)), ("riding", (.ref p17)), ("tick", (.int self_1.2.2.2.2.2.2.2.2.2.1)), ("bay", (.int self_1.2.2.2.2.2.2.2.2.2.2.1)), ("upward", (.bl self_1.2.2.2.2.2.2.2.2.2.2.2))]), (dx2, .own a0), (p7, .lst us8), (p10, .lst us11), (p13, dlO p13 (lnsD ls14))]) hS21)) (Dts.of_ints _))))) (fun _ _ => ⟨_, _, _, _, rfl, rfl, (Dts.gr ‹_› (Dts.gr (Gr.tr g20 (Gr.new (Sta.freeAt (l1 := [(p24, .lst (kept_22.map V.int)), (a0, .ins (He.ga K "Tour") dx2 [("aisle", w3), ("orders", w5), ("taken", (.ref p7)), ("homes", (.ref p10)), ("many", (.int self_1.2.2.2.2.1)), ("come", (.int self_1.2.2.2.2.2.1)), ("lines", (.ref p13)), ("queued", (.int self_1.2.2.2.2.2.2.2.1)), ("riding", (.ref p17)), ("tick", (.int self_1.2.2.2.2.2.2.2.2.2.1)), ("bay", (.int self_1.2.2.2.2.2.2.2.2.2.2.1)), ("upward", (.bl self_1.2.2.2.2.2.2.2.2.2.2.2))]), (dx2, .own a0), (p7, .lst us8), (p10, .lst us11), (p13, dlO p13 (lnsD ls14))]) hS21))) hu12))⟩) k30 ?_ ?_
  · rintro number_34 ⟨self_homes_31, self_many_32, kept_33⟩ b43 F35 F36 σ49 c50 H37 v42 N44 g38 ⟨u52, u53, u54, us55, rfl, rfl, h56⟩ g39 hS40 hv41 m51 hN46
    obtain rfl := Dt.toInt hv41
    refine tg (σ' := [some (.ref a0), some (.ref p24), some (.int number_34), u53, u54]) (fun Q hq => hq) ?_
    unfold f_Tour_stop_b28 at m51
    try dsimp only at m51
    obtain ⟨x57, k58, m51⟩ := bnd m51
    refine s_if (b := (decide (x57.2.2.2 = self_1.2.2.2.2.2.2.2.2.2.2.1))) hS40 (t_test (K := K) (d_eqI (d_ixT (d_ix (e := (eT4 eS eI eI eI)) (d_vp (vp_fld (vp_var rfl) (List.Mem.tail _ (List.Mem.head _)) cl_Tour na_Tour_orders rfl) (Dt.gr (Gr.tr g20 (Gr.tr (Gr.new (Sta.freeAt (l1 := [(p24, .lst (kept_22.map V.int)), (a0, .ins (He.ga K "Tour") dx2 [("aisle", w3), ("orders", w5), ("taken", (.ref p7)), ("homes", (.ref p10)), ("many", (.int self_1.2.2.2.2.1)), ("come", (.int self_1.2.2.2.2.2.1)), ("lines", (.ref p13)), ("queued", (.int self_1.2.2.2.2.2.2.2.1)), ("riding", (.ref p17)), ("tick", (.int self_1.2.2.2.2.2.2.2.2.2.1)), ("bay", (.int self_1.2.2.2.2.2.2.2.2.2.2.1)), ("upward", (.bl self_1.2.2.2.2.2.2.2.2.2.2.2))]), (dx2, .own a0), (p7, .lst us8), (p10, .lst us11), (p13, dlO p13 (lnsD ls14))]) hS21)) (Gr.tr g38 g39))) hw6)) (d_var rfl (.int _)) k58) d_int rfl) (d_vp (vp_fld (vp_var rfl) (List.Mem.tail _ (List.Mem.head _)) cl_Tour na_Tour_bay rfl) (.int _)))) (fun hc F59 H60 g61 hS62 => ?_) (fun hc F77 H78 g79 hS80 => ?_)
    · rw [if_pos hc] at m51
      obtain ⟨self_63, k64, m51⟩ := bnd m51
      refine s_itemGV (K := K) (k1 := [(p24, .lst (kept_33.map V.int)), (a0, .ins (He.ga K "Tour") dx2 [("aisle", w3), ("orders", w5), ("taken", (.ref p7)), ("homes", (.ref p10)), ("many", (.int self_many_32)), ("come", (.int self_1.2.2.2.2.2.1)), ("lines", (.ref p13)), ("queued", (.int self_1.2.2.2.2.2.2.2.1)), ("riding", (.ref p17)), ("tick", (.int self_1.2.2.2.2.2.2.2.2.2.1)), ("bay", (.int self_1.2.2.2.2.2.2.2.2.2.2.1)), ("upward", (.bl self_1.2.2.2.2.2.2.2.2.2.2.2))]), (dx2, .own a0), (p7, .lst us8)]) (m1 := [(p24, .lst (kept_33.map V.int)), (a0, .ins (He.ga K "Tour") dx2 [("aisle", w3), ("orders", w5), ("taken", (.ref p7)), ("homes", (.ref p10)), ("many", (.int self_many_32)), ("come", (.int self_1.2.2.2.2.2.1)), ("lines", (.ref p13)), ("queued", (.int self_1.2.2.2.2.2.2.2.1)), ("riding", (.ref p17)), ("tick", (.int self_1.2.2.2.2.2.2.2.2.2.1)), ("bay", (.int self_1.2.2.2.2.2.2.2.2.2.2.1)), ("upward", (.bl self_1.2.2.2.2.2.2.2.2.2.2.2))]), (dx2, .own a0), (p7, .lst us8)]) (x := (some self_1.2.2.2.2.2.2.2.2.2.1)) (l1 := [(p24, .lst (kept_33.map V.int)), (a0, .ins (He.ga K "Tour") dx2 [("aisle", w3), ("orders", w5), ("taken", (.ref p7)), ("homes", (.ref p10)), ("many", (.int self_many_32)), ("come", (.int self_1.2.2.2.2.2.1)), ("lines", (.ref p13)), ("queued", (.int self_1.2.2.2.2.2.2.2.1)), ("riding", (.ref p17)), ("tick", (.int self_1.2.2.2.2.2.2.2.2.2.1)), ("bay", (.int self_1.2.2.2.2.2.2.2.2.2.2.1)), ("upward", (.bl self_1.2.2.2.2.2.2.2.2.2.2.2))]), (dx2, .own a0), (p7, .lst us8)]) (p := p10) (en := (eO eI)) hS62 (Dts.gr (Gr.tr g39 g61) h56) (vp_fld (vp_var rfl) (List.Mem.tail _ (List.Mem.head _)) cl_Tour na_Tour_homes rfl) (d_vp (vp_fld (vp_var rfl) (List.Mem.tail _ (List.Mem.head _)) cl_Tour na_Tour_tick rfl) (.int _)) (d_var rfl (.int _)) k64 (fun us69 F65 H66 g67 hS68 hu70 => ?_)
      obtain ⟨many_71, k72, m51⟩ := lt m51
      refine s_fldSub (ta := (tVar 0)) (l1 := [(p24, .lst (kept_33.map V.int))]) (m1 := [(p24, .lst (kept_33.map V.int))]) (fs' := [("aisle", w3), ("orders", w5), ("taken", (.ref p7)), ("homes", (.ref p10)), ("many", (.int many_71)), ("come", (.int self_1.2.2.2.2.2.1)), ("lines", (.ref p13)), ("queued", (.int self_1.2.2.2.2.2.2.2.1)), ("riding", (.ref p17)), ("tick", (.int self_1.2.2.2.2.2.2.2.2.2.1)), ("bay", (.int self_1.2.2.2.2.2.2.2.2.2.2.1)), ("upward", (.bl self_1.2.2.2.2.2.2.2.2.2.2.2))]) hS68 (vp_var rfl) cl_Tour na_Tour_many rfl d_int (Nat.le_of_ble_eq_true rfl) (by rw [k72]; rfl) (fun F73 H74 g75 hS76 => ?_)
      obtain rfl := sm m51
      exact hN46 _ _ _ _ (Gr.tr g61 (Gr.tr g67 g75)) hS76 ⟨_, _, _, _, rfl, rfl, (Dts.gr g75 hu70)⟩
    · rw [if_neg (bf hc)] at m51
      obtain ⟨kept_81, k82, m51⟩ := bnd m51
      refine s_appFV (K := K) (k1 := []) (x := number_34) (l1 := []) (p := p24) (vf := V.int) (en := eI) (fun _ _ _ h => Dt.toInt h) hS80 (vp_var rfl) (d_var rfl (.int _)) k82 (fun F83 H84 g85 hS86 => ?_)
      obtain rfl := sm m51
      exact hN46 _ _ _ _ (Gr.tr g79 g85) hS86 ⟨_, _, _, _, rfl, rfl, (Dts.gr (Gr.tr g39 (Gr.tr g79 g85)) h56)⟩
  · rintro F87 σ92 c91 H88 g89 hS90 ⟨u96, u97, u98, us99, rfl, rfl, h100⟩
    have hS101 := Sta.frozeAt (l1 := []) hS90
    obtain ⟨line_102, k103, m⟩ := bnd m
    refine s_getL (K := K) (i := 3) (l1 := [(a0, .ins (He.ga K "Tour") dx2 [("aisle", w3), ("orders", w5), ("taken", (.ref p7)), ("homes", (.ref p10)), ("many", (.int self_many_94)), ("come", (.int self_1.2.2.2.2.2.1)), ("lines", (.ref p13)), ("queued", (.int self_1.2.2.2.2.2.2.2.1)), ("riding", (.ref p17)), ("tick", (.int self_1.2.2.2.2.2.2.2.2.2.1)), ("bay", (.int self_1.2.2.2.2.2.2.2.2.2.2.1)), ("upward", (.bl self_1.2.2.2.2.2.2.2.2.2.2.2))]), (dx2, .own a0), (p7, .lst us8), (p10, .lst us99)]) (l2 := []) (k := (self_1.2.2.2.2.2.2.2.2.2.2.1, self_1.2.2.2.2.2.2.2.2.2.2.2)) (l := line_102) hS101 (LnOk.gr (Gr.tr g20 (Gr.tr (Gr.new (Sta.freeAt (l1 := [(p24, .lst (kept_22.map V.int)), (a0, .ins (He.ga K "Tour") dx2 [("aisle", w3), ("orders", w5), ("taken", (.ref p7)), ("homes", (.ref p10)), ("many", (.int self_1.2.2.2.2.1)), ("come", (.int self_1.2.2.2.2.2.1)), ("lines", (.ref p13)), ("queued", (.int self_1.2.2.2.2.2.2.2.1)), ("riding", (.ref p17)), ("tick", (.int self_1.2.2.2.2.2.2.2.2.2.1)), ("bay", (.int self_1.2.2.2.2.2.2.2.2.2.2.1)), ("upward", (.bl self_1.2.2.2.2.2.2.2.2.2.2.2))]), (dx2, .own a0), (p7, .lst us8), (p10, .lst us11), (p13, dlO p13 (lnsD ls14))]) hS21)) (Gr.tr g89 (Gr.new (Sta.freeAt (l1 := []) hS90))))) hk15) he16 (vp_fld (vp_var rfl) (List.Mem.head _) cl_Tour na_Tour_lines rfl) (d_tup (a_cons (d_vp (vp_fld (vp_var rfl) (List.Mem.head _) cl_Tour na_Tour_bay rfl) (.int _)) (a_cons (d_vp (vp_fld (vp_var rfl) (List.Mem.head _) cl_Tour na_Tour_upward rfl) (.bl _)) a_nil)) (Nat.le_of_ble_eq_true rfl)) k103 (fun p108 F104 H105 g106 hS107 hv109 => ?_)
    refine go (σ' := [some (.ref a0), some (.ref p24), u96, some (.ref p108), u98]) rfl ?_
    obtain ⟨room_114, k115, m⟩ := lt m
    refine s_setV (K := K) (d := eI room_114) (i := 4) (σ' := [some (.ref a0), some (.ref p24), u96, some (.ref p108), some (.int room_114)]) (fun _ _ h => Dt.toInt h) hS107 (d_is (d_sub (d_ixT (d_vp (vp_fld (vp_var rfl) (List.Mem.head _) cl_Tour na_Tour_aisle rfl) (Dt.gr (Gr.tr g20 (Gr.tr (Gr.new (Sta.freeAt (l1 := [(p24, .lst (kept_22.map V.int)), (a0, .ins (He.ga K "Tour") dx2 [("aisle", w3), ("orders", w5), ("taken", (.ref p7)), ("homes", (.ref p10)), ("many", (.int self_1.2.2.2.2.1)), ("come", (.int self_1.2.2.2.2.2.1)), ("lines", (.ref p13)), ("queued", (.int self_1.2.2.2.2.2.2.2.1)), ("riding", (.ref p17)), ("tick", (.int self_1.2.2.2.2.2.2.2.2.2.1)), ("bay", (.int self_1.2.2.2.2.2.2.2.2.2.2.1)), ("upward", (.bl self_1.2.2.2.2.2.2.2.2.2.2.2))]), (dx2, .own a0), (p7, .lst us8), (p10, .lst us11), (p13, dlO p13 (lnsD ls14))]) hS21)) (Gr.tr g89 (Gr.tr (Gr.new (Sta.freeAt (l1 := []) hS90)) g106)))) hw4)) d_int rfl) (d_len (e := eI) (a_cons (d_var rfl (Dt.gr g106 (Dt.lst (.inl (.inl upd_same)) (Dts.gr (Gr.new (Sta.freeAt (l1 := []) hS90)) (Dts.of_ints _))))) a_nil))) (congrArg eI k115)) rfl (fun F110 H111 g112 hS113 => ?_)
    obtain ⟨self_taken_155, k118, m⟩ := bnd m
    refine s_for (K := K) (xs := (cutL line_102 none (some room_114))) (en := eI) (body := (f_Tour_stop_b116 self_1 self_homes_93 self_many_94)) (s0 := self_1.2.2.1) (r := self_taken_155) (fun (a : (List (Option Int))) F σ c => ∃ (j2 : Option V) (z102 : List V), σ = [some (.ref a0), some (.ref p24), j2, some (.ref p108), some (.int room_114)] ∧ (a0, .ins (He.ga K "Tour") dx2 [("aisle", w3), ("orders", w5), ("taken", (.ref p7)), ("homes", (.ref p10)), ("many", (.int self_many_94)), ("come", (.int self_1.2.2.2.2.2.1)), ("lines", (.ref p13)), ("queued", (.int self_1.2.2.2.2.2.2.2.1)), ("riding", (.ref p17)), ("tick", (.int self_1.2.2.2.2.2.2.2.2.2.1)), ("bay", (.int self_1.2.2.2.2.2.2.2.2.2.2.1)), ("upward", (.bl self_1.2.2.2.2.2.2.2.2.2.2.2))]) :: (dx2, .own a0) :: (p7, .lst z102) :: (p10, .lst us99) :: (p13, dlO p13 (lnsD ls14)) :: (lnsC (lnNo ls14 (self_1.2.2.2.2.2.2.2.2.2.2.1, self_1.2.2.2.2.2.2.2.2.2.2.2)) ++ (cs)) = c ∧ Dts K F z102 (a.map (eO eI))) hS113 (i_list (en := eI) (d_sl (d_var rfl (Dt.gr g112 hv109)) o_none (o_some (K := K) (d_var rfl (.int _))))) (fun _ _ => ⟨_, _, rfl, rfl, (Dts.gr ‹_› (Dts.gr (Gr.tr g20 (Gr.tr (Gr.new (Sta.freeAt (l1 := [(p24, .lst (kept_22.map V.int)), (a0, .ins (He.ga K "Tour") dx2 [("aisle", w3), ("orders", w5), ("taken", (.ref p7)), ("homes", (.ref p10)), ("many", (.int self_1.2.2.2.2.1)), ("come", (.int self_1.2.2.2.2.2.1)), ("lines", (.ref p13)), ("queued", (.int self_1.2.2.2.2.2.2.2.1)), ("riding", (.ref p17)), ("tick", (.int self_1.2.2.2.2.2.2.2.2.2.1)), ("bay", (.int self_1.2.2.2.2.2.2.2.2.2.2.1)), ("upward", (.bl self_1.2.2.2.2.2.2.2.2.2.2.2))]), (dx2, .own a0), (p7, .lst us8), (p10, .lst us11), (p13, dlO p13 (lnsD ls14))]) hS21)) (Gr.tr g89 (Gr.tr (Gr.new (Sta.freeAt (l1 := []) hS90)) (Gr.tr g106 g112))))) hu9))⟩) k118 ?_ ?_
    · rintro number_120 self_taken_119 b129 F121 F122 σ135 c136 H123 v128 N130 g124 ⟨u138, us139, rfl, rfl, h140⟩ g125 hS126 hv127 m137 hN132
      obtain rfl := Dt.toInt hv127
      refine tg (σ' := [some (.ref a0), some (.ref p24), some (.int number_120), some (.ref p108), some (.int room_114)]) (fun Q hq => hq) ?_
      unfold f_Tour_stop_b116 at m137
      try dsimp only at m137
      obtain ⟨self_141, k142, m137⟩ := bnd m137
      refine s_itemGV (K := K) (k1 := [(a0, .ins (He.ga K "Tour") dx2 [("aisle", w3), ("orders", w5), ("taken", (.ref p7)), ("homes", (.ref p10)), ("many", (.int self_many_94)), ("come", (.int self_1.2.2.2.2.2.1)), ("lines", (.ref p13)), ("queued", (.int self_1.2.2.2.2.2.2.2.1)), ("riding", (.ref p17)), ("tick", (.int self_1.2.2.2.2.2.2.2.2.2.1)), ("bay", (.int self_1.2.2.2.2.2.2.2.2.2.2.1)), ("upward", (.bl self_1.2.2.2.2.2.2.2.2.2.2.2))]), (dx2, .own a0)]) (m1 := [(a0, .ins (He.ga K "Tour") dx2 [("aisle", w3), ("orders", w5), ("taken", (.ref p7)), ("homes", (.ref p10)), ("many", (.int self_many_94)), ("come", (.int self_1.2.2.2.2.2.1)), ("lines", (.ref p13)), ("queued", (.int self_1.2.2.2.2.2.2.2.1)), ("riding", (.ref p17)), ("tick", (.int self_1.2.2.2.2.2.2.2.2.2.1)), ("bay", (.int self_1.2.2.2.2.2.2.2.2.2.2.1)), ("upward", (.bl self_1.2.2.2.2.2.2.2.2.2.2.2))]), (dx2, .own a0)]) (x := (some self_1.2.2.2.2.2.2.2.2.2.1)) (l1 := [(a0, .ins (He.ga K "Tour") dx2 [("aisle", w3), ("orders", w5), ("taken", (.ref p7)), ("homes", (.ref p10)), ("many", (.int self_many_94)), ("come", (.int self_1.2.2.2.2.2.1)), ("lines", (.ref p13)), ("queued", (.int self_1.2.2.2.2.2.2.2.1)), ("riding", (.ref p17)), ("tick", (.int self_1.2.2.2.2.2.2.2.2.2.1)), ("bay", (.int self_1.2.2.2.2.2.2.2.2.2.2.1)), ("upward", (.bl self_1.2.2.2.2.2.2.2.2.2.2.2))]), (dx2, .own a0)]) (p := p7) (en := (eO eI)) hS126 (Dts.gr g125 h140) (vp_fld (vp_var rfl) (List.Mem.head _) cl_Tour na_Tour_taken rfl) (d_vp (vp_fld (vp_var rfl) (List.Mem.head _) cl_Tour na_Tour_tick rfl) (.int _)) (d_var rfl (.int _)) k142 (fun us147 F143 H144 g145 hS146 hu148 => ?_)
      obtain rfl := sm m137
      exact hN132 _ _ _ _ g145 hS146 ⟨_, _, rfl, rfl, hu148⟩
    · rintro F149 σ154 c153 H150 g151 hS152 ⟨u156, us157, rfl, rfl, h158⟩
      refine s_fldO ?_
      obtain ⟨x159, k160, m⟩ := bnd m
      refine o_c (K := K) (ds := x159.map eI) hS152 (c_cat (en := eI) (d_var rfl (Dt.gr (Gr.tr g106 (Gr.tr g112 g151)) (Dt.lst (.inl (.inl upd_same)) (Dts.gr (Gr.new (Sta.freeAt (l1 := []) hS90)) (Dts.of_ints _))))) (d_sl (d_var rfl (Dt.gr (Gr.tr g112 g151) hv109)) o_none (o_some (K := K) (d_var rfl (.int _)))) k160) (fun p165 us166 F161 H162 g163 hS164 hu167 => ?_)
      obtain rfl := Dts.ints hu167
      refine o_fld (σ := [some (.ref a0), some (.ref p24), u156, some (.ref p108), some (.int room_114)]) (ta := (tVar 0)) (l1 := [(p165, .lst (x159.map V.int))]) (fs' := [("aisle", w3), ("orders", w5), ("taken", (.ref p7)), ("homes", (.ref p10)), ("many", (.int self_many_94)), ("come", (.int self_1.2.2.2.2.2.1)), ("lines", (.ref p13)), ("queued", (.int self_1.2.2.2.2.2.2.2.1)), ("riding", (.ref p165)), ("tick", (.int self_1.2.2.2.2.2.2.2.2.2.1)), ("bay", (.int self_1.2.2.2.2.2.2.2.2.2.2.1)), ("upward", (.bl self_1.2.2.2.2.2.2.2.2.2.2.2))]) hS164 (vp_var rfl) cl_Tour na_Tour_riding (Nat.le_of_ble_eq_true rfl) rfl (fun H168 hS169 => ?_)
      obtain ⟨queued_170, k171, m⟩ := lt m
      refine s_fldSub (ta := (tVar 0)) (l1 := [(p165, .lst (x159.map V.int))]) (m1 := [(p165, .lst (x159.map V.int))]) (fs' := [("aisle", w3), ("orders", w5), ("taken", (.ref p7)), ("homes", (.ref p10)), ("many", (.int self_many_94)), ("come", (.int self_1.2.2.2.2.2.1)), ("lines", (.ref p13)), ("queued", (.int queued_170)), ("riding", (.ref p165)), ("tick", (.int self_1.2.2.2.2.2.2.2.2.2.1)), ("bay", (.int self_1.2.2.2.2.2.2.2.2.2.2.1)), ("upward", (.bl self_1.2.2.2.2.2.2.2.2.2.2.2))]) hS169 (vp_var rfl) cl_Tour na_Tour_queued rfl (d_len (e := eI) (a_cons (d_sl (d_var rfl (Dt.gr (Gr.tr g112 (Gr.tr g151 g163)) hv109)) o_none (o_some (K := K) (d_var rfl (.int _)))) a_nil)) (Nat.le_of_ble_eq_true rfl) (by rw [k171]; rfl) (fun F172 H173 g174 hS175 => ?_)
      obtain ⟨lines_178, k179, m⟩ := bnd m
      refine s_putL (K := K) (l1 := [(p165, .lst (x159.map V.int)), (a0, .ins (He.ga K "Tour") dx2 [("aisle", w3), ("orders", w5), ("taken", (.ref p7)), ("homes", (.ref p10)), ("many", (.int self_many_94)), ("come", (.int self_1.2.2.2.2.2.1)), ("lines", (.ref p13)), ("queued", (.int queued_170)), ("riding", (.ref p165)), ("tick", (.int self_1.2.2.2.2.2.2.2.2.2.1)), ("bay", (.int self_1.2.2.2.2.2.2.2.2.2.2.1)), ("upward", (.bl self_1.2.2.2.2.2.2.2.2.2.2.2))]), (dx2, .own a0), (p7, .lst us157), (p10, .lst us99)]) (l2 := []) (k := (self_1.2.2.2.2.2.2.2.2.2.2.1, self_1.2.2.2.2.2.2.2.2.2.2.2)) (l := (cutL line_102 (some room_114) none)) hS175 (LnOk.gr (Gr.tr g20 (Gr.tr (Gr.new (Sta.freeAt (l1 := [(p24, .lst (kept_22.map V.int)), (a0, .ins (He.ga K "Tour") dx2 [("aisle", w3), ("orders", w5), ("taken", (.ref p7)), ("homes", (.ref p10)), ("many", (.int self_1.2.2.2.2.1)), ("come", (.int self_1.2.2.2.2.2.1)), ("lines", (.ref p13)), ("queued", (.int self_1.2.2.2.2.2.2.2.1)), ("riding", (.ref p17)), ("tick", (.int self_1.2.2.2.2.2.2.2.2.2.1)), ("bay", (.int self_1.2.2.2.2.2.2.2.2.2.2.1)), ("upward", (.bl self_1.2.2.2.2.2.2.2.2.2.2.2))]), (dx2, .own a0), (p7, .lst us8), (p10, .lst us11), (p13, dlO p13 (lnsD ls14))]) hS21)) (Gr.tr g89 (Gr.tr (Gr.new (Sta.freeAt (l1 := []) hS90)) (Gr.tr g106 (Gr.tr g112 (Gr.tr g151 (Gr.tr g163 g174)))))))) hk15) he16 (c_sl (d_var rfl (Dt.gr (Gr.tr g112 (Gr.tr g151 (Gr.tr g163 g174))) hv109)) (o_some (K := K) (d_var rfl (.int _))) o_none) (fun _ => (vp_fld (vp_var rfl) (List.Mem.tail _ (List.Mem.tail _ (List.Mem.head _))) cl_Tour na_Tour_lines rfl)) (fun p176 us177 => (d_tup (a_cons (d_vp (vp_fld (vp_var rfl) (List.Mem.tail _ (List.Mem.tail _ (List.Mem.head _))) cl_Tour na_Tour_bay rfl) (.int _)) (a_cons (d_vp (vp_fld (vp_var rfl) (List.Mem.tail _ (List.Mem.tail _ (List.Mem.head _))) cl_Tour na_Tour_upward rfl) (.bl _)) a_nil)) (Nat.le_of_ble_eq_true rfl))) k179 (fun ls184 F180 H181 g182 hS183 hk185 he186 => ?_)
      have hS187 := Sta.perm hS183 (List.Perm.trans (List.perm_middle (l₁ := [(p165, HO.lst (x159.map V.int)), (a0, HO.ins (He.ga K "Tour") dx2 [("aisle", w3), ("orders", w5), ("taken", (.ref p7)), ("homes", (.ref p10)), ("many", (.int self_many_94)), ("come", (.int self_1.2.2.2.2.2.1)), ("lines", (.ref p13)), ("queued", (.int queued_170)), ("riding", (.ref p165)), ("tick", (.int self_1.2.2.2.2.2.2.2.2.2.1)), ("bay", (.int self_1.2.2.2.2.2.2.2.2.2.2.1)), ("upward", (.bl self_1.2.2.2.2.2.2.2.2.2.2.2))]), (dx2, HO.own a0), (p7, HO.lst us157), (p10, HO.lst us99)])) (List.Perm.trans (List.perm_middle (l₁ := [(p13, dlO p13 (lnsD ls184)), (p165, HO.lst (x159.map V.int)), (a0, HO.ins (He.ga K "Tour") dx2 [("aisle", w3), ("orders", w5), ("taken", (.ref p7)), ("homes", (.ref p10)), ("many", (.int self_many_94)), ("come", (.int self_1.2.2.2.2.2.1)), ("lines", (.ref p13)), ("queued", (.int queued_170)), ("riding", (.ref p165)), ("tick", (.int self_1.2.2.2.2.2.2.2.2.2.1)), ("bay", (.int self_1.2.2.2.2.2.2.2.2.2.2.1)), ("upward", (.bl self_1.2.2.2.2.2.2.2.2.2.2.2))]), (dx2, HO.own a0), (p7, HO.lst us157)])) (List.Perm.trans (List.perm_middle (l₁ := [(p10, HO.lst us99), (p13, dlO p13 (lnsD ls184)), (p165, HO.lst (x159.map V.int)), (a0, HO.ins (He.ga K "Tour") dx2 [("aisle", w3), ("orders", w5), ("taken", (.ref p7)), ("homes", (.ref p10)), ("many", (.int self_many_94)), ("come", (.int self_1.2.2.2.2.2.1)), ("lines", (.ref p13)), ("queued", (.int queued_170)), ("riding", (.ref p165)), ("tick", (.int self_1.2.2.2.2.2.2.2.2.2.1)), ("bay", (.int self_1.2.2.2.2.2.2.2.2.2.2.1)), ("upward", (.bl self_1.2.2.2.2.2.2.2.2.2.2.2))]), (dx2, HO.own a0)])) (List.Perm.trans (List.perm_middle (l₁ := [(p7, HO.lst us157), (p10, HO.lst us99), (p13, dlO p13 (lnsD ls184)), (p165, HO.lst (x159.map V.int)), (a0, HO.ins (He.ga K "Tour") dx2 [("aisle", w3), ("orders", w5), ("taken", (.ref p7)), ("homes", (.ref p10)), ("many", (.int self_many_94)), ("come", (.int self_1.2.2.2.2.2.1)), ("lines", (.ref p13)), ("queued", (.int queued_170)), ("riding", (.ref p165)), ("tick", (.int self_1.2.2.2.2.2.2.2.2.2.1)), ("bay", (.int self_1.2.2.2.2.2.2.2.2.2.2.1)), ("upward", (.bl self_1.2.2.2.2.2.2.2.2.2.2.2))])])) (List.perm_middle (l₁ := [(dx2, HO.own a0), (p7, HO.lst us157), (p10, HO.lst us99), (p13, dlO p13 (lnsD ls184)), (p165, HO.lst (x159.map V.int))]))))))
      obtain rfl := sm m
      exact q _ ([] ++ (([(a0, HO.ins (He.ga K "Tour") dx2 [("aisle", w3), ("orders", w5), ("taken", (.ref p7)), ("homes", (.ref p10)), ("many", (.int self_many_94)), ("come", (.int self_1.2.2.2.2.2.1)), ("lines", (.ref p13)), ("queued", (.int queued_170)), ("riding", (.ref p165)), ("tick", (.int self_1.2.2.2.2.2.2.2.2.2.1)), ("bay", (.int self_1.2.2.2.2.2.2.2.2.2.2.1)), ("upward", (.bl self_1.2.2.2.2.2.2.2.2.2.2.2))]), (dx2, HO.own a0), (p7, HO.lst us157), (p10, HO.lst us99), (p13, dlO p13 (lnsD ls184)), (p165, HO.lst (x159.map V.int))] ++ lnsC ls184) ++ [])) _ _ (Gr.tr g20 (Gr.tr (Gr.new (Sta.freeAt (l1 := [(p24, .lst (kept_22.map V.int)), (a0, .ins (He.ga K "Tour") dx2 [("aisle", w3), ("orders", w5), ("taken", (.ref p7)), ("homes", (.ref p10)), ("many", (.int self_1.2.2.2.2.1)), ("come", (.int self_1.2.2.2.2.2.1)), ("lines", (.ref p13)), ("queued", (.int self_1.2.2.2.2.2.2.2.1)), ("riding", (.ref p17)), ("tick", (.int self_1.2.2.2.2.2.2.2.2.2.1)), ("bay", (.int self_1.2.2.2.2.2.2.2.2.2.2.1)), ("upward", (.bl self_1.2.2.2.2.2.2.2.2.2.2.2))]), (dx2, .own a0), (p7, .lst us8), (p10, .lst us11), (p13, dlO p13 (lnsD ls14))]) hS21)) (Gr.tr g89 (Gr.tr (Gr.new (Sta.freeAt (l1 := []) hS90)) (Gr.tr g106 (Gr.tr g112 (Gr.tr g151 (Gr.tr g163 (Gr.tr g174 g182))))))))) (staE (by simp [adV]) (show Sta _ ((a0, HO.ins (He.ga K "Tour") dx2 [("aisle", w3), ("orders", w5), ("taken", (.ref p7)), ("homes", (.ref p10)), ("many", (.int self_many_94)), ("come", (.int self_1.2.2.2.2.2.1)), ("lines", (.ref p13)), ("queued", (.int queued_170)), ("riding", (.ref p165)), ("tick", (.int self_1.2.2.2.2.2.2.2.2.2.1)), ("bay", (.int self_1.2.2.2.2.2.2.2.2.2.2.1)), ("upward", (.bl self_1.2.2.2.2.2.2.2.2.2.2.2))]) :: (dx2, HO.own a0) :: (p7, HO.lst us157) :: (p10, HO.lst us99) :: (p13, dlO p13 (lnsD ls184)) :: (p165, HO.lst (x159.map V.int)) :: (lnsC ls184 ++ cs)) _ from hS187)) ⟨[], ([(a0, HO.ins (He.ga K "Tour") dx2 [("aisle", w3), ("orders", w5), ("taken", (.ref p7)), ("homes", (.ref p10)), ("many", (.int self_many_94)), ("come", (.int self_1.2.2.2.2.2.1)), ("lines", (.ref p13)), ("queued", (.int queued_170)), ("riding", (.ref p165)), ("tick", (.int self_1.2.2.2.2.2.2.2.2.2.1)), ("bay", (.int self_1.2.2.2.2.2.2.2.2.2.2.1)), ("upward", (.bl self_1.2.2.2.2.2.2.2.2.2.2.2))]), (dx2, HO.own a0), (p7, HO.lst us157), (p10, HO.lst us99), (p13, dlO p13 (lnsD ls184)), (p165, HO.lst (x159.map V.int))] ++ lnsC ls184), rfl, ⟨rfl, Dt.non⟩, ⟨_, _, _, _, _, _, _, _, _, _, rfl, (Dt.gr (Gr.tr g20 (Gr.tr (Gr.new (Sta.freeAt (l1 := [(p24, .lst (kept_22.map V.int)), (a0, .ins (He.ga K "Tour") dx2 [("aisle", w3), ("orders", w5), ("taken", (.ref p7)), ("homes", (.ref p10)), ("many", (.int self_1.2.2.2.2.1)), ("come", (.int self_1.2.2.2.2.2.1)), ("lines", (.ref p13)), ("queued", (.int self_1.2.2.2.2.2.2.2.1)), ("riding", (.ref p17)), ("tick", (.int self_1.2.2.2.2.2.2.2.2.2.1)), ("bay", (.int self_1.2.2.2.2.2.2.2.2.2.2.1)), ("upward", (.bl self_1.2.2.2.2.2.2.2.2.2.2.2))]), (dx2, .own a0), (p7, .lst us8), (p10, .lst us11), (p13, dlO p13 (lnsD ls14))]) hS21)) (Gr.tr g89 (Gr.tr (Gr.new (Sta.freeAt (l1 := []) hS90)) (Gr.tr g106 (Gr.tr g112 (Gr.tr g151 (Gr.tr g163 (Gr.tr g174 g182))))))))) hw4), (Dt.gr (Gr.tr g20 (Gr.tr (Gr.new (Sta.freeAt (l1 := [(p24, .lst (kept_22.map V.int)), (a0, .ins (He.ga K "Tour") dx2 [("aisle", w3), ("orders", w5), ("taken", (.ref p7)), ("homes", (.ref p10)), ("many", (.int self_1.2.2.2.2.1)), ("come", (.int self_1.2.2.2.2.2.1)), ("lines", (.ref p13)), ("queued", (.int self_1.2.2.2.2.2.2.2.1)), ("riding", (.ref p17)), ("tick", (.int self_1.2.2.2.2.2.2.2.2.2.1)), ("bay", (.int self_1.2.2.2.2.2.2.2.2.2.2.1)), ("upward", (.bl self_1.2.2.2.2.2.2.2.2.2.2.2))]), (dx2, .own a0), (p7, .lst us8), (p10, .lst us11), (p13, dlO p13 (lnsD ls14))]) hS21)) (Gr.tr g89 (Gr.tr (Gr.new (Sta.freeAt (l1 := []) hS90)) (Gr.tr g106 (Gr.tr g112 (Gr.tr g151 (Gr.tr g163 (Gr.tr g174 g182))))))))) hw6), (Dts.gr (Gr.tr g163 (Gr.tr g174 g182)) h158), (Dts.gr (Gr.tr (Gr.new (Sta.freeAt (l1 := []) hS90)) (Gr.tr g106 (Gr.tr g112 (Gr.tr g151 (Gr.tr g163 (Gr.tr g174 g182)))))) h100), hk185, he186⟩⟩
theorem sc_Tour_stop : FnScope N_Tour_stop ["self"] (defScope s_Tour_stop) := ⟨rfl, rfl, rfl, by decide +kernel, rfl, by decide +kernel, by decide +kernel⟩
theorem ok_Tour_stop {P : Program} {w : World} {K : PySem.W.Frag} {mg : Str → Option Value} {base : Heap} (hF : DfM K "Tour" "stop" "Tour.stop" s_Tour_stop) (clM : Cls K (He.ga K "Tour")) (meM : Meth K (He.ga K "Tour") "stop" (He.ma K (He.ga K "Tour") "stop")) (m_len : mg "len" = none) (cl_Tour : Cls K (He.ga K "Tour")) (na_Tour_aisle : NoAttr K (He.ga K "Tour") "aisle") (na_Tour_bay : NoAttr K (He.ga K "Tour") "bay") (na_Tour_homes : NoAttr K (He.ga K "Tour") "homes") (na_Tour_lines : NoAttr K (He.ga K "Tour") "lines") (na_Tour_many : NoAttr K (He.ga K "Tour") "many") (na_Tour_orders : NoAttr K (He.ga K "Tour") "orders") (na_Tour_queued : NoAttr K (He.ga K "Tour") "queued") (na_Tour_riding : NoAttr K (He.ga K "Tour") "riding") (na_Tour_taken : NoAttr K (He.ga K "Tour") "taken") (na_Tour_tick : NoAttr K (He.ga K "Tour") "tick") (na_Tour_upward : NoAttr K (He.ga K "Tour") "upward") : OkMe P w K mg base CX0 1 "Tour" "stop" ["self"] (sp_Tour_stop K) := by
  obtain ⟨fd, F⟩ := hF
  refine ⟨⟨fd, F.ok sc_Tour_stop (fun vs H Q E h => ?_) (fun cdv A outer s H vs Q E hr h => ⟨t_Tour_stop K, PSs.nox ?_, w_Tour_stop cl_Tour na_Tour_aisle na_Tour_bay na_Tour_homes na_Tour_lines na_Tour_many na_Tour_orders na_Tour_queued na_Tour_riding na_Tour_taken na_Tour_tick na_Tour_upward vs H Q E h⟩), F.bindsN fun _ _ _ _ _ _ us hl => match us, hl with | [_], _ => rfl⟩, clM, meM⟩
  · obtain ⟨F0, cc, cs, x, y, h, _⟩ := h; exact ArgG.len h
  · exact (pss_cons (ps_set (i := 1) sc_Tour_stop.nd rfl (Or.inl rfl) (pe_lst pa_nil)) (pss_cons (ps_for PassesOwn.never rfl (pi_list (pe_fld (pv 0) rfl)) (pg_name (i := 2) sc_Tour_stop.nd rfl (Or.inl rfl)) (pss_one (ps_if (pt_cmpR op_eq (pe_ix ix_tup (pe_ix ix_list (pe_fld (pv 0) rfl) (pv 2) (fun _ _ => rfl)) pe_int (fun _ _ => rfl)) (pe_fld (pv 0) rfl) (nomark _)) (pss_cons (ps_asg (pe_fld (pv 0) rfl) (pg_sub (pe_fld (pv 0) rfl) (pv 2) set_list)) (pss_one (ps_fldaug (pv 0) pe_int in_sub))) (pss_one (ps_expr (pe_bm PySem.F.plainAttrs_list PySem.F.slot_list_append PySem.F.type_list_append mt_append (pv 1) (pa_cons (pv 2) pa_nil))))))) (pss_cons (ps_set (i := 3) sc_Tour_stop.nd rfl (Or.inl rfl) (pe_getL (hu_of hr) (pe_fld (pv 0) rfl) (pe_tup (pa_cons (pe_fld (pv 0) rfl) (pa_cons (pe_fld (pv 0) rfl) pa_nil))) (pe_lst pa_nil) ⟨by rfl, by rfl, by rfl, by rfl⟩)) (pss_cons (ps_set (i := 4) sc_Tour_stop.nd rfl (Or.inl rfl) (pe_op op_sub (pe_ix ix_tup (pe_fld (pv 0) rfl) pe_int (fun _ _ => rfl)) (pe_callB cr_lenL (by rfl) m_len PySem.boot_len (pa_cons (pv 1) pa_nil)))) (pss_cons (ps_for PassesOwn.never rfl (pi_list (pe_slice sl_list (pv 3) po_none (po_some (pv 4)))) (pg_name (i := 2) sc_Tour_stop.nd rfl (Or.inl rfl)) (pss_one (ps_asg (pe_fld (pv 0) rfl) (pg_sub (pe_fld (pv 0) rfl) (pv 2) set_list)))) (pss_cons (ps_fld (pv 0) (pe_op op_catS (pv 1) (pe_slice sl_list (pv 3) po_none (po_some (pv 4)))) rfl) (pss_cons (ps_fldaug (pv 0) (pe_callB cr_lenL (by rfl) m_len PySem.boot_len (pa_cons (pe_slice sl_list (pv 3) po_none (po_some (pv 4))) pa_nil)) in_sub) (pss_one (ps_putL (hu_of hr) (pe_fld (pv 0) rfl) (pe_tup (pa_cons (pe_fld (pv 0) rfl) (pa_cons (pe_fld (pv 0) rfl) pa_nil))) (pe_slice sl_list (pv 3) (po_some (pv 4)) po_none) rfl)))))))))
abbrev s_Tour_leave : Stmt := ((clsB (top 23)).getD 4 (.Pass ⟨0, 0, 0, 0⟩))
def f_Tour_leave : T_Tour → Option (Unit × T_Tour) := fun self_1 => (if self_1.2.2.2.2.2.2.2.2.2.2.2 = true then (((atI self_1.1.1 self_1.2.2.2.2.2.2.2.2.2.2.1)).bind fun x22 => letM (self_1.2.2.2.2.2.2.2.2.2.1 + x22) fun tick_24 => (letM (self_1.2.2.2.2.2.2.2.2.2.2.1 + (1 : Int)) fun bay_30 => (letM (decide (bay_30 < (self_1.1.1.length : Int))) fun x36 => some ((), (self_1.1, self_1.2.1, self_1.2.2.1, self_1.2.2.2.1, self_1.2.2.2.2.1, self_1.2.2.2.2.2.1, self_1.2.2.2.2.2.2.1, self_1.2.2.2.2.2.2.2.1, self_1.2.2.2.2.2.2.2.2.1, tick_24, bay_30, x36))))) else (letM (self_1.2.2.2.2.2.2.2.2.2.2.1 - (1 : Int)) fun bay_51 => (((atI self_1.1.1 bay_51)).bind fun x57 => letM (self_1.2.2.2.2.2.2.2.2.2.1 + x57) fun tick_59 => (letM (decide (bay_51 = (0 : Int))) fun x65 => some ((), (self_1.1, self_1.2.1, self_1.2.2.1, self_1.2.2.2.1, self_1.2.2.2.2.1, self_1.2.2.2.2.2.1, self_1.2.2.2.2.2.2.1, self_1.2.2.2.2.2.2.2.1, self_1.2.2.2.2.2.2.2.2.1, tick_59, bay_51, x65))))))
abbrev N_Tour_leave : List Str := ["self"]
abbrev A_Tour_leave (K : PySem.W.Frag) : T_Tour → List Ag := fun x => [.o (fun F v c => ∃ a, v = .ref a ∧ O_Tour K x F a c)]
def R_Tour_leave (K : PySem.W.Frag) (y : (Unit × T_Tour)) (F : Hp) (vs : List V) (v : V) (c : Cs) : Prop := ∃ c0 c1 : Cs, c = (c0 ++ (c1 ++ [])) ∧ (c0 = [] ∧ Dt K F v (eN y.1)) ∧ O_Tour K y.2 F (adV (vs.getD 0 .non)) c1
abbrev sp_Tour_leave (K : PySem.W.Frag) : Sp := spG K (A_Tour_leave K) (R_Tour_leave K) f_Tour_leave
def t_Tour_leave (K : PySem.W.Frag) : TS := (tIfS (tB (tFld K (tVar 0) "upward")) (tSeq (sFldAug K (tVar 0) (tOp (rIxL K) (tOp (rIxT K) (tFld K (tVar 0) "aisle") (tC (.int 0))) (tFld K (tVar 0) "bay")) rAdd "tick") (tSeq (sFldAug K (tVar 0) (tC (.int 1)) rAdd "bay") (sFld K (tVar 0) (tOp (rI0 fun i j => .bl (decide (i < j))) (tFld K (tVar 0) "bay") (tCB (rLenL K) (tCons (tOp (rIxT K) (tFld K (tVar 0) "aisle") (tC (.int 0))) tNil))) "upward"))) (tSeq (sFldAug K (tVar 0) (tC (.int 1)) rSub "bay") (tSeq (sFldAug K (tVar 0) (tOp (rIxL K) (tOp (rIxT K) (tFld K (tVar 0) "aisle") (tC (.int 0))) (tFld K (tVar 0) "bay")) rAdd "tick") (sFld K (tVar 0) (tOp rEq (tFld K (tVar 0) "bay") (tC (.int 0))) "upward"))))
theorem w_Tour_leave {K : PySem.W.Frag} (cl_Tour : Cls K (He.ga K "Tour")) (na_Tour_aisle : NoAttr K (He.ga K "Tour") "aisle") (na_Tour_bay : NoAttr K (He.ga K "Tour") "bay") (na_Tour_tick : NoAttr K (He.ga K "Tour") "tick") (na_Tour_upward : NoAttr K (He.ga K "Tour") "upward") (vs : List V) (H : Hp) (Q : VK) (E : XK) (h : sp_Tour_leave K vs H Q E) : t_Tour_leave K { nx := fun _ H' => Q .non H', rt := Q } (start N_Tour_leave vs) H := by
  obtain ⟨F0, cc, cs, self_1, y, h0, hS0, m, q⟩ := h
  obtain ⟨_, _, _, _, rfl, rfl, ⟨a0, rfl, ho0⟩, h1⟩ := ArgG.ho h0
  obtain ⟨rfl, rfl⟩ := ArgG.no h1
  obtain ⟨dx2, w3, w5, p7, us8, p10, us11, p13, ls14, p17, rfl, hw4, hw6, hu9, hu12, hk15, he16⟩ := ho0
  have hS1 : Sta F0 ((a0, .ins (He.ga K "Tour") dx2 [("aisle", w3), ("orders", w5), ("taken", (.ref p7)), ("homes", (.ref p10)), ("many", (.int self_1.2.2.2.2.1)), ("come", (.int self_1.2.2.2.2.2.1)), ("lines", (.ref p13)), ("queued", (.int self_1.2.2.2.2.2.2.2.1)), ("riding", (.ref p17)), ("tick", (.int self_1.2.2.2.2.2.2.2.2.2.1)), ("bay", (.int self_1.2.2.2.2.2.2.2.2.2.2.1)), ("upward", (.bl self_1.2.2.2.2.2.2.2.2.2.2.2))]) :: (dx2, .own a0) :: (p7, .lst us8) :: (p10, .lst us11) :: (p13, dlO p13 (lnsD ls14)) :: (p17, .lst (self_1.2.2.2.2.2.2.2.2.1.map V.int)) :: (lnsC ls14 ++ cs)) H := (staE (by simp [adV]) hS0)
  unfold f_Tour_leave at m
  try dsimp only at m
  unfold t_Tour_leave
  refine go (σ' := [some (.ref a0)]) rfl ?_
  refine s_if (b := self_1.2.2.2.2.2.2.2.2.2.2.2) hS1 (t_B (K := K) (d_vp (vp_fld (vp_var rfl) (List.Mem.head _) cl_Tour na_Tour_upward rfl) (.bl _))) (fun hc F18 H19 g20 hS21 => ?_) (fun hc F47 H48 g49 hS50 => ?_)
  · rw [if_pos hc] at m
    obtain ⟨x22, k23, m⟩ := bnd m
    obtain ⟨tick_24, k25, m⟩ := lt m
    refine s_fldAdd (ta := (tVar 0)) (l1 := []) (m1 := []) (fs' := [("aisle", w3), ("orders", w5), ("taken", (.ref p7)), ("homes", (.ref p10)), ("many", (.int self_1.2.2.2.2.1)), ("come", (.int self_1.2.2.2.2.2.1)), ("lines", (.ref p13)), ("queued", (.int self_1.2.2.2.2.2.2.2.1)), ("riding", (.ref p17)), ("tick", (.int tick_24)), ("bay", (.int self_1.2.2.2.2.2.2.2.2.2.2.1)), ("upward", (.bl self_1.2.2.2.2.2.2.2.2.2.2.2))]) hS21 (vp_var rfl) cl_Tour na_Tour_tick rfl (d_ix (e := eI) (d_ixT (d_vp (vp_fld (vp_var rfl) (List.Mem.head _) cl_Tour na_Tour_aisle rfl) (Dt.gr g20 hw4)) d_int rfl) (d_vp (vp_fld (vp_var rfl) (List.Mem.head _) cl_Tour na_Tour_bay rfl) (.int _)) k23) (Nat.le_of_ble_eq_true rfl) (by rw [k25]; rfl) (fun F26 H27 g28 hS29 => ?_)
    obtain ⟨bay_30, k31, m⟩ := lt m
    refine s_fldAdd (ta := (tVar 0)) (l1 := []) (m1 := []) (fs' := [("aisle", w3), ("orders", w5), ("taken", (.ref p7)), ("homes", (.ref p10)), ("many", (.int self_1.2.2.2.2.1)), ("come", (.int self_1.2.2.2.2.2.1)), ("lines", (.ref p13)), ("queued", (.int self_1.2.2.2.2.2.2.2.1)), ("riding", (.ref p17)), ("tick", (.int tick_24)), ("bay", (.int bay_30)), ("upward", (.bl self_1.2.2.2.2.2.2.2.2.2.2.2))]) hS29 (vp_var rfl) cl_Tour na_Tour_bay rfl d_int (Nat.le_of_ble_eq_true rfl) (by rw [k31]; rfl) (fun F32 H33 g34 hS35 => ?_)
    refine s_fldO ?_
    obtain ⟨x36, k37, m⟩ := lt m
    refine o_d (K := K) (d := eB x36) hS35 (d_is (d_lt (d_vp (vp_fld (vp_var rfl) (List.Mem.head _) cl_Tour na_Tour_bay rfl) (.int _)) (d_len (e := eI) (a_cons (d_ixT (d_vp (vp_fld (vp_var rfl) (List.Mem.head _) cl_Tour na_Tour_aisle rfl) (Dt.gr (Gr.tr g20 (Gr.tr g28 g34)) hw4)) d_int rfl) a_nil))) (congrArg eB k37)) (fun v42 F38 H39 g40 hS41 hv43 => ?_)
    obtain rfl := Dt.toBl hv43
    refine o_fld (σ := [some (.ref a0)]) (ta := (tVar 0)) (l1 := []) (fs' := [("aisle", w3), ("orders", w5), ("taken", (.ref p7)), ("homes", (.ref p10)), ("many", (.int self_1.2.2.2.2.1)), ("come", (.int self_1.2.2.2.2.2.1)), ("lines", (.ref p13)), ("queued", (.int self_1.2.2.2.2.2.2.2.1)), ("riding", (.ref p17)), ("tick", (.int tick_24)), ("bay", (.int bay_30)), ("upward", (.bl x36))]) hS41 (vp_var rfl) cl_Tour na_Tour_upward (Nat.le_of_ble_eq_true rfl) rfl (fun H44 hS45 => ?_)
    have hS46 := Sta.perm hS45 (List.Perm.trans (List.perm_middle (l₁ := [(a0, HO.ins (He.ga K "Tour") dx2 [("aisle", w3), ("orders", w5), ("taken", (.ref p7)), ("homes", (.ref p10)), ("many", (.int self_1.2.2.2.2.1)), ("come", (.int self_1.2.2.2.2.2.1)), ("lines", (.ref p13)), ("queued", (.int self_1.2.2.2.2.2.2.2.1)), ("riding", (.ref p17)), ("tick", (.int tick_24)), ("bay", (.int bay_30)), ("upward", (.bl x36))]), (dx2, HO.own a0), (p7, HO.lst us8), (p10, HO.lst us11), (p13, dlO p13 (lnsD ls14))])) (List.Perm.trans (List.perm_middle (l₁ := [(p17, HO.lst (self_1.2.2.2.2.2.2.2.2.1.map V.int)), (a0, HO.ins (He.ga K "Tour") dx2 [("aisle", w3), ("orders", w5), ("taken", (.ref p7)), ("homes", (.ref p10)), ("many", (.int self_1.2.2.2.2.1)), ("come", (.int self_1.2.2.2.2.2.1)), ("lines", (.ref p13)), ("queued", (.int self_1.2.2.2.2.2.2.2.1)), ("riding", (.ref p17)), ("tick", (.int tick_24)), ("bay", (.int bay_30)), ("upward", (.bl x36))]), (dx2, HO.own a0), (p7, HO.lst us8), (p10, HO.lst us11)])) (List.Perm.trans (List.perm_middle (l₁ := [(p13, dlO p13 (lnsD ls14)), (p17, HO.lst (self_1.2.2.2.2.2.2.2.2.1.map V.int)), (a0, HO.ins (He.ga K "Tour") dx2 [("aisle", w3), ("orders", w5), ("taken", (.ref p7)), ("homes", (.ref p10)), ("many", (.int self_1.2.2.2.2.1)), ("come", (.int self_1.2.2.2.2.2.1)), ("lines", (.ref p13)), ("queued", (.int self_1.2.2.2.2.2.2.2.1)), ("riding", (.ref p17)), ("tick", (.int tick_24)), ("bay", (.int bay_30)), ("upward", (.bl x36))]), (dx2, HO.own a0), (p7, HO.lst us8)])) (List.Perm.trans (List.perm_middle (l₁ := [(p10, HO.lst us11), (p13, dlO p13 (lnsD ls14)), (p17, HO.lst (self_1.2.2.2.2.2.2.2.2.1.map V.int)), (a0, HO.ins (He.ga K "Tour") dx2 [("aisle", w3), ("orders", w5), ("taken", (.ref p7)), ("homes", (.ref p10)), ("many", (.int self_1.2.2.2.2.1)), ("come", (.int self_1.2.2.2.2.2.1)), ("lines", (.ref p13)), ("queued", (.int self_1.2.2.2.2.2.2.2.1)), ("riding", (.ref p17)), ("tick", (.int tick_24)), ("bay", (.int bay_30)), ("upward", (.bl x36))]), (dx2, HO.own a0)])) (List.Perm.trans (List.perm_middle (l₁ := [(p7, HO.lst us8), (p10, HO.lst us11), (p13, dlO p13 (lnsD ls14)), (p17, HO.lst (self_1.2.2.2.2.2.2.2.2.1.map V.int)), (a0, HO.ins (He.ga K "Tour") dx2 [("aisle", w3), ("orders", w5), ("taken", (.ref p7)), ("homes", (.ref p10)), ("many", (.int self_1.2.2.2.2.1)), ("come", (.int self_1.2.2.2.2.2.1)), ("lines", (.ref p13)), ("queued", (.int self_1.2.2.2.2.2.2.2.1)), ("riding", (.ref p17)), ("tick", (.int tick_24)), ("bay", (.int bay_30)), ("upward", (.bl x36))])])) (List.perm_middle (l₁ := [(dx2, HO.own a0), (p7, HO.lst us8), (p10, HO.lst us11), (p13, dlO p13 (lnsD ls14)), (p17, HO.lst (self_1.2.2.2.2.2.2.2.2.1.map V.int))])))))))
    obtain rfl := sm m
    exact q _ ([] ++ (([(a0, HO.ins (He.ga K "Tour") dx2 [("aisle", w3), ("orders", w5), ("taken", (.ref p7)), ("homes", (.ref p10)), ("many", (.int self_1.2.2.2.2.1)), ("come", (.int self_1.2.2.2.2.2.1)), ("lines", (.ref p13)), ("queued", (.int self_1.2.2.2.2.2.2.2.1)), ("riding", (.ref p17)), ("tick", (.int tick_24)), ("bay", (.int bay_30)), ("upward", (.bl x36))]), (dx2, HO.own a0), (p7, HO.lst us8), (p10, HO.lst us11), (p13, dlO p13 (lnsD ls14)), (p17, HO.lst (self_1.2.2.2.2.2.2.2.2.1.map V.int))] ++ lnsC ls14) ++ [])) _ _ (Gr.tr g20 (Gr.tr g28 (Gr.tr g34 g40))) (staE (by simp [adV]) (show Sta _ ((a0, HO.ins (He.ga K "Tour") dx2 [("aisle", w3), ("orders", w5), ("taken", (.ref p7)), ("homes", (.ref p10)), ("many", (.int self_1.2.2.2.2.1)), ("come", (.int self_1.2.2.2.2.2.1)), ("lines", (.ref p13)), ("queued", (.int self_1.2.2.2.2.2.2.2.1)), ("riding", (.ref p17)), ("tick", (.int tick_24)), ("bay", (.int bay_30)), ("upward", (.bl x36))]) :: (dx2, HO.own a0) :: (p7, HO.lst us8) :: (p10, HO.lst us11) :: (p13, dlO p13 (lnsD ls14)) :: (p17, HO.lst (self_1.2.2.2.2.2.2.2.2.1.map V.int)) :: (lnsC ls14 ++ cs)) _ from hS46)) ⟨[], ([(a0, HO.ins (He.ga K "Tour") dx2 [("aisle", w3), ("orders", w5), ("taken", (.ref p7)), ("homes", (.ref p10)), ("many", (.int self_1.2.2.2.2.1)), ("come", (.int self_1.2.2.2.2.2.1)), ("lines", (.ref p13)), ("queued", (.int self_1.2.2.2.2.2.2.2.1)), ("riding", (.ref p17)), ("tick", (.int tick_24)), ("bay", (.int bay_30)), ("upward", (.bl x36))]), (dx2, HO.own a0), (p7, HO.lst us8), (p10, HO.lst us11), (p13, dlO p13 (lnsD ls14)), (p17, HO.lst (self_1.2.2.2.2.2.2.2.2.1.map V.int))] ++ lnsC ls14), rfl, ⟨rfl, Dt.non⟩, ⟨_, _, _, _, _, _, _, _, _, _, rfl, (Dt.gr (Gr.tr g20 (Gr.tr g28 (Gr.tr g34 g40))) hw4), (Dt.gr (Gr.tr g20 (Gr.tr g28 (Gr.tr g34 g40))) hw6), (Dts.gr (Gr.tr g20 (Gr.tr g28 (Gr.tr g34 g40))) hu9), (Dts.gr (Gr.tr g20 (Gr.tr g28 (Gr.tr g34 g40))) hu12), (LnOk.gr (Gr.tr g20 (Gr.tr g28 (Gr.tr g34 g40))) hk15), he16⟩⟩
  · rw [if_neg (bf hc)] at m
    obtain ⟨bay_51, k52, m⟩ := lt m
    refine s_fldSub (ta := (tVar 0)) (l1 := []) (m1 := []) (fs' := [("aisle", w3), ("orders", w5), ("taken", (.ref p7)), ("homes", (.ref p10)), ("many", (.int self_1.2.2.2.2.1)), ("come", (.int self_1.2.2.2.2.2.1)), ("lines", (.ref p13)), ("queued", (.int self_1.2.2.2.2.2.2.2.1)), ("riding", (.ref p17)), ("tick", (.int self_1.2.2.2.2.2.2.2.2.2.1)), ("bay", (.int bay_51)), ("upward", (.bl self_1.2.2.2.2.2.2.2.2.2.2.2))]) hS50 (vp_var rfl) cl_Tour na_Tour_bay rfl d_int (Nat.le_of_ble_eq_true rfl) (by rw [k52]; rfl) (fun F53 H54 g55 hS56 => ?_)
    obtain ⟨x57, k58, m⟩ := bnd m
    obtain ⟨tick_59, k60, m⟩ := lt m
    refine s_fldAdd (ta := (tVar 0)) (l1 := []) (m1 := []) (fs' := [("aisle", w3), ("orders", w5), ("taken", (.ref p7)), ("homes", (.ref p10)), ("many", (.int self_1.2.2.2.2.1)), ("come", (.int self_1.2.2.2.2.2.1)), ("lines", (.ref p13)), ("queued", (.int self_1.2.2.2.2.2.2.2.1)), ("riding", (.ref p17)), ("tick", (.int tick_59)), ("bay", (.int bay_51)), ("upward", (.bl self_1.2.2.2.2.2.2.2.2.2.2.2))]) hS56 (vp_var rfl) cl_Tour na_Tour_tick rfl (d_ix (e := eI) (d_ixT (d_vp (vp_fld (vp_var rfl) (List.Mem.head _) cl_Tour na_Tour_aisle rfl) (Dt.gr (Gr.tr g49 g55) hw4)) d_int rfl) (d_vp (vp_fld (vp_var rfl) (List.Mem.head _) cl_Tour na_Tour_bay rfl) (.int _)) k58) (Nat.le_of_ble_eq_true rfl) (by rw [k60]; rfl) (fun F61 H62 g63 hS64 => ?_)
    refine s_fldO ?_
    obtain ⟨x65, k66, m⟩ := lt m
    refine o_d (K := K) (d := eB x65) hS64 (d_is (d_eqI (d_vp (vp_fld (vp_var rfl) (List.Mem.head _) cl_Tour na_Tour_bay rfl) (.int _)) d_int) (congrArg eB k66)) (fun v71 F67 H68 g69 hS70 hv72 => ?_)
    obtain rfl := Dt.toBl hv72
    refine o_fld (σ := [some (.ref a0)]) (ta := (tVar 0)) (l1 := []) (fs' := [("aisle", w3), ("orders", w5), ("taken", (.ref p7)), ("homes", (.ref p10)), ("many", (.int self_1.2.2.2.2.1)), ("come", (.int self_1.2.2.2.2.2.1)), ("lines", (.ref p13)), ("queued", (.int self_1.2.2.2.2.2.2.2.1)), ("riding", (.ref p17)), ("tick", (.int tick_59)), ("bay", (.int bay_51)), ("upward", (.bl x65))]) hS70 (vp_var rfl) cl_Tour na_Tour_upward (Nat.le_of_ble_eq_true rfl) rfl (fun H73 hS74 => ?_)
    have hS75 := Sta.perm hS74 (List.Perm.trans (List.perm_middle (l₁ := [(a0, HO.ins (He.ga K "Tour") dx2 [("aisle", w3), ("orders", w5), ("taken", (.ref p7)), ("homes", (.ref p10)), ("many", (.int self_1.2.2.2.2.1)), ("come", (.int self_1.2.2.2.2.2.1)), ("lines", (.ref p13)), ("queued", (.int self_1.2.2.2.2.2.2.2.1)), ("riding", (.ref p17)), ("tick", (.int tick_59)), ("bay", (.int bay_51)), ("upward", (.bl x65))]), (dx2, HO.own a0), (p7, HO.lst us8), (p10, HO.lst us11), (p13, dlO p13 (lnsD ls14))])) (List.Perm.trans (List.perm_middle (l₁ := [(p17, HO.lst (self_1.2.2.2.2.2.2.2.2.1.map V.int)), (a0, HO.ins (He.ga K "Tour") dx2 [("aisle", w3), ("orders", w5), ("taken", (.ref p7)), ("homes", (.ref p10)), ("many", (.int self_1.2.2.2.2.1)), ("come", (.int self_1.2.2.2.2.2.1)), ("lines", (.ref p13)), ("queued", (.int self_1.2.2.2.2.2.2.2.1)), ("riding", (.ref p17)), ("tick", (.int tick_59)), ("bay", (.int bay_51)), ("upward", (.bl x65))]), (dx2, HO.own a0), (p7, HO.lst us8), (p10, HO.lst us11)])) (List.Perm.trans (List.perm_middle (l₁ := [(p13, dlO p13 (lnsD ls14)), (p17, HO.lst (self_1.2.2.2.2.2.2.2.2.1.map V.int)), (a0, HO.ins (He.ga K "Tour") dx2 [("aisle", w3), ("orders", w5), ("taken", (.ref p7)), ("homes", (.ref p10)), ("many", (.int self_1.2.2.2.2.1)), ("come", (.int self_1.2.2.2.2.2.1)), ("lines", (.ref p13)), ("queued", (.int self_1.2.2.2.2.2.2.2.1)), ("riding", (.ref p17)), ("tick", (.int tick_59)), ("bay", (.int bay_51)), ("upward", (.bl x65))]), (dx2, HO.own a0), (p7, HO.lst us8)])) (List.Perm.trans (List.perm_middle (l₁ := [(p10, HO.lst us11), (p13, dlO p13 (lnsD ls14)), (p17, HO.lst (self_1.2.2.2.2.2.2.2.2.1.map V.int)), (a0, HO.ins (He.ga K "Tour") dx2 [("aisle", w3), ("orders", w5), ("taken", (.ref p7)), ("homes", (.ref p10)), ("many", (.int self_1.2.2.2.2.1)), ("come", (.int self_1.2.2.2.2.2.1)), ("lines", (.ref p13)), ("queued", (.int self_1.2.2.2.2.2.2.2.1)), ("riding", (.ref p17)), ("tick", (.int tick_59)), ("bay", (.int bay_51)), ("upward", (.bl x65))]), (dx2, HO.own a0)])) (List.Perm.trans (List.perm_middle (l₁ := [(p7, HO.lst us8), (p10, HO.lst us11), (p13, dlO p13 (lnsD ls14)), (p17, HO.lst (self_1.2.2.2.2.2.2.2.2.1.map V.int)), (a0, HO.ins (He.ga K "Tour") dx2 [("aisle", w3), ("orders", w5), ("taken", (.ref p7)), ("homes", (.ref p10)), ("many", (.int self_1.2.2.2.2.1)), ("come", (.int self_1.2.2.2.2.2.1)), ("lines", (.ref p13)), ("queued", (.int self_1.2.2.2.2.2.2.2.1)), ("riding", (.ref p17)), ("tick", (.int tick_59)), ("bay", (.int bay_51)), ("upward", (.bl x65))])])) (List.perm_middle (l₁ := [(dx2, HO.own a0), (p7, HO.lst us8), (p10, HO.lst us11), (p13, dlO p13 (lnsD ls14)), (p17, HO.lst (self_1.2.2.2.2.2.2.2.2.1.map V.int))])))))))
    obtain rfl := sm m
    exact q _ ([] ++ (([(a0, HO.ins (He.ga K "Tour") dx2 [("aisle", w3), ("orders", w5), ("taken", (.ref p7)), ("homes", (.ref p10)), ("many", (.int self_1.2.2.2.2.1)), ("come", (.int self_1.2.2.2.2.2.1)), ("lines", (.ref p13)), ("queued", (.int self_1.2.2.2.2.2.2.2.1)), ("riding", (.ref p17)), ("tick", (.int tick_59)), ("bay", (.int bay_51)), ("upward", (.bl x65))]), (dx2, HO.own a0), (p7, HO.lst us8), (p10, HO.lst us11), (p13, dlO p13 (lnsD ls14)), (p17, HO.lst (self_1.2.2.2.2.2.2.2.2.1.map V.int))] ++ lnsC ls14) ++ [])) _ _ (Gr.tr g49 (Gr.tr g55 (Gr.tr g63 g69))) (staE (by simp [adV]) (show Sta _ ((a0, HO.ins (He.ga K "Tour") dx2 [("aisle", w3), ("orders", w5), ("taken", (.ref p7)), ("homes", (.ref p10)), ("many", (.int self_1.2.2.2.2.1)), ("come", (.int self_1.2.2.2.2.2.1)), ("lines", (.ref p13)), ("queued", (.int self_1.2.2.2.2.2.2.2.1)), ("riding", (.ref p17)), ("tick", (.int tick_59)), ("bay", (.int bay_51)), ("upward", (.bl x65))]) :: (dx2, HO.own a0) :: (p7, HO.lst us8) :: (p10, HO.lst us11) :: (p13, dlO p13 (lnsD ls14)) :: (p17, HO.lst (self_1.2.2.2.2.2.2.2.2.1.map V.int)) :: (lnsC ls14 ++ cs)) _ from hS75)) ⟨[], ([(a0, HO.ins (He.ga K "Tour") dx2 [("aisle", w3), ("orders", w5), ("taken", (.ref p7)), ("homes", (.ref p10)), ("many", (.int self_1.2.2.2.2.1)), ("come", (.int self_1.2.2.2.2.2.1)), ("lines", (.ref p13)), ("queued", (.int self_1.2.2.2.2.2.2.2.1)), ("riding", (.ref p17)), ("tick", (.int tick_59)), ("bay", (.int bay_51)), ("upward", (.bl x65))]), (dx2, HO.own a0), (p7, HO.lst us8), (p10, HO.lst us11), (p13, dlO p13 (lnsD ls14)), (p17, HO.lst (self_1.2.2.2.2.2.2.2.2.1.map V.int))] ++ lnsC ls14), rfl, ⟨rfl, Dt.non⟩, ⟨_, _, _, _, _, _, _, _, _, _, rfl, (Dt.gr (Gr.tr g49 (Gr.tr g55 (Gr.tr g63 g69))) hw4), (Dt.gr (Gr.tr g49 (Gr.tr g55 (Gr.tr g63 g69))) hw6), (Dts.gr (Gr.tr g49 (Gr.tr g55 (Gr.tr g63 g69))) hu9), (Dts.gr (Gr.tr g49 (Gr.tr g55 (Gr.tr g63 g69))) hu12), (LnOk.gr (Gr.tr g49 (Gr.tr g55 (Gr.tr g63 g69))) hk15), he16⟩⟩
theorem sc_Tour_leave : FnScope N_Tour_leave ["self"] (defScope s_Tour_leave) := ⟨rfl, rfl, rfl, by decide +kernel, rfl, by decide +kernel, by decide +kernel⟩
theorem ok_Tour_leave {P : Program} {w : World} {K : PySem.W.Frag} {mg : Str → Option Value} {base : Heap} (hF : DfM K "Tour" "leave" "Tour.leave" s_Tour_leave) (clM : Cls K (He.ga K "Tour")) (meM : Meth K (He.ga K "Tour") "leave" (He.ma K (He.ga K "Tour") "leave")) (m_len : mg "len" = none) (cl_Tour : Cls K (He.ga K "Tour")) (na_Tour_aisle : NoAttr K (He.ga K "Tour") "aisle") (na_Tour_bay : NoAttr K (He.ga K "Tour") "bay") (na_Tour_tick : NoAttr K (He.ga K "Tour") "tick") (na_Tour_upward : NoAttr K (He.ga K "Tour") "upward") : OkMe P w K mg base CX0 1 "Tour" "leave" ["self"] (sp_Tour_leave K) := by
  obtain ⟨fd, F⟩ := hF
  refine ⟨⟨fd, F.ok sc_Tour_leave (fun vs H Q E h => ?_) (fun cdv A outer s H vs Q E hr h => ⟨t_Tour_leave K, PSs.nox ?_, w_Tour_leave cl_Tour na_Tour_aisle na_Tour_bay na_Tour_tick na_Tour_upward vs H Q E h⟩), F.bindsN fun _ _ _ _ _ _ us hl => match us, hl with | [_], _ => rfl⟩, clM, meM⟩
  · obtain ⟨F0, cc, cs, x, y, h, _⟩ := h; exact ArgG.len h
  · exact (pss_one (ps_if (pt_val (pe_fld (pv 0) rfl)) (pss_cons (ps_fldaug (pv 0) (pe_ix ix_list (pe_ix ix_tup (pe_fld (pv 0) rfl) pe_int (fun _ _ => rfl)) (pe_fld (pv 0) rfl) (fun _ _ => rfl)) in_add) (pss_cons (ps_fldaug (pv 0) pe_int in_add) (pss_one (ps_fld (pv 0) (pe_cmpR op_lt (pe_fld (pv 0) rfl) (pe_callB cr_lenL (by rfl) m_len PySem.boot_len (pa_cons (pe_ix ix_tup (pe_fld (pv 0) rfl) pe_int (fun _ _ => rfl)) pa_nil)) (nomark _)) rfl)))) (pss_cons (ps_fldaug (pv 0) pe_int in_sub) (pss_cons (ps_fldaug (pv 0) (pe_ix ix_list (pe_ix ix_tup (pe_fld (pv 0) rfl) pe_int (fun _ _ => rfl)) (pe_fld (pv 0) rfl) (fun _ _ => rfl)) in_add) (pss_one (ps_fld (pv 0) (pe_cmpR op_eq (pe_fld (pv 0) rfl) pe_int (nomark _)) rfl))))))
abbrev s_homes_of : Stmt := (top 24)
def f_homes_of_t51 : T_Tour → Option Bool := fun tour_54 => (some (decide ((0 : Int) < tour_54.2.2.2.2.1)))
def f_homes_of_w51 : T_Tour → Option (Fl T_Tour ((List ((Option Int) × (Option Int))))) := fun tour_107 => (((f_Tour_skip tour_107)).bind fun r143 => (((f_Tour_lie_down r143.2)).bind fun r175 => (((f_Tour_stop r175.2)).bind fun r207 => (((f_Tour_leave r207.2)).bind fun r239 => some (Fl.nx r239.2)))))
def f_homes_of : (((List Int) × Int) × (List (Str × Int × Int × Int))) → Option ((List ((Option Int) × (Option Int)))) := fun (aisle_1, orders_2) => (((f_look_at_orders (aisle_1, orders_2))).bind fun x3 => (((f_Tour (aisle_1, orders_2))).bind fun r21 => (whileF (f_homes_of_t51) (f_homes_of_w51) fuel r21).bind fun r52 => match r52 with | .nx tour_277 => (((mapC (fun (taken_305, home_306) => (taken_305, home_306)) ((tour_277.2.2.1).zip tour_277.2.2.2.1))).bind fun x323 => some x323) | .br _ => none | .rt z333 => some z333))
abbrev A_homes_of : (((List Int) × Int) × (List (Str × Int × Int × Int))) → List Ar := fun x => [.d ((eT2 (eL eI) eI) x.1), .d ((eL (eT4 eS eI eI eI)) x.2)]
abbrev B_homes_of : ((List ((Option Int) × (Option Int)))) → List PyData := fun y => y.map (eT2 (eO eI) (eO eI))
abbrev C_homes_of : ((List ((Option Int) × (Option Int)))) → List (List V) := fun y => []
abbrev N_homes_of : List Str := ["aisle", "orders", "tour", "taken", "home"]
abbrev sp_homes_of (K : PySem.W.Frag) : Sp := spF K A_homes_of B_homes_of C_homes_of f_homes_of
def t_homes_of (K : PySem.W.Frag) : TS := (tSeq (tDrop (tCall (sp_look_at_orders K) [] E0 (tCons (tVar 0) (tCons (tVar 1) tNil)))) (tSeq (tAsg (tMake (He.ga K "Tour") (sp_Tour K) [] E0 (tCons (tVar 0) (tCons (tVar 1) tNil))) (gName 2)) (tSeq (tWhile (tTest (tOp (rI0 fun i j => .bl (decide (j < i))) (tFld K (tVar 2) "many") (tC (.int 0)))) (tSeq (tDrop (tMeth (He.ga K "Tour") "skip" (sp_Tour_skip K) [] E0 (tVar 2) tNil)) (tSeq (tDrop (tMeth (He.ga K "Tour") "lie_down" (sp_Tour_lie_down K) [] E0 (tVar 2) tNil)) (tSeq (tDrop (tMeth (He.ga K "Tour") "stop" (sp_Tour_stop K) [] E0 (tVar 2) tNil)) (tDrop (tMeth (He.ga K "Tour") "leave" (sp_Tour_leave K) [] E0 (tVar 2) tNil)))))) (tRet (tLc (iZip K (tCons (tFld K (tVar 2) "taken") (tCons (tFld K (tVar 2) "homes") tNil))) (gTup K 2 (gCons (gName 3) (gCons (gName 4) gNil))) tYes (tTup (tCons (tVar 3) (tCons (tVar 4) tNil))) [3, 4])))))
theorem w_homes_of {K : PySem.W.Frag} (cl_Tour : Cls K (He.ga K "Tour")) (na_Tour_homes : NoAttr K (He.ga K "Tour") "homes") (na_Tour_many : NoAttr K (He.ga K "Tour") "many") (na_Tour_taken : NoAttr K (He.ga K "Tour") "taken") (vs : List V) (H : Hp) (Q : VK) (E : XK) (h : sp_homes_of K vs H Q E) : t_homes_of K { nx := fun _ H' => Q .non H', rt := Q } (start N_homes_of vs) H := by
  obtain ⟨F0, cc, cs, ⟨aisle_1, orders_2⟩, y, h0, hS0, m, q⟩ := h
  obtain ⟨a0, _, rfl, ha0, h1⟩ := ArgR.hd h0
  obtain ⟨a1, _, rfl, ha1, h2⟩ := ArgR.hd h1
  obtain ⟨rfl, rfl⟩ := ArgR.no h2
  unfold f_homes_of at m
  try dsimp only at m
  unfold t_homes_of
  refine go (σ' := [some a0, some a1, none, none, none]) rfl ?_
  obtain ⟨x3, k4, m⟩ := bnd m
  refine s_drop (K := K) (d := eN x3) hS0 (d_call (A := A_look_at_orders) (B := eN) (x := (aisle_1, orders_2)) (a_cons (d_var rfl ha0) (a_cons (d_var rfl ha1) a_nil)) k4) (fun F5 H6 g7 hS8 => ?_)
  refine o_asg ?_
  refine o_make ?_
  refine o_cons ?_
  refine o_d (K := K) (d := (eT2 (eL eI) eI) aisle_1) hS8 (d_var rfl (Dt.gr g7 ha0)) (fun v13 F9 H10 g11 hS12 hv14 => ?_)
  refine o_cons ?_
  refine o_d (K := K) (d := (eL (eT4 eS eI eI eI)) orders_2) hS12 (d_var rfl (Dt.gr (Gr.tr g7 g11) ha1)) (fun v19 F15 H16 g17 hS18 hv20 => ?_)
  refine o_nil ?_
  obtain ⟨r21, k22, m⟩ := bnd m
  intro a23 dx24 h25 h26 h27
  refine ⟨_, _, _, _, _, (aisle_1, orders_2), r21, rfl, (Dts.cons (Dt.gr g17 hv14) (Dts.cons hv20 Dts.nil)), Sta.make hS18 h25 h26 h27, k22, fun c28 F29 H30 g31 hS32 ho33 => ⟨rfl, ?_⟩⟩
  obtain ⟨dx34, w35, w37, p39, us40, p42, us43, p45, ls46, p49, rfl, hw36, hw38, hu41, hu44, hk47, he48⟩ := ho33
  have hS50 : Sta F29 ((a23, .ins (He.ga K "Tour") dx34 [("aisle", w35), ("orders", w37), ("taken", (.ref p39)), ("homes", (.ref p42)), ("many", (.int r21.2.2.2.2.1)), ("come", (.int r21.2.2.2.2.2.1)), ("lines", (.ref p45)), ("queued", (.int r21.2.2.2.2.2.2.2.1)), ("riding", (.ref p49)), ("tick", (.int r21.2.2.2.2.2.2.2.2.2.1)), ("bay", (.int r21.2.2.2.2.2.2.2.2.2.2.1)), ("upward", (.bl r21.2.2.2.2.2.2.2.2.2.2.2))]) :: (dx34, .own a23) :: (p39, .lst us40) :: (p42, .lst us43) :: (p45, dlO p45 (lnsD ls46)) :: (p49, .lst (r21.2.2.2.2.2.2.2.2.1.map V.int)) :: (lnsC ls46 ++ cs)) H30 := hS32
  refine o_name (σ' := [some a0, some a1, some (.ref a23), none, none]) rfl ?_
  obtain ⟨r52, k53, m⟩ := bnd m
  refine s_while (c := (f_homes_of_t51)) (body := (f_homes_of_w51)) (s0 := r21) (r := r52) (n := fuel) (fun (a : T_Tour) F σ c => ∃ (j3 : Option V) (j4 : Option V) (c2 : Cs), σ = [some a0, some a1, some (.ref a23), j3, j4] ∧ (c2 ++ (cs)) = c ∧ O_Tour K a F a23 c2) hS50 ⟨_, _, ([(a23, HO.ins (He.ga K "Tour") dx34 [("aisle", w35), ("orders", w37), ("taken", (.ref p39)), ("homes", (.ref p42)), ("many", (.int r21.2.2.2.2.1)), ("come", (.int r21.2.2.2.2.2.1)), ("lines", (.ref p45)), ("queued", (.int r21.2.2.2.2.2.2.2.1)), ("riding", (.ref p49)), ("tick", (.int r21.2.2.2.2.2.2.2.2.2.1)), ("bay", (.int r21.2.2.2.2.2.2.2.2.2.2.1)), ("upward", (.bl r21.2.2.2.2.2.2.2.2.2.2.2))]), (dx34, HO.own a23), (p39, HO.lst us40), (p42, HO.lst us43), (p45, dlO p45 (lnsD ls46)), (p49, HO.lst (r21.2.2.2.2.2.2.2.2.1.map V.int))] ++ lnsC ls46), rfl, rfl, ⟨_, _, _, _, _, _, _, _, _, _, rfl, hw36, hw38, hu41, hu44, hk47, he48⟩⟩ k53 ?_ ?_ ?_ ?_
  · rintro tour_277 F270 σ275 c274 H271 hz276 g272 hS273 ⟨u278, u279, c280, rfl, rfl, h281⟩
    rcases hz276.symm with rfl | rfl
    · cases (show (none : Option _) = some _ from m)
    try dsimp only at m
    obtain ⟨dx282, w283, w285, p287, us288, p290, us291, p293, ls294, p297, rfl, hw284, hw286, hu289, hu292, hk295, he296⟩ := h281
    have hS298 : Sta F270 ((a23, .ins (He.ga K "Tour") dx282 [("aisle", w283), ("orders", w285), ("taken", (.ref p287)), ("homes", (.ref p290)), ("many", (.int tour_277.2.2.2.2.1)), ("come", (.int tour_277.2.2.2.2.2.1)), ("lines", (.ref p293)), ("queued", (.int tour_277.2.2.2.2.2.2.2.1)), ("riding", (.ref p297)), ("tick", (.int tour_277.2.2.2.2.2.2.2.2.2.1)), ("bay", (.int tour_277.2.2.2.2.2.2.2.2.2.2.1)), ("upward", (.bl tour_277.2.2.2.2.2.2.2.2.2.2.2))]) :: (dx282, .own a23) :: (p287, .lst us288) :: (p290, .lst us291) :: (p293, dlO p293 (lnsD ls294)) :: (p297, .lst (tour_277.2.2.2.2.2.2.2.2.1.map V.int)) :: (lnsC ls294 ++ cs)) H271 := hS273
    obtain ⟨x323, k324, m⟩ := bnd m
    refine s_retC (K := K) (ds := x323.map (eT2 (eO eI) (eO eI))) hS298 (c_lendO (l1 := [(a23, HO.ins (He.ga K "Tour") dx282 [("aisle", w283), ("orders", w285), ("taken", (.ref p287)), ("homes", (.ref p290)), ("many", (.int tour_277.2.2.2.2.1)), ("come", (.int tour_277.2.2.2.2.2.1)), ("lines", (.ref p293)), ("queued", (.int tour_277.2.2.2.2.2.2.2.1)), ("riding", (.ref p297)), ("tick", (.int tour_277.2.2.2.2.2.2.2.2.2.1)), ("bay", (.int tour_277.2.2.2.2.2.2.2.2.2.2.1)), ("upward", (.bl tour_277.2.2.2.2.2.2.2.2.2.2.2))]), (dx282, HO.own a23)]) (m1 := [(a23, HO.ins (He.ga K "Tour") dx282 [("aisle", w283), ("orders", w285), ("taken", (.ref p287)), ("homes", (.ref p290)), ("many", (.int tour_277.2.2.2.2.1)), ("come", (.int tour_277.2.2.2.2.2.1)), ("lines", (.ref p293)), ("queued", (.int tour_277.2.2.2.2.2.2.2.1)), ("riding", (.ref p297)), ("tick", (.int tour_277.2.2.2.2.2.2.2.2.2.1)), ("bay", (.int tour_277.2.2.2.2.2.2.2.2.2.2.1)), ("upward", (.bl tour_277.2.2.2.2.2.2.2.2.2.2.2))]), (dx282, HO.own a23)]) (nt_l _) (nls (nl_T2 (nl_O nl_I) (nl_O nl_I)) _) (fun F299 g300 hn301 => (c_lendO (l1 := [(a23, HO.ins (He.ga K "Tour") dx282 [("aisle", w283), ("orders", w285), ("taken", (.ref p287)), ("homes", (.ref p290)), ("many", (.int tour_277.2.2.2.2.1)), ("come", (.int tour_277.2.2.2.2.2.1)), ("lines", (.ref p293)), ("queued", (.int tour_277.2.2.2.2.2.2.2.1)), ("riding", (.ref p297)), ("tick", (.int tour_277.2.2.2.2.2.2.2.2.2.1)), ("bay", (.int tour_277.2.2.2.2.2.2.2.2.2.2.1)), ("upward", (.bl tour_277.2.2.2.2.2.2.2.2.2.2.2))]), (dx282, HO.own a23)]) (m1 := [(a23, HO.ins (He.ga K "Tour") dx282 [("aisle", w283), ("orders", w285), ("taken", (.ref p287)), ("homes", (.ref p290)), ("many", (.int tour_277.2.2.2.2.1)), ("come", (.int tour_277.2.2.2.2.2.1)), ("lines", (.ref p293)), ("queued", (.int tour_277.2.2.2.2.2.2.2.1)), ("riding", (.ref p297)), ("tick", (.int tour_277.2.2.2.2.2.2.2.2.2.1)), ("bay", (.int tour_277.2.2.2.2.2.2.2.2.2.2.1)), ("upward", (.bl tour_277.2.2.2.2.2.2.2.2.2.2.2))]), (dx282, HO.own a23)]) (nt_l _) (nls (nl_T2 (nl_O nl_I) (nl_O nl_I)) _) (fun F302 g303 hn304 => (c_mapC (K := K) (f := (fun (taken_305, home_306) => (taken_305, home_306))) (em := (eT2 (eO eI) (eO eI))) (i_zip (en := (eO eI)) (em := (eO eI)) (a_cons (d_vp (vp_fld (vp_var rfl) (List.Mem.head _) cl_Tour na_Tour_taken rfl) (Dt.gr (Gr.tr g303 (Gr.new hn304)) (lent_l hn301 (Dts.gr g300 hu289)))) (a_cons (d_vp (vp_fld (vp_var rfl) (List.Mem.head _) cl_Tour na_Tour_homes rfl) (lent_l hn304 (Dts.gr g303 (Dts.gr (Gr.tr g300 (Gr.new hn301)) hu292)))) a_nil))) k324 (fun ⟨taken_305, home_306⟩ o313 v314 F307 p308 us309 g310 hv311 ho312 => by obtain ⟨p317, w319, w320, rfl, hT318, hw321, hw322⟩ := u2 hv311; obtain rfl := dt_toI hw321; obtain rfl := dt_toI hw322; obtain rfl := sm ho312; exact ⟨[some a0, some a1, some (.ref a23), some (oV V.int taken_305), some (oV V.int home_306)], fun H316 Q hS315 hq => (fun Q hq => ⟨p317, [_, _], rfl, gr_T hS315.fr hT318, rfl, _, _, rfl, _, _, rfl, rfl, hq⟩) Q hq, rfl, t_yes, fun y hy => by obtain rfl := sm hy; exact (d_tup (a_cons (d_var rfl (dt_oI _)) (a_cons (d_var rfl (dt_oI _)) a_nil)) (Nat.le_of_ble_eq_true rfl))⟩)))))) (fun p329 us330 F325 H326 g327 hS328 hu331 => ?_)
    have hS332 := sb_dropM (t := [(p329, .lst us330)]) (l := ([(a23, HO.ins (He.ga K "Tour") dx282 [("aisle", w283), ("orders", w285), ("taken", (.ref p287)), ("homes", (.ref p290)), ("many", (.int tour_277.2.2.2.2.1)), ("come", (.int tour_277.2.2.2.2.2.1)), ("lines", (.ref p293)), ("queued", (.int tour_277.2.2.2.2.2.2.2.1)), ("riding", (.ref p297)), ("tick", (.int tour_277.2.2.2.2.2.2.2.2.2.1)), ("bay", (.int tour_277.2.2.2.2.2.2.2.2.2.2.1)), ("upward", (.bl tour_277.2.2.2.2.2.2.2.2.2.2.2))]), (dx282, HO.own a23), (p287, HO.lst us288), (p290, HO.lst us291), (p293, dlO p293 (lnsD ls294)), (p297, HO.lst (tour_277.2.2.2.2.2.2.2.2.1.map V.int))] ++ lnsC ls294)) _ _ hS328
    obtain rfl := sm m
    exact q _ _ _ _ (Gr.tr g7 (Gr.tr g11 (Gr.tr g17 (Gr.tr g31 (Gr.tr g272 g327))))) hS332 hu331
  · rintro tour_54 b59 F55 σ58 c57 g56 ⟨u61, u62, c63, rfl, rfl, h64⟩ m60
    unfold f_homes_of_t51 at m60
    try dsimp only at m60
    obtain ⟨dx65, w66, w68, p70, us71, p73, us74, p76, ls77, p80, rfl, hw67, hw69, hu72, hu75, hk78, he79⟩ := h64
    show EvT _ _ _ ((a23, .ins (He.ga K "Tour") dx65 [("aisle", w66), ("orders", w68), ("taken", (.ref p70)), ("homes", (.ref p73)), ("many", (.int tour_54.2.2.2.2.1)), ("come", (.int tour_54.2.2.2.2.2.1)), ("lines", (.ref p76)), ("queued", (.int tour_54.2.2.2.2.2.2.2.1)), ("riding", (.ref p80)), ("tick", (.int tour_54.2.2.2.2.2.2.2.2.2.1)), ("bay", (.int tour_54.2.2.2.2.2.2.2.2.2.2.1)), ("upward", (.bl tour_54.2.2.2.2.2.2.2.2.2.2.2))]) :: (dx65, .own a23) :: (p70, .lst us71) :: (p73, .lst us74) :: (p76, dlO p76 (lnsD ls77)) :: (p80, .lst (tour_54.2.2.2.2.2.2.2.2.1.map V.int)) :: (lnsC ls77 ++ cs)) _ ((a23, .ins (He.ga K "Tour") dx65 [("aisle", w66), ("orders", w68), ("taken", (.ref p70)), ("homes", (.ref p73)), ("many", (.int tour_54.2.2.2.2.1)), ("come", (.int tour_54.2.2.2.2.2.1)), ("lines", (.ref p76)), ("queued", (.int tour_54.2.2.2.2.2.2.2.1)), ("riding", (.ref p80)), ("tick", (.int tour_54.2.2.2.2.2.2.2.2.2.1)), ("bay", (.int tour_54.2.2.2.2.2.2.2.2.2.2.1)), ("upward", (.bl tour_54.2.2.2.2.2.2.2.2.2.2.2))]) :: (dx65, .own a23) :: (p70, .lst us71) :: (p73, .lst us74) :: (p76, dlO p76 (lnsD ls77)) :: (p80, .lst (tour_54.2.2.2.2.2.2.2.2.1.map V.int)) :: (lnsC ls77 ++ cs))
    obtain rfl := sm m60
    exact (t_test (K := K) (d_gt (d_vp (vp_fld (vp_var rfl) (List.Mem.head _) cl_Tour na_Tour_many rfl) (.int _)) d_int))
  · rintro tour_81 F82 F83 σ105 c106 ⟨u85, u86, c87, rfl, rfl, h88⟩ g84
    obtain ⟨dx89, w90, w92, p94, us95, p97, us98, p100, ls101, p104, rfl, hw91, hw93, hu96, hu99, hk102, he103⟩ := h88
    exact ⟨_, _, ([(a23, HO.ins (He.ga K "Tour") dx89 [("aisle", w90), ("orders", w92), ("taken", (.ref p94)), ("homes", (.ref p97)), ("many", (.int tour_81.2.2.2.2.1)), ("come", (.int tour_81.2.2.2.2.2.1)), ("lines", (.ref p100)), ("queued", (.int tour_81.2.2.2.2.2.2.2.1)), ("riding", (.ref p104)), ("tick", (.int tour_81.2.2.2.2.2.2.2.2.2.1)), ("bay", (.int tour_81.2.2.2.2.2.2.2.2.2.2.1)), ("upward", (.bl tour_81.2.2.2.2.2.2.2.2.2.2.2))]), (dx89, HO.own a23), (p94, HO.lst us95), (p97, HO.lst us98), (p100, dlO p100 (lnsD ls101)), (p104, HO.lst (tour_81.2.2.2.2.2.2.2.2.1.map V.int))] ++ lnsC ls101), rfl, rfl, ⟨_, _, _, _, _, _, _, _, _, _, rfl, (Dt.gr g84 hw91), (Dt.gr g84 hw93), (Dts.gr g84 hu96), (Dts.gr g84 hu99), (LnOk.gr g84 hk102), he103⟩⟩
  · rintro tour_107 b108 F109 σ110 c111 H112 N113 B114 g115 ⟨u121, u122, c123, rfl, rfl, h124⟩ hS116 m117 hN118 hB119 hR120
    unfold f_homes_of_w51 at m117
    try dsimp only at m117
    obtain ⟨dx125, w126, w128, p130, us131, p133, us134, p136, ls137, p140, rfl, hw127, hw129, hu132, hu135, hk138, he139⟩ := h124
    have hS141 : Sta F109 ((a23, .ins (He.ga K "Tour") dx125 [("aisle", w126), ("orders", w128), ("taken", (.ref p130)), ("homes", (.ref p133)), ("many", (.int tour_107.2.2.2.2.1)), ("come", (.int tour_107.2.2.2.2.2.1)), ("lines", (.ref p136)), ("queued", (.int tour_107.2.2.2.2.2.2.2.1)), ("riding", (.ref p140)), ("tick", (.int tour_107.2.2.2.2.2.2.2.2.2.1)), ("bay", (.int tour_107.2.2.2.2.2.2.2.2.2.2.1)), ("upward", (.bl tour_107.2.2.2.2.2.2.2.2.2.2.2))]) :: (dx125, .own a23) :: (p130, .lst us131) :: (p133, .lst us134) :: (p136, dlO p136 (lnsD ls137)) :: (p140, .lst (tour_107.2.2.2.2.2.2.2.2.1.map V.int)) :: (lnsC ls137 ++ cs)) H112 := hS116
    refine o_drop ?_
    refine o_meth (ta := (tVar 2)) (l1 := []) hS141 (vp_var rfl) rfl ?_
    refine o_nil ?_
    have hS142 := Sta.perm hS141 (List.Perm.trans (List.perm_middle (l₁ := [(a23, HO.ins (He.ga K "Tour") dx125 [("aisle", w126), ("orders", w128), ("taken", (.ref p130)), ("homes", (.ref p133)), ("many", (.int tour_107.2.2.2.2.1)), ("come", (.int tour_107.2.2.2.2.2.1)), ("lines", (.ref p136)), ("queued", (.int tour_107.2.2.2.2.2.2.2.1)), ("riding", (.ref p140)), ("tick", (.int tour_107.2.2.2.2.2.2.2.2.2.1)), ("bay", (.int tour_107.2.2.2.2.2.2.2.2.2.2.1)), ("upward", (.bl tour_107.2.2.2.2.2.2.2.2.2.2.2))]), (dx125, HO.own a23), (p130, HO.lst us131), (p133, HO.lst us134), (p136, dlO p136 (lnsD ls137))])) (List.Perm.trans (List.perm_middle (l₁ := [(p140, HO.lst (tour_107.2.2.2.2.2.2.2.2.1.map V.int)), (a23, HO.ins (He.ga K "Tour") dx125 [("aisle", w126), ("orders", w128), ("taken", (.ref p130)), ("homes", (.ref p133)), ("many", (.int tour_107.2.2.2.2.1)), ("come", (.int tour_107.2.2.2.2.2.1)), ("lines", (.ref p136)), ("queued", (.int tour_107.2.2.2.2.2.2.2.1)), ("riding", (.ref p140)), ("tick", (.int tour_107.2.2.2.2.2.2.2.2.2.1)), ("bay", (.int tour_107.2.2.2.2.2.2.2.2.2.2.1)), ("upward", (.bl tour_107.2.2.2.2.2.2.2.2.2.2.2))]), (dx125, HO.own a23), (p130, HO.lst us131), (p133, HO.lst us134)])) (List.Perm.trans (List.perm_middle (l₁ := [(p136, dlO p136 (lnsD ls137)), (p140, HO.lst (tour_107.2.2.2.2.2.2.2.2.1.map V.int)), (a23, HO.ins (He.ga K "Tour") dx125 [("aisle", w126), ("orders", w128), ("taken", (.ref p130)), ("homes", (.ref p133)), ("many", (.int tour_107.2.2.2.2.1)), ("come", (.int tour_107.2.2.2.2.2.1)), ("lines", (.ref p136)), ("queued", (.int tour_107.2.2.2.2.2.2.2.1)), ("riding", (.ref p140)), ("tick", (.int tour_107.2.2.2.2.2.2.2.2.2.1)), ("bay", (.int tour_107.2.2.2.2.2.2.2.2.2.2.1)), ("upward", (.bl tour_107.2.2.2.2.2.2.2.2.2.2.2))]), (dx125, HO.own a23), (p130, HO.lst us131)])) (List.Perm.trans (List.perm_middle (l₁ := [(p133, HO.lst us134), (p136, dlO p136 (lnsD ls137)), (p140, HO.lst (tour_107.2.2.2.2.2.2.2.2.1.map V.int)), (a23, HO.ins (He.ga K "Tour") dx125 [("aisle", w126), ("orders", w128), ("taken", (.ref p130)), ("homes", (.ref p133)), ("many", (.int tour_107.2.2.2.2.1)), ("come", (.int tour_107.2.2.2.2.2.1)), ("lines", (.ref p136)), ("queued", (.int tour_107.2.2.2.2.2.2.2.1)), ("riding", (.ref p140)), ("tick", (.int tour_107.2.2.2.2.2.2.2.2.2.1)), ("bay", (.int tour_107.2.2.2.2.2.2.2.2.2.2.1)), ("upward", (.bl tour_107.2.2.2.2.2.2.2.2.2.2.2))]), (dx125, HO.own a23)])) (List.Perm.trans (List.perm_middle (l₁ := [(p130, HO.lst us131), (p133, HO.lst us134), (p136, dlO p136 (lnsD ls137)), (p140, HO.lst (tour_107.2.2.2.2.2.2.2.2.1.map V.int)), (a23, HO.ins (He.ga K "Tour") dx125 [("aisle", w126), ("orders", w128), ("taken", (.ref p130)), ("homes", (.ref p133)), ("many", (.int tour_107.2.2.2.2.1)), ("come", (.int tour_107.2.2.2.2.2.1)), ("lines", (.ref p136)), ("queued", (.int tour_107.2.2.2.2.2.2.2.1)), ("riding", (.ref p140)), ("tick", (.int tour_107.2.2.2.2.2.2.2.2.2.1)), ("bay", (.int tour_107.2.2.2.2.2.2.2.2.2.2.1)), ("upward", (.bl tour_107.2.2.2.2.2.2.2.2.2.2.2))])])) (List.perm_middle (l₁ := [(dx125, HO.own a23), (p130, HO.lst us131), (p133, HO.lst us134), (p136, dlO p136 (lnsD ls137)), (p140, HO.lst (tour_107.2.2.2.2.2.2.2.2.1.map V.int))])))))))
    obtain ⟨r143, k144, m117⟩ := bnd m117
    refine ⟨_, _, (cs), tour_107, r143, (ArgG.o (c := ([(a23, HO.ins (He.ga K "Tour") dx125 [("aisle", w126), ("orders", w128), ("taken", (.ref p130)), ("homes", (.ref p133)), ("many", (.int tour_107.2.2.2.2.1)), ("come", (.int tour_107.2.2.2.2.2.1)), ("lines", (.ref p136)), ("queued", (.int tour_107.2.2.2.2.2.2.2.1)), ("riding", (.ref p140)), ("tick", (.int tour_107.2.2.2.2.2.2.2.2.2.1)), ("bay", (.int tour_107.2.2.2.2.2.2.2.2.2.2.1)), ("upward", (.bl tour_107.2.2.2.2.2.2.2.2.2.2.2))]), (dx125, HO.own a23), (p130, HO.lst us131), (p133, HO.lst us134), (p136, dlO p136 (lnsD ls137)), (p140, HO.lst (tour_107.2.2.2.2.2.2.2.2.1.map V.int))] ++ lnsC ls137)) ⟨_, rfl, ⟨_, _, _, _, _, _, _, _, _, _, rfl, hw127, hw129, hu132, hu135, hk138, he139⟩⟩ ArgG.nil), (staE (by simp [adV]) (show Sta _ ((a23, HO.ins (He.ga K "Tour") dx125 [("aisle", w126), ("orders", w128), ("taken", (.ref p130)), ("homes", (.ref p133)), ("many", (.int tour_107.2.2.2.2.1)), ("come", (.int tour_107.2.2.2.2.2.1)), ("lines", (.ref p136)), ("queued", (.int tour_107.2.2.2.2.2.2.2.1)), ("riding", (.ref p140)), ("tick", (.int tour_107.2.2.2.2.2.2.2.2.2.1)), ("bay", (.int tour_107.2.2.2.2.2.2.2.2.2.2.1)), ("upward", (.bl tour_107.2.2.2.2.2.2.2.2.2.2.2))]) :: (dx125, HO.own a23) :: (p130, HO.lst us131) :: (p133, HO.lst us134) :: (p136, dlO p136 (lnsD ls137)) :: (p140, HO.lst (tour_107.2.2.2.2.2.2.2.2.1.map V.int)) :: (lnsC ls137 ++ cs)) _ from hS142)), k144, fun v145 c146 F147 H148 g149 hS150 r151 => ?_⟩
    obtain ⟨c152, c153, rfl, h154, h155⟩ := r151
    obtain ⟨rfl, hv156⟩ := h154
    obtain rfl := Dt.toNon hv156
    obtain ⟨dx157, w158, w160, p162, us163, p165, us166, p168, ls169, p172, rfl, hw159, hw161, hu164, hu167, hk170, he171⟩ := h155
    have hS173 : Sta F147 ((a23, .ins (He.ga K "Tour") dx157 [("aisle", w158), ("orders", w160), ("taken", (.ref p162)), ("homes", (.ref p165)), ("many", (.int r143.2.2.2.2.2.1)), ("come", (.int r143.2.2.2.2.2.2.1)), ("lines", (.ref p168)), ("queued", (.int r143.2.2.2.2.2.2.2.2.1)), ("riding", (.ref p172)), ("tick", (.int r143.2.2.2.2.2.2.2.2.2.2.1)), ("bay", (.int r143.2.2.2.2.2.2.2.2.2.2.2.1)), ("upward", (.bl r143.2.2.2.2.2.2.2.2.2.2.2.2))]) :: (dx157, .own a23) :: (p162, .lst us163) :: (p165, .lst us166) :: (p168, dlO p168 (lnsD ls169)) :: (p172, .lst (r143.2.2.2.2.2.2.2.2.2.1.map V.int)) :: (lnsC ls169 ++ cs)) H148 := (staE (by simp [adV]) hS150)
    refine o_drop ?_
    refine o_meth (ta := (tVar 2)) (l1 := []) hS173 (vp_var rfl) rfl ?_
    refine o_nil ?_
    have hS174 := Sta.perm hS173 (List.Perm.trans (List.perm_middle (l₁ := [(a23, HO.ins (He.ga K "Tour") dx157 [("aisle", w158), ("orders", w160), ("taken", (.ref p162)), ("homes", (.ref p165)), ("many", (.int r143.2.2.2.2.2.1)), ("come", (.int r143.2.2.2.2.2.2.1)), ("lines", (.ref p168)), ("queued", (.int r143.2.2.2.2.2.2.2.2.1)), ("riding", (.ref p172)), ("tick", (.int r143.2.2.2.2.2.2.2.2.2.2.1)), ("bay", (.int r143.2.2.2.2.2.2.2.2.2.2.2.1)), ("upward", (.bl r143.2.2.2.2.2.2.2.2.2.2.2.2))]), (dx157, HO.own a23), (p162, HO.lst us163), (p165, HO.lst us166), (p168, dlO p168 (lnsD ls169))])) (List.Perm.trans (List.perm_middle (l₁ := [(p172, HO.lst (r143.2.2.2.2.2.2.2.2.2.1.map V.int)), (a23, HO.ins (He.ga K "Tour") dx157 [("aisle", w158), ("orders", w160), ("taken", (.ref p162)), ("homes", (.ref p165)), ("many", (.int r143.2.2.2.2.2.1)), ("come", (.int r143.2.2.2.2.2.2.1)), ("lines", (.ref p168)), ("queued", (.int r143.2.2.2.2.2.2.2.2.1)), ("riding", (.ref p172)), ("tick", (.int r143.2.2.2.2.2.2.2.2.2.2.1)), ("bay", (.int r143.2.2.2.2.2.2.2.2.2.2.2.1)), ("upward", (.bl r143.2.2.2.2.2.2.2.2.2.2.2.2))]), (dx157, HO.own a23), (p162, HO.lst us163), (p165, HO.lst us166)])) (List.Perm.trans (List.perm_middle (l₁ := [(p168, dlO p168 (lnsD ls169)), (p172, HO.lst (r143.2.2.2.2.2.2.2.2.2.1.map V.int)), (a23, HO.ins (He.ga K "Tour") dx157 [("aisle", w158), ("orders", w160), ("taken", (.ref p162)), ("homes", (.ref p165)), ("many", (.int r143.2.2.2.2.2.1)), ("come", (.int r143.2.2.2.2.2.2.1)), ("lines", (.ref p168)), ("queued", (.int r143.2.2.2.2.2.2.2.2.1)), ("riding", (.ref p172)), ("tick", (.int r143.2.2.2.2.2.2.2.2.2.2.1)), ("bay", (.int r143.2.2.2.2.2.2.2.2.2.2.2.1)), ("upward", (.bl r143.2.2.2.2.2.2.2.2.2.2.2.2))]), (dx157, HO.own a23), (p162, HO.lst us163)])) (List.Perm.trans (List.perm_middle (l₁ := [(p165, HO.lst us166), (p168, dlO p168 (lnsD ls169)), (p172, HO.lst (r143.2.2.2.2.2.2.2.2.2.1.map V.int)), (a23, HO.ins (He.ga K "Tour") dx157 [("aisle", w158), ("orders", w160), ("taken", (.ref p162)), ("homes", (.ref p165)), ("many", (.int r143.2.2.2.2.2.1)), ("come", (.int r143.2.2.2.2.2.2.1)), ("lines", (.ref p168)), ("queued", (.int r143.2.2.2.2.2.2.2.2.1)), ("riding", (.ref p172)), ("tick", (.int r143.2.2.2.2.2.2.2.2.2.2.1)), ("bay", (.int r143.2.2.2.2.2.2.2.2.2.2.2.1)), ("upward", (.bl r143.2.2.2.2.2.2.2.2.2.2.2.2))]), (dx157, HO.own a23)])) (List.Perm.trans (List.perm_middle (l₁ := [(p162, HO.lst us163), (p165, HO.lst us166), (p168, dlO p168 (lnsD ls169)), (p172, HO.lst (r143.2.2.2.2.2.2.2.2.2.1.map V.int)), (a23, HO.ins (He.ga K "Tour") dx157 [("aisle", w158), ("orders", w160), ("taken", (.ref p162)), ("homes", (.ref p165)), ("many", (.int r143.2.2.2.2.2.1)), ("come", (.int r143.2.2.2.2.2.2.1)), ("lines", (.ref p168)), ("queued", (.int r143.2.2.2.2.2.2.2.2.1)), ("riding", (.ref p172)), ("tick", (.int r143.2.2.2.2.2.2.2.2.2.2.1)), ("bay", (.int r143.2.2.2.2.2.2.2.2.2.2.2.1)), ("upward", (.bl r143.2.2.2.2.2.2.2.2.2.2.2.2))])])) (List.perm_middle (l₁ := [(dx157, HO.own a23), (p162, HO.lst us163), (p165, HO.lst us166), (p168, dlO p168 (lnsD ls169)), (p172, HO.lst (r143.2.2.2.2.2.2.2.2.2.1.map V.int))])))))))
    obtain ⟨r175, k176, m117⟩ := bnd m117
    refine ⟨_, _, (cs), r143.2, r175, (ArgG.o (c := ([(a23, HO.ins (He.ga K "Tour") dx157 [("aisle", w158), ("orders", w160), ("taken", (.ref p162)), ("homes", (.ref p165)), ("many", (.int r143.2.2.2.2.2.1)), ("come", (.int r143.2.2.2.2.2.2.1)), ("lines", (.ref p168)), ("queued", (.int r143.2.2.2.2.2.2.2.2.1)), ("riding", (.ref p172)), ("tick", (.int r143.2.2.2.2.2.2.2.2.2.2.1)), ("bay", (.int r143.2.2.2.2.2.2.2.2.2.2.2.1)), ("upward", (.bl r143.2.2.2.2.2.2.2.2.2.2.2.2))]), (dx157, HO.own a23), (p162, HO.lst us163), (p165, HO.lst us166), (p168, dlO p168 (lnsD ls169)), (p172, HO.lst (r143.2.2.2.2.2.2.2.2.2.1.map V.int))] ++ lnsC ls169)) ⟨_, rfl, ⟨_, _, _, _, _, _, _, _, _, _, rfl, hw159, hw161, hu164, hu167, hk170, he171⟩⟩ ArgG.nil), (staE (by simp [adV]) (show Sta _ ((a23, HO.ins (He.ga K "Tour") dx157 [("aisle", w158), ("orders", w160), ("taken", (.ref p162)), ("homes", (.ref p165)), ("many", (.int r143.2.2.2.2.2.1)), ("come", (.int r143.2.2.2.2.2.2.1)), ("lines", (.ref p168)), ("queued", (.int r143.2.2.2.2.2.2.2.2.1)), ("riding", (.ref p172)), ("tick", (.int r143.2.2.2.2.2.2.2.2.2.2.1)), ("bay", (.int r143.2.2.2.2.2.2.2.2.2.2.2.1)), ("upward", (.bl r143.2.2.2.2.2.2.2.2.2.2.2.2))]) :: (dx157, HO.own a23) :: (p162, HO.lst us163) :: (p165, HO.lst us166) :: (p168, dlO p168 (lnsD ls169)) :: (p172, HO.lst (r143.2.2.2.2.2.2.2.2.2.1.map V.int)) :: (lnsC ls169 ++ cs)) _ from hS174)), k176, fun v177 c178 F179 H180 g181 hS182 r183 => ?_⟩
    obtain ⟨c184, c185, rfl, h186, h187⟩ := r183
    obtain ⟨rfl, hv188⟩ := h186
    obtain rfl := Dt.toNon hv188
    obtain ⟨dx189, w190, w192, p194, us195, p197, us198, p200, ls201, p204, rfl, hw191, hw193, hu196, hu199, hk202, he203⟩ := h187
    have hS205 : Sta F179 ((a23, .ins (He.ga K "Tour") dx189 [("aisle", w190), ("orders", w192), ("taken", (.ref p194)), ("homes", (.ref p197)), ("many", (.int r175.2.2.2.2.2.1)), ("come", (.int r175.2.2.2.2.2.2.1)), ("lines", (.ref p200)), ("queued", (.int r175.2.2.2.2.2.2.2.2.1)), ("riding", (.ref p204)), ("tick", (.int r175.2.2.2.2.2.2.2.2.2.2.1)), ("bay", (.int r175.2.2.2.2.2.2.2.2.2.2.2.1)), ("upward", (.bl r175.2.2.2.2.2.2.2.2.2.2.2.2))]) :: (dx189, .own a23) :: (p194, .lst us195) :: (p197, .lst us198) :: (p200, dlO p200 (lnsD ls201)) :: (p204, .lst (r175.2.2.2.2.2.2.2.2.2.1.map V.int)) :: (lnsC ls201 ++ cs)) H180 := (staE (by simp [adV]) hS182)
    refine o_drop ?_
    refine o_meth (ta := (tVar 2)) (l1 := []) hS205 (vp_var rfl) rfl ?_
    refine o_nil ?_
    have hS206 := Sta.perm hS205 (List.Perm.trans (List.perm_middle (l₁ := [(a23, HO.ins (He.ga K "Tour") dx189 [("aisle", w190), ("orders", w192), ("taken", (.ref p194)), ("homes", (.ref p197)), ("many", (.int r175.2.2.2.2.2.1)), ("come", (.int r175.2.2.2.2.2.2.1)), ("lines", (.ref p200)), ("queued", (.int r175.2.2.2.2.2.2.2.2.1)), ("riding", (.ref p204)), ("tick", (.int r175.2.2.2.2.2.2.2.2.2.2.1)), ("bay", (.int r175.2.2.2.2.2.2.2.2.2.2.2.1)), ("upward", (.bl r175.2.2.2.2.2.2.2.2.2.2.2.2))]), (dx189, HO.own a23), (p194, HO.lst us195), (p197, HO.lst us198), (p200, dlO p200 (lnsD ls201))])) (List.Perm.trans (List.perm_middle (l₁ := [(p204, HO.lst (r175.2.2.2.2.2.2.2.2.2.1.map V.int)), (a23, HO.ins (He.ga K "Tour") dx189 [("aisle", w190), ("orders", w192), ("taken", (.ref p194)), ("homes", (.ref p197)), ("many", (.int r175.2.2.2.2.2.1)), ("come", (.int r175.2.2.2.2.2.2.1)), ("lines", (.ref p200)), ("queued", (.int r175.2.2.2.2.2.2.2.2.1)), ("riding", (.ref p204)), ("tick", (.int r175.2.2.2.2.2.2.2.2.2.2.1)), ("bay", (.int r175.2.2.2.2.2.2.2.2.2.2.2.1)), ("upward", (.bl r175.2.2.2.2.2.2.2.2.2.2.2.2))]), (dx189, HO.own a23), (p194, HO.lst us195), (p197, HO.lst us198)])) (List.Perm.trans (List.perm_middle (l₁ := [(p200, dlO p200 (lnsD ls201)), (p204, HO.lst (r175.2.2.2.2.2.2.2.2.2.1.map V.int)), (a23, HO.ins (He.ga K "Tour") dx189 [("aisle", w190), ("orders", w192), ("taken", (.ref p194)), ("homes", (.ref p197)), ("many", (.int r175.2.2.2.2.2.1)), ("come", (.int r175.2.2.2.2.2.2.1)), ("lines", (.ref p200)), ("queued", (.int r175.2.2.2.2.2.2.2.2.1)), ("riding", (.ref p204)), ("tick", (.int r175.2.2.2.2.2.2.2.2.2.2.1)), ("bay", (.int r175.2.2.2.2.2.2.2.2.2.2.2.1)), ("upward", (.bl r175.2.2.2.2.2.2.2.2.2.2.2.2))]), (dx189, HO.own a23), (p194, HO.lst us195)])) (List.Perm.trans (List.perm_middle (l₁ := [(p197, HO.lst us198), (p200, dlO p200 (lnsD ls201)), (p204, HO.lst (r175.2.2.2.2.2.2.2.2.2.1.map V.int)), (a23, HO.ins (He.ga K "Tour") dx189 [("aisle", w190), ("orders", w192), ("taken", (.ref p194)), ("homes", (.ref p197)), ("many", (.int r175.2.2.2.2.2.1)), ("come", (.int r175.2.2.2.2.2.2.1)), ("lines", (.ref p200)), ("queued", (.int r175.2.2.2.2.2.2.2.2.1)), ("riding", (.ref p204)), ("tick", (.int r175.2.2.2.2.2.2.2.2.2.2.1)), ("bay", (.int r175.2.2.2.2.2.2.2.2.2.2.2.1)), ("upward", (.bl r175.2.2.2.2.2.2.2.2.2.2.2.2))]), (dx189, HO.own a23)])) (List.Perm.trans (List.perm_middle (l₁ := [(p194, HO.lst us195), (p197, HO.lst us198), (p200, dlO p200 (lnsD ls201)), (p204, HO.lst (r175.2.2.2.2.2.2.2.2.2.1.map V.int)), (a23, HO.ins (He.ga K "Tour") dx189 [("aisle", w190), ("orders", w192), ("taken", (.ref p194)), ("homes", (.ref p197)), ("many", (.int r175.2.2.2.2.2.1)), ("come", (.int r175.2.2.2.2.2.2.1)), ("lines", (.ref p200)), ("queued", (.int r175.2.2.2.2.2.2.2.2.1)), ("riding", (.ref p204)), ("tick", (.int r175.2.2.2.2.2.2.2.2.2.2.1)), ("bay", (.int r175.2.2.2.2.2.2.2.2.2.2.2.1)), ("upward", (.bl r175.2.2.2.2.2.2.2.2.2.2.2.2))])])) (List.perm_middle (l₁ := [(dx189, HO.own a23), (p194, HO.lst us195), (p197, HO.lst us198), (p200, dlO p200 (lnsD ls201)), (p204, HO.lst (r175.2.2.2.2.2.2.2.2.2.1.map V.int))])))))))
    obtain ⟨r207, k208, m117⟩ := bnd m117
    refine ⟨_, _, (cs), r175.2, r207, (ArgG.o (c := ([(a23, HO.ins (He.ga K "Tour") dx189 [("aisle", w190), ("orders", w192), ("taken", (.ref p194)), ("homes", (.ref p197)), ("many", (.int r175.2.2.2.2.2.1)), ("come", (.int r175.2.2.2.2.2.2.1)), ("lines", (.ref p200)), ("queued", (.int r175.2.2.2.2.2.2.2.2.1)), ("riding", (.ref p204)), ("tick", (.int r175.2.2.2.2.2.2.2.2.2.2.1)), ("bay", (.int r175.2.2.2.2.2.2.2.2.2.2.2.1)), ("upward", (.bl r175.2.2.2.2.2.2.2.2.2.2.2.2))]), (dx189, HO.own a23), (p194, HO.lst us195), (p197, HO.lst us198), (p200, dlO p200 (lnsD ls201)), (p204, HO.lst (r175.2.2.2.2.2.2.2.2.2.1.map V.int))] ++ lnsC ls201)) ⟨_, rfl, ⟨_, _, _, _, _, _, _, _, _, _, rfl, hw191, hw193, hu196, hu199, hk202, he203⟩⟩ ArgG.nil), (staE (by simp [adV]) (show Sta _ ((a23, HO.ins (He.ga K "Tour") dx189 [("aisle", w190), ("orders", w192), ("taken", (.ref p194)), ("homes", (.ref p197)), ("many", (.int r175.2.2.2.2.2.1)), ("come", (.int r175.2.2.2.2.2.2.1)), ("lines", (.ref p200)), ("queued", (.int r175.2.2.2.2.2.2.2.2.1)), ("riding", (.ref p204)), ("tick", (.int r175.2.2.2.2.2.2.2.2.2.2.1)), ("bay", (.int r175.2.2.2.2.2.2.2.2.2.2.2.1)), ("upward", (.bl r175.2.2.2.2.2.2.2.2.2.2.2.2))]) :: (dx189, HO.own a23) :: (p194, HO.lst us195) :: (p197, HO.lst us198) :: (p200, dlO p200 (lnsD ls201)) :: (p204, HO.lst (r175.2.2.2.2.2.2.2.2.2.1.map V.int)) :: (lnsC ls201 ++ cs)) _ from hS206)), k208, fun v209 c210 F211 H212 g213 hS214 r215 => ?_⟩
    obtain ⟨c216, c217, rfl, h218, h219⟩ := r215
    obtain ⟨rfl, hv220⟩ := h218
    obtain rfl := Dt.toNon hv220
    obtain ⟨dx221, w222, w224, p226, us227, p229, us230, p232, ls233, p236, rfl, hw223, hw225, hu228, hu231, hk234, he235⟩ := h219
    have hS237 : Sta F211 ((a23, .ins (He.ga K "Tour") dx221 [("aisle", w222), ("orders", w224), ("taken", (.ref p226)), ("homes", (.ref p229)), ("many", (.int r207.2.2.2.2.2.1)), ("come", (.int r207.2.2.2.2.2.2.1)), ("lines", (.ref p232)), ("queued", (.int r207.2.2.2.2.2.2.2.2.1)), ("riding", (.ref p236)), ("tick", (.int r207.2.2.2.2.2.2.2.2.2.2.1)), ("bay", (.int r207.2.2.2.2.2.2.2.2.2.2.2.1)), ("upward", (.bl r207.2.2.2.2.2.2.2.2.2.2.2.2))]) :: (dx221, .own a23) :: (p226, .lst us227) :: (p229, .lst us230) :: (p232, dlO p232 (lnsD ls233)) :: (p236, .lst (r207.2.2.2.2.2.2.2.2.2.1.map V.int)) :: (lnsC ls233 ++ cs)) H212 := (staE (by simp [adV]) hS214)
    refine o_drop ?_
    refine o_meth (ta := (tVar 2)) (l1 := []) hS237 (vp_var rfl) rfl ?_
    refine o_nil ?_
    have hS238 := Sta.perm hS237 (List.Perm.trans (List.perm_middle (l₁ := [(a23, HO.ins (He.ga K "Tour") dx221 [("aisle", w222), ("orders", w224), ("taken", (.ref p226)), ("homes", (.ref p229)), ("many", (.int r207.2.2.2.2.2.1)), ("come", (.int r207.2.2.2.2.2.2.1)), ("lines", (.ref p232)), ("queued", (.int r207.2.2.2.2.2.2.2.2.1)), ("riding", (.ref p236)), ("tick", (.int r207.2.2.2.2.2.2.2.2.2.2.1)), ("bay", (.int r207.2.2.2.2.2.2.2.2.2.2.2.1)), ("upward", (.bl r207.2.2.2.2.2.2.2.2.2.2.2.2))]), (dx221, HO.own a23), (p226, HO.lst us227), (p229, HO.lst us230), (p232, dlO p232 (lnsD ls233))])) (List.Perm.trans (List.perm_middle (l₁ := [(p236, HO.lst (r207.2.2.2.2.2.2.2.2.2.1.map V.int)), (a23, HO.ins (He.ga K "Tour") dx221 [("aisle", w222), ("orders", w224), ("taken", (.ref p226)), ("homes", (.ref p229)), ("many", (.int r207.2.2.2.2.2.1)), ("come", (.int r207.2.2.2.2.2.2.1)), ("lines", (.ref p232)), ("queued", (.int r207.2.2.2.2.2.2.2.2.1)), ("riding", (.ref p236)), ("tick", (.int r207.2.2.2.2.2.2.2.2.2.2.1)), ("bay", (.int r207.2.2.2.2.2.2.2.2.2.2.2.1)), ("upward", (.bl r207.2.2.2.2.2.2.2.2.2.2.2.2))]), (dx221, HO.own a23), (p226, HO.lst us227), (p229, HO.lst us230)])) (List.Perm.trans (List.perm_middle (l₁ := [(p232, dlO p232 (lnsD ls233)), (p236, HO.lst (r207.2.2.2.2.2.2.2.2.2.1.map V.int)), (a23, HO.ins (He.ga K "Tour") dx221 [("aisle", w222), ("orders", w224), ("taken", (.ref p226)), ("homes", (.ref p229)), ("many", (.int r207.2.2.2.2.2.1)), ("come", (.int r207.2.2.2.2.2.2.1)), ("lines", (.ref p232)), ("queued", (.int r207.2.2.2.2.2.2.2.2.1)), ("riding", (.ref p236)), ("tick", (.int r207.2.2.2.2.2.2.2.2.2.2.1)), ("bay", (.int r207.2.2.2.2.2.2.2.2.2.2.2.1)), ("upward", (.bl r207.2.2.2.2.2.2.2.2.2.2.2.2))]), (dx221, HO.own a23), (p226, HO.lst us227)])) (List.Perm.trans (List.perm_middle (l₁ := [(p229, HO.lst us230), (p232, dlO p232 (lnsD ls233)), (p236, HO.lst (r207.2.2.2.2.2.2.2.2.2.1.map V.int)), (a23, HO.ins (He.ga K "Tour") dx221 [("aisle", w222), ("orders", w224), ("taken", (.ref p226)), ("homes", (.ref p229)), ("many", (.int r207.2.2.2.2.2.1)), ("come", (.int r207.2.2.2.2.2.2.1)), ("lines", (.ref p232)), ("queued", (.int r207.2.2.2.2.2.2.2.2.1)), ("riding", (.ref p236)), ("tick", (.int r207.2.2.2.2.2.2.2.2.2.2.1)), ("bay", (.int r207.2.2.2.2.2.2.2.2.2.2.2.1)), ("upward", (.bl r207.2.2.2.2.2.2.2.2.2.2.2.2))]), (dx221, HO.own a23)])) (List.Perm.trans (List.perm_middle (l₁ := [(p226, HO.lst us227), (p229, HO.lst us230), (p232, dlO p232 (lnsD ls233)), (p236, HO.lst (r207.2.2.2.2.2.2.2.2.2.1.map V.int)), (a23, HO.ins (He.ga K "Tour") dx221 [("aisle", w222), ("orders", w224), ("taken", (.ref p226)), ("homes", (.ref p229)), ("many", (.int r207.2.2.2.2.2.1)), ("come", (.int r207.2.2.2.2.2.2.1)), ("lines", (.ref p232)), ("queued", (.int r207.2.2.2.2.2.2.2.2.1)), ("riding", (.ref p236)), ("tick", (.int r207.2.2.2.2.2.2.2.2.2.2.1)), ("bay", (.int r207.2.2.2.2.2.2.2.2.2.2.2.1)), ("upward", (.bl r207.2.2.2.2.2.2.2.2.2.2.2.2))])])) (List.perm_middle (l₁ := [(dx221, HO.own a23), (p226, HO.lst us227), (p229, HO.lst us230), (p232, dlO p232 (lnsD ls233)), (p236, HO.lst (r207.2.2.2.2.2.2.2.2.2.1.map V.int))])))))))
    obtain ⟨r239, k240, m117⟩ := bnd m117
    refine ⟨_, _, (cs), r207.2, r239, (ArgG.o (c := ([(a23, HO.ins (He.ga K "Tour") dx221 [("aisle", w222), ("orders", w224), ("taken", (.ref p226)), ("homes", (.ref p229)), ("many", (.int r207.2.2.2.2.2.1)), ("come", (.int r207.2.2.2.2.2.2.1)), ("lines", (.ref p232)), ("queued", (.int r207.2.2.2.2.2.2.2.2.1)), ("riding", (.ref p236)), ("tick", (.int r207.2.2.2.2.2.2.2.2.2.2.1)), ("bay", (.int r207.2.2.2.2.2.2.2.2.2.2.2.1)), ("upward", (.bl r207.2.2.2.2.2.2.2.2.2.2.2.2))]), (dx221, HO.own a23), (p226, HO.lst us227), (p229, HO.lst us230), (p232, dlO p232 (lnsD ls233)), (p236, HO.lst (r207.2.2.2.2.2.2.2.2.2.1.map V.int))] ++ lnsC ls233)) ⟨_, rfl, ⟨_, _, _, _, _, _, _, _, _, _, rfl, hw223, hw225, hu228, hu231, hk234, he235⟩⟩ ArgG.nil), (staE (by simp [adV]) (show Sta _ ((a23, HO.ins (He.ga K "Tour") dx221 [("aisle", w222), ("orders", w224), ("taken", (.ref p226)), ("homes", (.ref p229)), ("many", (.int r207.2.2.2.2.2.1)), ("come", (.int r207.2.2.2.2.2.2.1)), ("lines", (.ref p232)), ("queued", (.int r207.2.2.2.2.2.2.2.2.1)), ("riding", (.ref p236)), ("tick", (.int r207.2.2.2.2.2.2.2.2.2.2.1)), ("bay", (.int r207.2.2.2.2.2.2.2.2.2.2.2.1)), ("upward", (.bl r207.2.2.2.2.2.2.2.2.2.2.2.2))]) :: (dx221, HO.own a23) :: (p226, HO.lst us227) :: (p229, HO.lst us230) :: (p232, dlO p232 (lnsD ls233)) :: (p236, HO.lst (r207.2.2.2.2.2.2.2.2.2.1.map V.int)) :: (lnsC ls233 ++ cs)) _ from hS238)), k240, fun v241 c242 F243 H244 g245 hS246 r247 => ?_⟩
    obtain ⟨c248, c249, rfl, h250, h251⟩ := r247
    obtain ⟨rfl, hv252⟩ := h250
    obtain rfl := Dt.toNon hv252
    obtain ⟨dx253, w254, w256, p258, us259, p261, us262, p264, ls265, p268, rfl, hw255, hw257, hu260, hu263, hk266, he267⟩ := h251
    have hS269 : Sta F243 ((a23, .ins (He.ga K "Tour") dx253 [("aisle", w254), ("orders", w256), ("taken", (.ref p258)), ("homes", (.ref p261)), ("many", (.int r239.2.2.2.2.2.1)), ("come", (.int r239.2.2.2.2.2.2.1)), ("lines", (.ref p264)), ("queued", (.int r239.2.2.2.2.2.2.2.2.1)), ("riding", (.ref p268)), ("tick", (.int r239.2.2.2.2.2.2.2.2.2.2.1)), ("bay", (.int r239.2.2.2.2.2.2.2.2.2.2.2.1)), ("upward", (.bl r239.2.2.2.2.2.2.2.2.2.2.2.2))]) :: (dx253, .own a23) :: (p258, .lst us259) :: (p261, .lst us262) :: (p264, dlO p264 (lnsD ls265)) :: (p268, .lst (r239.2.2.2.2.2.2.2.2.2.1.map V.int)) :: (lnsC ls265 ++ cs)) H244 := (staE (by simp [adV]) hS246)
    obtain rfl := sm m117
    exact hN118 _ _ _ _ _ rfl (Gr.tr g149 (Gr.tr g181 (Gr.tr g213 g245))) hS269 ⟨_, _, ([(a23, HO.ins (He.ga K "Tour") dx253 [("aisle", w254), ("orders", w256), ("taken", (.ref p258)), ("homes", (.ref p261)), ("many", (.int r239.2.2.2.2.2.1)), ("come", (.int r239.2.2.2.2.2.2.1)), ("lines", (.ref p264)), ("queued", (.int r239.2.2.2.2.2.2.2.2.1)), ("riding", (.ref p268)), ("tick", (.int r239.2.2.2.2.2.2.2.2.2.2.1)), ("bay", (.int r239.2.2.2.2.2.2.2.2.2.2.2.1)), ("upward", (.bl r239.2.2.2.2.2.2.2.2.2.2.2.2))]), (dx253, HO.own a23), (p258, HO.lst us259), (p261, HO.lst us262), (p264, dlO p264 (lnsD ls265)), (p268, HO.lst (r239.2.2.2.2.2.2.2.2.2.1.map V.int))] ++ lnsC ls265), rfl, rfl, ⟨_, _, _, _, _, _, _, _, _, _, rfl, hw255, hw257, hu260, hu263, hk266, he267⟩⟩
theorem sc_homes_of : FnScope N_homes_of ["aisle", "orders"] (defScope s_homes_of) := ⟨rfl, rfl, rfl, by decide +kernel, rfl, by decide +kernel, by decide +kernel⟩
theorem ok_homes_of {P : Program} {w : World} {K : PySem.W.Frag} {mg : Str → Option Value} {base : Heap} (hF : Df K mg "homes_of" s_homes_of) (m_zip : mg "zip" = none) (o_Tour_leave : OkMe P w K mg base CX0 1 "Tour" "leave" ["self"] (sp_Tour_leave K)) (o_Tour_stop : OkMe P w K mg base CX0 1 "Tour" "stop" ["self"] (sp_Tour_stop K)) (o_Tour_lie_down : OkMe P w K mg base CX0 2 "Tour" "lie_down" ["self"] (sp_Tour_lie_down K)) (o_Tour_skip : OkMe P w K mg base CX0 2 "Tour" "skip" ["self"] (sp_Tour_skip K)) (o_Tour : OkMk P w K mg base CX0 1 "Tour" ["self", "aisle", "orders"] (sp_Tour K)) (o_look_at_orders : Ok P w K mg base 4 "look_at_orders" ["aisle", "thing"] (sp_look_at_orders K)) (cl_Tour : Cls K (He.ga K "Tour")) (na_Tour_homes : NoAttr K (He.ga K "Tour") "homes") (na_Tour_many : NoAttr K (He.ga K "Tour") "many") (na_Tour_taken : NoAttr K (He.ga K "Tour") "taken") : Ok P w K mg base 5 "homes_of" ["aisle", "orders"] (sp_homes_of K) := by
  obtain ⟨⟨_, G_Tour_leave, bd_Tour_leave⟩, cl_Tour_leave, me_Tour_leave⟩ := o_Tour_leave
  obtain ⟨⟨_, G_Tour_stop, bd_Tour_stop⟩, cl_Tour_stop, me_Tour_stop⟩ := o_Tour_stop
  obtain ⟨⟨_, G_Tour_lie_down, bd_Tour_lie_down⟩, cl_Tour_lie_down, me_Tour_lie_down⟩ := o_Tour_lie_down
  obtain ⟨⟨_, G_Tour_skip, bd_Tour_skip⟩, cl_Tour_skip, me_Tour_skip⟩ := o_Tour_skip
  obtain ⟨⟨_, G_Tour, bd_Tour⟩, gm_Tour, mk_Tour⟩ := o_Tour
  obtain ⟨⟨_, G_look_at_orders, bd_look_at_orders, _⟩, kp_look_at_orders, gm_look_at_orders⟩ := o_look_at_orders
  obtain ⟨⟨fd, F⟩, gm⟩ := hF
  refine ⟨⟨fd, F.ok sc_homes_of (fun vs H Q E h => ?_) (fun cdv A outer s H vs Q E hr h => ⟨t_homes_of K, PSs.nox ?_, w_homes_of cl_Tour na_Tour_homes na_Tour_many na_Tour_taken vs H Q E h⟩), F.bindsN fun _ _ _ _ _ _ us hl => match us, hl with | [_, _], _ => rfl, lk_of F⟩, F.kp, gm⟩
  · obtain ⟨F0, cc, cs, x, y, h, _⟩ := h; exact ArgR.len h
  · exact (pss_cons (ps_expr (pe_call G_look_at_orders (hr.mono (by decide)) (by rfl) gm_look_at_orders kp_look_at_orders bd_look_at_orders .nil pass0 (pa_cons (pv 0) (pa_cons (pv 1) pa_nil)))) (pss_cons (ps_set (i := 2) sc_homes_of.nd rfl (Or.inl rfl) (pe_make mk_Tour G_Tour (hr.mono (by decide)) (by rfl) gm_Tour bd_Tour .nil pass0 (pa_cons (pv 0) (pa_cons (pv 1) pa_nil)))) (pss_cons (ps_while PassesOwn.never (pt_cmpR op_gt (pe_fld (pv 2) rfl) pe_int (nomark _)) (pss_cons (ps_expr (pe_meth0 (pv 2) cl_Tour_skip me_Tour_skip G_Tour_skip (hr.mono (by decide)) bd_Tour_skip .nil pass0)) (pss_cons (ps_expr (pe_meth0 (pv 2) cl_Tour_lie_down me_Tour_lie_down G_Tour_lie_down (hr.mono (by decide)) bd_Tour_lie_down .nil pass0)) (pss_cons (ps_expr (pe_meth0 (pv 2) cl_Tour_stop me_Tour_stop G_Tour_stop (hr.mono (by decide)) bd_Tour_stop .nil pass0)) (pss_one (ps_expr (pe_meth0 (pv 2) cl_Tour_leave me_Tour_leave G_Tour_leave (hr.mono (by decide)) bd_Tour_leave .nil pass0))))))) (pss_one (ps_ret (pe_lc (own := [("taken", 3), ("home", 4)]) (g := (gTup K 2 (gCons (gName 3) (gCons (gName 4) gNil)))) (tt := tYes) (te := (tTup (tCons (tVar 3) (tCons (tVar 4) tNil)))) (by rfl) sc_homes_of.nd (pi_zip (by rfl) m_zip (pa_cons (pe_fld (pv 2) rfl) (pa_cons (pe_fld (pv 2) rfl) pa_nil))) (blkOk_by (own := [("taken", 3), ("home", 4)]) (N := N_homes_of) (sc := defScope s_homes_of) (by decide +kernel)) (fun _ _ _ _ _ => (pg_tup rfl (pgs_cons (pg_name (i := 3) sc_homes_of.nd rfl (Or.inl rfl)) (pgs_cons (pg_name (i := 4) sc_homes_of.nd rfl (Or.inl rfl)) pgs_nil)))) (fun _ _ _ _ _ => pts_nil) (fun _ _ _ _ _ => (pe_tup (pa_cons (pv 3) (pa_cons (pv 4) pa_nil))))))))))
abbrev s_end_of : Stmt := (top 25)
def f_end_of : (((List Int) × Int) × (List (Str × Int × Int × Int))) → Option Int := fun (aisle_1, orders_2) => (((f_homes_of (aisle_1, orders_2))).bind fun x3 => ((lcC (fun (taken_5, home_6) => ((home_6).bind fun x23 => some (some x23))) x3)).bind fun x25 => ((maxD x25 (0 : Int))).bind fun x27 => some x27)
abbrev A_end_of : (((List Int) × Int) × (List (Str × Int × Int × Int))) → List PyData := fun x => [(eT2 (eL eI) eI) x.1, (eL (eT4 eS eI eI eI)) x.2]
abbrev N_end_of : List Str := ["aisle", "orders", "taken", "home"]
abbrev sp_end_of (K : PySem.W.Frag) : Sp := spP K A_end_of eI f_end_of
def t_end_of (K : PySem.W.Frag) : TS := (tRet (tCKw (rMaxD K) (tCons (tLc (iList K (tCall (sp_homes_of K) [] E0 (tCons (tVar 0) (tCons (tVar 1) tNil)))) (gTup K 2 (gCons (gName 2) (gCons (gName 3) gNil))) tYes (tVar 3) [2, 3]) tNil) (tCons (tC (.int 0)) tNil)))
theorem w_end_of {K : PySem.W.Frag} (vs : List V) (H : Hp) (Q : VK) (E : XK) (h : sp_end_of K vs H Q E) : t_end_of K { nx := fun _ H' => Q .non H', rt := Q } (start N_end_of vs) H := by
  obtain ⟨F0, cs, ⟨aisle_1, orders_2⟩, y, h, hS0, m, q⟩ := h
  obtain ⟨a0, _, rfl, ha0, h⟩ := Dts.hd h
  obtain ⟨a1, _, rfl, ha1, h⟩ := Dts.hd h
  obtain rfl := Dts.no h
  unfold f_end_of at m
  try dsimp only at m
  unfold t_end_of
  refine go (σ' := [some a0, some a1, none, none]) rfl ?_
  obtain ⟨x3, k4, m⟩ := bnd m
  obtain ⟨x25, k26, m⟩ := bnd m
  obtain ⟨x27, k28, m⟩ := bnd m
  refine s_ret (K := K) (d := eI x27) hS0 (d_maxD (a_cons (EvC.dd (c_lcC (K := K) (f := (fun (taken_5, home_6) => ((home_6).bind fun x23 => some (some x23)))) (em := eI) (i_list (en := (eT2 (eO eI) (eO eI))) (EvC.dd (c_callX (A := A_homes_of) (B := B_homes_of) (C := C_homes_of) (x := (aisle_1, orders_2)) (y := x3) (cs2 := (cs)) (cc := []) (cs' := (cs)) (r_d (d_var rfl ha0) (r_d (d_var rfl ha1) r_nil)) sb_rfl k4 (fun _ => sb_rfl)))) k26 (fun ⟨taken_5, home_6⟩ o13 v14 F7 p8 us9 g10 hv11 ho12 => by obtain ⟨p17, w19, w20, rfl, hT18, hw21, hw22⟩ := u2 hv11; obtain rfl := dt_toI hw21; obtain rfl := dt_toI hw22; obtain ⟨x23, k24, ho12⟩ := bnd ho12; obtain rfl := sm ho12; exact ⟨[some a0, some a1, some (oV V.int taken_5), some (oV V.int home_6)], fun H16 Q hS15 hq => (fun Q hq => ⟨p17, [_, _], rfl, gr_T hS15.fr hT18, rfl, _, _, rfl, _, _, rfl, rfl, hq⟩) Q hq, rfl, t_yes, fun y hy => by obtain rfl := sm hy; exact (d_is (d_var rfl (dt_oI _)) (congrArg (eO eI) k24))⟩))) a_nil) (a_cons d_int a_nil) k28) (fun v33 F29 H30 g31 hS32 hv34 => ?_)
  obtain rfl := sm m
  exact q _ _ _ g31 hS32 hv34
theorem sc_end_of : FnScope N_end_of ["aisle", "orders"] (defScope s_end_of) := ⟨rfl, rfl, rfl, by decide +kernel, rfl, by decide +kernel, by decide +kernel⟩
theorem ok_end_of {P : Program} {w : World} {K : PySem.W.Frag} {mg : Str → Option Value} {base : Heap} (hF : Df K mg "end_of" s_end_of) (m_max : mg "max" = none) (o_homes_of : Ok P w K mg base 5 "homes_of" ["aisle", "orders"] (sp_homes_of K)) : Ok P w K mg base 6 "end_of" ["aisle", "orders"] (sp_end_of K) := by
  obtain ⟨⟨_, G_homes_of, bd_homes_of, _⟩, kp_homes_of, gm_homes_of⟩ := o_homes_of
  obtain ⟨⟨fd, F⟩, gm⟩ := hF
  refine ⟨⟨fd, F.ok sc_end_of (fun vs H Q E h => ?_) (fun cdv A outer s H vs Q E hr h => ⟨t_end_of K, PSs.nox ?_, w_end_of vs H Q E h⟩), F.bindsN fun _ _ _ _ _ _ us hl => match us, hl with | [_, _], _ => rfl, lk_of F⟩, F.kp, gm⟩
  · obtain ⟨F0, cs, x, y, h, _⟩ := h; exact Dts.len h
  · exact (pss_one (ps_ret (pe_callBK (ck_maxd rfl) (by rfl) m_max (by decide +kernel) (pa_cons (pe_lc (own := [("taken", 2), ("home", 3)]) (g := (gTup K 2 (gCons (gName 2) (gCons (gName 3) gNil)))) (tt := tYes) (te := (tVar 3)) (by rfl) sc_end_of.nd (pi_list (pe_call G_homes_of (hr.mono (by decide)) (by rfl) gm_homes_of kp_homes_of bd_homes_of .nil pass0 (pa_cons (pv 0) (pa_cons (pv 1) pa_nil)))) (blkOk_by (own := [("taken", 2), ("home", 3)]) (N := N_end_of) (sc := defScope s_end_of) (by decide +kernel)) (fun _ _ _ _ _ => (pg_tup rfl (pgs_cons (pg_name (i := 2) sc_end_of.nd rfl (Or.inl rfl)) (pgs_cons (pg_name (i := 3) sc_end_of.nd rfl (Or.inl rfl)) pgs_nil)))) (fun _ _ _ _ _ => pts_nil) (fun _ _ _ _ _ => (pv 3))) pa_nil) (pk_cons pe_int pk_nil))))
abbrev s_law : Stmt := (top 33)
def f_law : (List Int) → Option Bool := fun script_1 => (((f_pool (script_1, (0 : Int)))).bind fun x2 => (((f_aisle (x2, (15 : Int), (1000 : Int)))).bind fun (x11, pool_here_13) => (letM (x11.1.length : Int) fun last_24 => (((f_take (pool_here_13, (9516 : Int)))).bind fun (x26, pool_here_28) => (((f_take (pool_here_28, (4 : Int)))).bind fun (x33, pool_here_35) => (((f_take (pool_here_35, (2 : Int)))).bind fun (x40, pool_here_42) => ((atI ([([(1 : Int), (2 : Int), (30 : Int)] : (List Int)), ([(1 : Int), (40 : Int), ((4 : Int) * (x11.1).sum), (10000000 : Int)] : (List Int))] : (List (List Int))) x40)).bind fun x43 => (((f_take (pool_here_42, (2 : Int)))).bind fun (x51, pool_here_53) => ((atI ([(4 : Int), (20000 : Int)] : (List Int)) x51)).bind fun x54 => ((f_take (pool_here_53, x54))).bind fun (x56, pool_here_58) => letM ((1 : Int) + x56) fun halves_63 => (((mulM halves_63 (x11.1).sum)).bind fun x66 => (((f_orders (script_1, last_24, x26, x33, x43, (2 : Int)))).bind fun x72 => (letM x11.1 fun gaps_84 => ((if (decide ((halves_63 % (2 : Int)) = (1 : Int))) = true then (letM (gaps_84).reverse fun gaps_211 => some gaps_211) else some gaps_84)).bind fun gaps_88 => (((f_later (x72, last_24, x66, (decide ((halves_63 % (2 : Int)) = (1 : Int)))))).bind fun x107 => (letM ([((eT2 (eL eI) eI) (x11.1, x11.2)), ((eL (eT4 eS eI eI eI)) x72), ((eL eI) gaps_88), ((eL (eT4 eS eI eI eI)) x107)] : (List PyData)) fun kept_119 => (((f_homes_of ((gaps_88, x11.2), x107))).bind fun x123 => (((f_homes_of (x11, x72))).bind fun x131 => (((lcC (fun (taken_139, home_140) => ((taken_139).bind fun x157 => (home_140).bind fun x159 => some (some ((x157 + x66), (x159 + x66))))) x131)).bind fun x161 => (((f_end_of (x11, x72))).bind fun x169 => letM (x169 + x66) fun end_175 => (((if (!decide (x123 = ((fun xs => List.map (fun x => ((fun x => some ((fun x => x) x)) x.1, (fun x => some ((fun x => x) x)) x.2)) xs) x161))) = true then some true else (((f_end_of ((gaps_88, x11.2), x107))).bind fun x177 => some (!decide (x177 = end_175))))).bind fun x179 => (if x179 = true then some false else (((eqDM ((eL eD) ([((eT2 (eL eI) eI) x11), ((eL (eT4 eS eI eI eI)) x72), ((eL eI) gaps_88), ((eL (eT4 eS eI eI eI)) x107)] : (List PyData))) ((eL eD) kept_119))).bind fun x195 => some (x195))))))))))))))))))))
abbrev A_law : (List Int) → List PyData := fun x => [(eL eI) x]
abbrev N_law : List Str := ["_law_script", "_law_pool_here", "_law_aisle_here", "_law_last", "_law_salt", "_law_style", "_law_hops", "_law_halves", "_law_shift", "_law_orders_here", "_law_gaps", "_law_later_here", "_law_kept", "_law_found", "_law_told", "_law_due", "_law_end", "_law_taken", "_law_home"]
abbrev sp_law (K : PySem.W.Frag) : Sp := spP K A_law eB f_law
def t_law (K : PySem.W.Frag) : TS := (tSeq (tAsg (tCall (sp_pool K) [] E0 (tCons (tVar 0) (tCons (tC (.int 0)) tNil))) (gName 1)) (tSeq (tAsg (tCall (sp_aisle K) [] E0 (tCons (tVar 1) (tCons (tC (.int 15)) (tCons (tC (.int 1000)) tNil)))) (gName 2)) (tSeq (tAsg (tCB (rLenL K) (tCons (tOp (rIxT K) (tVar 2) (tC (.int 0))) tNil)) (gName 3)) (tSeq (tAsg (tCall (sp_take K) [] E0 (tCons (tVar 1) (tCons (tC (.int 9516)) tNil))) (gName 4)) (tSeq (tAsg (tCall (sp_take K) [] E0 (tCons (tVar 1) (tCons (tC (.int 4)) tNil))) (gName 5)) (tSeq (tAsg (tOp (rIxL K) (tLst (tCons (tLst (tCons (tC (.int 1)) (tCons (tC (.int 2)) (tCons (tC (.int 30)) tNil)))) (tCons (tLst (tCons (tC (.int 1)) (tCons (tC (.int 40)) (tCons (tOp (rI CMul fun i j => .int (i * j)) (tC (.int 4)) (tCB (rSum K) (tCons (tOp (rIxT K) (tVar 2) (tC (.int 0))) tNil))) (tCons (tOp (rI CPow fun i j => .int (i ^ j.toNat)) (tC (.int 10)) (tC (.int 7))) tNil))))) tNil))) (tCall (sp_take K) [] E0 (tCons (tVar 1) (tCons (tC (.int 2)) tNil)))) (gName 6)) (tSeq (tAsg (tOp (rI0 fun i j => .int (i + j)) (tC (.int 1)) (tCall (sp_take K) [] E0 (tCons (tVar 1) (tCons (tOp (rIxL K) (tLst (tCons (tC (.int 4)) (tCons (tC (.int 20000)) tNil))) (tCall (sp_take K) [] E0 (tCons (tVar 1) (tCons (tC (.int 2)) tNil)))) tNil)))) (gName 7)) (tSeq (tAsg (tOp (rI CMul fun i j => .int (i * j)) (tVar 7) (tCB (rSum K) (tCons (tOp (rIxT K) (tVar 2) (tC (.int 0))) tNil))) (gName 8)) (tSeq (tAsg (tCall (sp_orders K) [] E0 (tCons (tVar 0) (tCons (tVar 3) (tCons (tVar 4) (tCons (tVar 5) (tCons (tVar 6) (tCons (tC (.int 2)) tNil))))))) (gName 9)) (tSeq (tAsg (tCB (rListS K) (tCons (tOp (rIxT K) (tVar 2) (tC (.int 0))) tNil)) (gName 10)) (tSeq (tIfS (tTest (tOp rEq (tOp (rI (fun _ j => 0 < j) fun i j => .int (i % j)) (tVar 7) (tC (.int 2))) (tC (.int 1)))) (tAsg (tRevL K (tVar 10)) (gName 10)) tNext) (tSeq (tAsg (tCall (sp_later K) [] E0 (tCons (tVar 9) (tCons (tVar 3) (tCons (tVar 8) (tCons (tOp rEq (tOp (rI (fun _ j => 0 < j) fun i j => .int (i % j)) (tVar 7) (tC (.int 2))) (tC (.int 1))) tNil))))) (gName 11)) (tSeq (tAsg (tLst (tCons (tTup (tCons (tCB (rListS K) (tCons (tOp (rIxT K) (tVar 2) (tC (.int 0))) tNil)) (tCons (tOp (rIxT K) (tVar 2) (tC (.int 1))) tNil))) (tCons (tCB (rListS K) (tCons (tVar 9) tNil)) (tCons (tCB (rListS K) (tCons (tVar 10) tNil)) (tCons (tCB (rListS K) (tCons (tVar 11) tNil)) tNil))))) (gName 12)) (tSeq (tAsg (tCall (sp_homes_of K) [] E0 (tCons (tTup (tCons (tVar 10) (tCons (tOp (rIxT K) (tVar 2) (tC (.int 1))) tNil))) (tCons (tVar 11) tNil))) (gName 13)) (tSeq (tAsg (tCall (sp_homes_of K) [] E0 (tCons (tVar 2) (tCons (tVar 9) tNil))) (gName 14)) (tSeq (tAsg (tLc (iList K (tVar 14)) (gTup K 2 (gCons (gName 17) (gCons (gName 18) gNil))) tYes (tTup (tCons (tOp (rI0 fun i j => .int (i + j)) (tVar 17) (tVar 8)) (tCons (tOp (rI0 fun i j => .int (i + j)) (tVar 18) (tVar 8)) tNil))) [17, 18]) (gName 15)) (tSeq (tAsg (tOp (rI0 fun i j => .int (i + j)) (tCall (sp_end_of K) [] E0 (tCons (tVar 2) (tCons (tVar 9) tNil))) (tVar 8)) (gName 16)) (tSeq (tIfS (tOr (tTest (tOp (rNeD K) (tVar 13) (tVar 15))) (tTest (tOp rNe (tCall (sp_end_of K) [] E0 (tCons (tTup (tCons (tVar 10) (tCons (tOp (rIxT K) (tVar 2) (tC (.int 1))) tNil))) (tCons (tVar 11) tNil))) (tVar 16)))) (tRet (tC (.bl false))) tNext) (tRet (tOp (rEqD K) (tLst (tCons (tVar 2) (tCons (tVar 9) (tCons (tVar 10) (tCons (tVar 11) tNil))))) (tVar 12)))))))))))))))))))))
theorem w_law {K : PySem.W.Frag} (vs : List V) (H : Hp) (Q : VK) (E : XK) (h : sp_law K vs H Q E) : t_law K { nx := fun _ H' => Q .non H', rt := Q } (start N_law vs) H := by
  obtain ⟨F0, cs, script_1, y, h, hS0, m, q⟩ := h
  obtain ⟨a0, _, rfl, ha0, h⟩ := Dts.hd h
  obtain rfl := Dts.no h
  unfold f_law at m
  try dsimp only at m
  unfold t_law
  refine go (σ' := [some a0, none, none, none, none, none, none, none, none, none, none, none, none, none, none, none, none, none, none]) rfl ?_
  obtain ⟨x2, k3, m⟩ := bnd m
  refine s_setC (K := K) (ds := x2.map eI) (i := 1) (σ' := fun p8 => [some a0, some (.ref p8), none, none, none, none, none, none, none, none, none, none, none, none, none, none, none, none, none]) hS0 (c_callX (A := A_pool) (B := B_pool) (C := C_pool) (x := (script_1, (0 : Int))) (y := x2) (cs2 := (cs)) (cc := []) (cs' := (cs)) (r_d (d_var rfl ha0) (r_d d_int r_nil)) sb_rfl k3 (fun _ => sb_rfl)) (fun _ => rfl) (fun p8 us9 F4 H5 g6 hS7 hu10 => ?_)
  obtain rfl := Dts.ints hu10
  obtain ⟨⟨x11, pool_here_13⟩, k12, m⟩ := bnd m; (try dsimp only at m)
  refine s_set (K := K) (d := (eT2 (eL eI) eI) x11) (i := 2) (σ' := fun v18 => [some a0, some (.ref p8), some v18, none, none, none, none, none, none, none, none, none, none, none, none, none, none, none, none]) hS7 (d_callX (A := A_aisle) (B := B_aisle) (C := C_aisle) (x := (x2, (15 : Int), (1000 : Int))) (y := (x11, pool_here_13)) (cs2 := ((p8, HO.lst (pool_here_13.map V.int)) :: cs)) (cc := [(p8, HO.lst (x2.map V.int))]) (cs' := (cs)) (r_c rfl (r_d d_int (r_d d_int r_nil))) sb_rfl k12 sb_rfl) (fun _ => rfl) (fun v18 F14 H15 g16 hS17 hv19 => ?_)
  obtain ⟨last_24, k25, m⟩ := lt m
  refine s_setV (K := K) (d := eI last_24) (i := 3) (σ' := [some a0, some (.ref p8), some v18, some (.int last_24), none, none, none, none, none, none, none, none, none, none, none, none, none, none, none]) (fun _ _ h => Dt.toInt h) hS17 (d_is (d_len (e := eI) (a_cons (d_ixT (d_var rfl hv19) d_int rfl) a_nil)) (congrArg eI k25)) rfl (fun F20 H21 g22 hS23 => ?_)
  obtain ⟨⟨x26, pool_here_28⟩, k27, m⟩ := bnd m; (try dsimp only at m)
  refine s_setV (K := K) (d := eI x26) (i := 4) (σ' := [some a0, some (.ref p8), some v18, some (.int last_24), some (.int x26), none, none, none, none, none, none, none, none, none, none, none, none, none, none]) (fun _ _ h => Dt.toInt h) hS23 (d_callX (A := A_take) (B := B_take) (C := C_take) (x := (pool_here_13, (9516 : Int))) (y := (x26, pool_here_28)) (cs2 := ((p8, HO.lst (pool_here_28.map V.int)) :: cs)) (cc := [(p8, HO.lst (pool_here_13.map V.int))]) (cs' := (cs)) (r_c rfl (r_d d_int r_nil)) sb_rfl k27 sb_rfl) rfl (fun F29 H30 g31 hS32 => ?_)
  obtain ⟨⟨x33, pool_here_35⟩, k34, m⟩ := bnd m; (try dsimp only at m)
  refine s_setV (K := K) (d := eI x33) (i := 5) (σ' := [some a0, some (.ref p8), some v18, some (.int last_24), some (.int x26), some (.int x33), none, none, none, none, none, none, none, none, none, none, none, none, none]) (fun _ _ h => Dt.toInt h) hS32 (d_callX (A := A_take) (B := B_take) (C := C_take) (x := (pool_here_28, (4 : Int))) (y := (x33, pool_here_35)) (cs2 := ((p8, HO.lst (pool_here_35.map V.int)) :: cs)) (cc := [(p8, HO.lst (pool_here_28.map V.int))]) (cs' := (cs)) (r_c rfl (r_d d_int r_nil)) sb_rfl k34 sb_rfl) rfl (fun F36 H37 g38 hS39 => ?_)
  obtain ⟨⟨x40, pool_here_42⟩, k41, m⟩ := bnd m; (try dsimp only at m)
  obtain ⟨x43, k44, m⟩ := bnd m
  refine s_set (K := K) (d := (eL eI) x43) (i := 6) (σ' := fun v49 => [some a0, some (.ref p8), some v18, some (.int last_24), some (.int x26), some (.int x33), some v49, none, none, none, none, none, none, none, none, none, none, none, none]) hS39 (d_ix (e := (eL eI)) (d_lst (a_cons (d_lst (a_cons d_int (a_cons d_int (a_cons d_int a_nil))) (Nat.le_of_ble_eq_true rfl)) (a_cons (d_lst (a_cons d_int (a_cons d_int (a_cons (d_mulC d_int (d_sum (a_cons (d_ixT (d_var rfl (Dt.gr (Gr.tr g22 (Gr.tr g31 g38)) hv19)) d_int rfl) a_nil)) (.inl ⟨by decide, by decide⟩)) (a_cons (d_is (e := PyData.int 10000000) (d_powC d_int d_int ⟨by decide, by decide, by decide⟩) (congrArg PyData.int (by decide))) a_nil)))) (Nat.le_of_ble_eq_true rfl)) a_nil)) (Nat.le_of_ble_eq_true rfl)) (d_callX (A := A_take) (B := B_take) (C := C_take) (x := (pool_here_35, (2 : Int))) (y := (x40, pool_here_42)) (cs2 := ((p8, HO.lst (pool_here_42.map V.int)) :: cs)) (cc := [(p8, HO.lst (pool_here_35.map V.int))]) (cs' := (cs)) (r_c rfl (r_d d_int r_nil)) sb_rfl k41 sb_rfl) k44) (fun _ => rfl) (fun v49 F45 H46 g47 hS48 hv50 => ?_)
  obtain ⟨⟨x51, pool_here_53⟩, k52, m⟩ := bnd m; (try dsimp only at m)
  obtain ⟨x54, k55, m⟩ := bnd m
  obtain ⟨⟨x56, pool_here_58⟩, k57, m⟩ := bnd m; (try dsimp only at m)
  obtain ⟨halves_63, k64, m⟩ := lt m
  refine s_setV (K := K) (d := eI halves_63) (i := 7) (σ' := [some a0, some (.ref p8), some v18, some (.int last_24), some (.int x26), some (.int x33), some v49, some (.int halves_63), none, none, none, none, none, none, none, none, none, none, none]) (fun _ _ h => Dt.toInt h) hS48 (d_is (d_add d_int (d_callX (A := A_take) (B := B_take) (C := C_take) (x := (pool_here_53, x54)) (y := (x56, pool_here_58)) (cs2 := ((p8, HO.lst (pool_here_58.map V.int)) :: cs)) (cc := [(p8, HO.lst (pool_here_53.map V.int))]) (cs' := (cs)) (r_c rfl (r_d (d_ix (e := eI) (d_lst (a_cons d_int (a_cons d_int a_nil)) (Nat.le_of_ble_eq_true rfl)) (d_callX (A := A_take) (B := B_take) (C := C_take) (x := (pool_here_42, (2 : Int))) (y := (x51, pool_here_53)) (cs2 := ((p8, HO.lst (pool_here_53.map V.int)) :: cs)) (cc := [(p8, HO.lst (pool_here_42.map V.int))]) (cs' := (cs)) (r_c rfl (r_d d_int r_nil)) sb_rfl k52 sb_rfl) k55) r_nil)) sb_rfl k57 sb_rfl)) (congrArg eI k64)) rfl (fun F59 H60 g61 hS62 => ?_)
  have hS65 := Sta.frozeAt (l1 := []) hS62
  obtain ⟨x66, k67, m⟩ := bnd m
  refine s_setV (K := K) (d := eI x66) (i := 8) (σ' := [some a0, some (.ref p8), some v18, some (.int last_24), some (.int x26), some (.int x33), some v49, some (.int halves_63), some (.int x66), none, none, none, none, none, none, none, none, none, none]) (fun _ _ h => Dt.toInt h) hS65 (d_mul (d_var rfl (.int _)) (d_sum (a_cons (d_ixT (d_var rfl (Dt.gr (Gr.tr g22 (Gr.tr g31 (Gr.tr g38 (Gr.tr g47 (Gr.tr g61 (Gr.new (Sta.freeAt (l1 := []) hS62))))))) hv19)) d_int rfl) a_nil)) k67) rfl (fun F68 H69 g70 hS71 => ?_)
  obtain ⟨x72, k73, m⟩ := bnd m
  refine s_set (K := K) (d := (eL (eT4 eS eI eI eI)) x72) (i := 9) (σ' := fun v78 => [some a0, some (.ref p8), some v18, some (.int last_24), some (.int x26), some (.int x33), some v49, some (.int halves_63), some (.int x66), some v78, none, none, none, none, none, none, none, none, none]) hS71 (EvC.dd (c_callX (A := A_orders) (B := B_orders) (C := C_orders) (x := (script_1, last_24, x26, x33, x43, (2 : Int))) (y := x72) (cs2 := (cs)) (cc := []) (cs' := (cs)) (r_d (d_var rfl (Dt.gr (Gr.tr g6 (Gr.tr g16 (Gr.tr g22 (Gr.tr g31 (Gr.tr g38 (Gr.tr g47 (Gr.tr g61 (Gr.tr (Gr.new (Sta.freeAt (l1 := []) hS62)) g70)))))))) ha0)) (r_d (d_var rfl (.int _)) (r_d (d_var rfl (.int _)) (r_d (d_var rfl (.int _)) (r_d (d_var rfl (Dt.gr (Gr.tr g61 (Gr.tr (Gr.new (Sta.freeAt (l1 := []) hS62)) g70)) hv50)) (r_d d_int r_nil)))))) sb_rfl k73 (fun _ => sb_rfl))) (fun _ => rfl) (fun v78 F74 H75 g76 hS77 hv79 => ?_)
  obtain ⟨gaps_84, k85, m⟩ := lt m
  refine s_set (K := K) (d := (eL eI) gaps_84) (i := 10) (σ' := fun v86 => [some a0, some (.ref p8), some v18, some (.int last_24), some (.int x26), some (.int x33), some v49, some (.int halves_63), some (.int x66), some v78, some v86, none, none, none, none, none, none, none, none]) hS77 (d_is (d_listL (a_cons (d_ixT (d_var rfl (Dt.gr (Gr.tr g22 (Gr.tr g31 (Gr.tr g38 (Gr.tr g47 (Gr.tr g61 (Gr.tr (Gr.new (Sta.freeAt (l1 := []) hS62)) (Gr.tr g70 g76))))))) hv19)) d_int rfl) a_nil)) (congrArg (eL eI) k85)) (fun _ => rfl) (fun v86 F80 H81 g82 hS83 hv87 => ?_)
  obtain ⟨gaps_88, k90, m⟩ := bnd m
  refine s_ifJ (b := (decide ((halves_63 % (2 : Int)) = (1 : Int)))) (fun σ H => ∃ (F : Hp) (c : Cs), Gr F80 F ∧ Sta F c H ∧ ∃ (j10 : V) (j11 : Option V) (j12 : Option V) (j13 : Option V) (j14 : Option V) (j15 : Option V) (j16 : Option V) (j17 : Option V) (j18 : Option V), σ = [some a0, some (.ref p8), some v18, some (.int last_24), some (.int x26), some (.int x33), some v49, some (.int halves_63), some (.int x66), some v78, some j10, j11, j12, j13, j14, j15, j16, j17, j18] ∧ cs = c ∧ Dt K F j10 ((eL eI) gaps_88)) hS83 (t_test (K := K) (d_eqI (d_modC (d_var rfl (.int _)) d_int (by decide)) d_int)) ?_ (fun jn89 hc F203 H204 g205 hS206 => ?_) (fun jn89 hc F215 H216 g217 hS218 => ?_)
  · rintro σ96 H92 ⟨F91, c95, g93, hS94, v97, u98, u99, u100, u101, u102, u103, u104, u105, rfl, rfl, h106⟩
    obtain ⟨x107, k108, m⟩ := bnd m
    refine s_set (K := K) (d := (eL (eT4 eS eI eI eI)) x107) (i := 11) (σ' := fun v113 => [some a0, some (.ref p8), some v18, some (.int last_24), some (.int x26), some (.int x33), some v49, some (.int halves_63), some (.int x66), some v78, some v97, some v113, u99, u100, u101, u102, u103, u104, u105]) hS94 (EvC.dd (c_callX (A := A_later) (B := B_later) (C := C_later) (x := (x72, last_24, x66, (decide ((halves_63 % (2 : Int)) = (1 : Int))))) (y := x107) (cs2 := (cs)) (cc := []) (cs' := (cs)) (r_d (d_var rfl (Dt.gr (Gr.tr g82 g93) hv79)) (r_d (d_var rfl (.int _)) (r_d (d_var rfl (.int _)) (r_d (d_eqI (d_modC (d_var rfl (.int _)) d_int (by decide)) d_int) r_nil)))) sb_rfl k108 (fun _ => sb_rfl))) (fun _ => rfl) (fun v113 F109 H110 g111 hS112 hv114 => ?_)
    obtain ⟨kept_119, k120, m⟩ := lt m
    refine s_set (K := K) (d := (eL eD) kept_119) (i := 12) (σ' := fun v121 => [some a0, some (.ref p8), some v18, some (.int last_24), some (.int x26), some (.int x33), some v49, some (.int halves_63), some (.int x66), some v78, some v97, some v113, some v121, u100, u101, u102, u103, u104, u105]) hS112 (d_is (d_lst (a_cons (d_tup (a_cons (d_listL (a_cons (d_ixT (d_var rfl (Dt.gr (Gr.tr g22 (Gr.tr g31 (Gr.tr g38 (Gr.tr g47 (Gr.tr g61 (Gr.tr (Gr.new (Sta.freeAt (l1 := []) hS62)) (Gr.tr g70 (Gr.tr g76 (Gr.tr g82 (Gr.tr g93 g111)))))))))) hv19)) d_int rfl) a_nil)) (a_cons (d_ixT (d_var rfl (Dt.gr (Gr.tr g22 (Gr.tr g31 (Gr.tr g38 (Gr.tr g47 (Gr.tr g61 (Gr.tr (Gr.new (Sta.freeAt (l1 := []) hS62)) (Gr.tr g70 (Gr.tr g76 (Gr.tr g82 (Gr.tr g93 g111)))))))))) hv19)) d_int rfl) a_nil)) (Nat.le_of_ble_eq_true rfl)) (a_cons (d_listL (a_cons (d_var rfl (Dt.gr (Gr.tr g82 (Gr.tr g93 g111)) hv79)) a_nil)) (a_cons (d_listL (a_cons (d_var rfl (Dt.gr g111 h106)) a_nil)) (a_cons (d_listL (a_cons (d_var rfl hv114) a_nil)) a_nil)))) (Nat.le_of_ble_eq_true rfl)) (congrArg (eL eD) k120)) (fun _ => rfl) (fun v121 F115 H116 g117 hS118 hv122 => ?_)
    obtain ⟨x123, k124, m⟩ := bnd m
    refine s_set (K := K) (d := (eL (eT2 (eO eI) (eO eI))) x123) (i := 13) (σ' := fun v129 => [some a0, some (.ref p8), some v18, some (.int last_24), some (.int x26), some (.int x33), some v49, some (.int halves_63), some (.int x66), some v78, some v97, some v113, some v121, some v129, u101, u102, u103, u104, u105]) hS118 (EvC.dd (c_callX (A := A_homes_of) (B := B_homes_of) (C := C_homes_of) (x := ((gaps_88, x11.2), x107)) (y := x123) (cs2 := (cs)) (cc := []) (cs' := (cs)) (r_d (d_tup (a_cons (d_var rfl (Dt.gr (Gr.tr g111 g117) h106)) (a_cons (d_ixT (d_var rfl (Dt.gr (Gr.tr g22 (Gr.tr g31 (Gr.tr g38 (Gr.tr g47 (Gr.tr g61 (Gr.tr (Gr.new (Sta.freeAt (l1 := []) hS62)) (Gr.tr g70 (Gr.tr g76 (Gr.tr g82 (Gr.tr g93 (Gr.tr g111 g117))))))))))) hv19)) d_int rfl) a_nil)) (Nat.le_of_ble_eq_true rfl)) (r_d (d_var rfl (Dt.gr g117 hv114)) r_nil)) sb_rfl k124 (fun _ => sb_rfl))) (fun _ => rfl) (fun v129 F125 H126 g127 hS128 hv130 => ?_)
    obtain ⟨x131, k132, m⟩ := bnd m
    refine s_set (K := K) (d := (eL (eT2 (eO eI) (eO eI))) x131) (i := 14) (σ' := fun v137 => [some a0, some (.ref p8), some v18, some (.int last_24), some (.int x26), some (.int x33), some v49, some (.int halves_63), some (.int x66), some v78, some v97, some v113, some v121, some v129, some v137, u102, u103, u104, u105]) hS128 (EvC.dd (c_callX (A := A_homes_of) (B := B_homes_of) (C := C_homes_of) (x := (x11, x72)) (y := x131) (cs2 := (cs)) (cc := []) (cs' := (cs)) (r_d (d_var rfl (Dt.gr (Gr.tr g22 (Gr.tr g31 (Gr.tr g38 (Gr.tr g47 (Gr.tr g61 (Gr.tr (Gr.new (Sta.freeAt (l1 := []) hS62)) (Gr.tr g70 (Gr.tr g76 (Gr.tr g82 (Gr.tr g93 (Gr.tr g111 (Gr.tr g117 g127)))))))))))) hv19)) (r_d (d_var rfl (Dt.gr (Gr.tr g82 (Gr.tr g93 (Gr.tr g111 (Gr.tr g117 g127)))) hv79)) r_nil)) sb_rfl k132 (fun _ => sb_rfl))) (fun _ => rfl) (fun v137 F133 H134 g135 hS136 hv138 => ?_)
    obtain ⟨x161, k162, m⟩ := bnd m
    refine s_set (K := K) (d := (eL (eT2 eI eI)) x161) (i := 15) (σ' := fun v167 => [some a0, some (.ref p8), some v18, some (.int last_24), some (.int x26), some (.int x33), some v49, some (.int halves_63), some (.int x66), some v78, some v97, some v113, some v121, some v129, some v137, some v167, u103, u104, u105]) hS136 (EvC.dd (c_lcC (K := K) (f := (fun (taken_139, home_140) => ((taken_139).bind fun x157 => (home_140).bind fun x159 => some (some ((x157 + x66), (x159 + x66)))))) (em := (eT2 eI eI)) (i_list (en := (eT2 (eO eI) (eO eI))) (d_var rfl hv138)) k162 (fun ⟨taken_139, home_140⟩ o147 v148 F141 p142 us143 g144 hv145 ho146 => by obtain ⟨p151, w153, w154, rfl, hT152, hw155, hw156⟩ := u2 hv145; obtain rfl := dt_toI hw155; obtain rfl := dt_toI hw156; obtain ⟨x157, k158, ho146⟩ := bnd ho146; obtain ⟨x159, k160, ho146⟩ := bnd ho146; obtain rfl := sm ho146; exact ⟨[some a0, some (.ref p8), some v18, some (.int last_24), some (.int x26), some (.int x33), some v49, some (.int halves_63), some (.int x66), some v78, some v97, some v113, some v121, some v129, some v137, u102, u103, some (oV V.int taken_139), some (oV V.int home_140)], fun H150 Q hS149 hq => (fun Q hq => ⟨p151, [_, _], rfl, gr_T hS149.fr hT152, rfl, _, _, rfl, _, _, rfl, rfl, hq⟩) Q hq, rfl, t_yes, fun y hy => by obtain rfl := sm hy; exact (d_tup (a_cons (d_add (d_is (d_var rfl (dt_oI _)) (congrArg (eO eI) k158)) (d_var rfl (.int _))) (a_cons (d_add (d_is (d_var rfl (dt_oI _)) (congrArg (eO eI) k160)) (d_var rfl (.int _))) a_nil)) (Nat.le_of_ble_eq_true rfl))⟩))) (fun _ => rfl) (fun v167 F163 H164 g165 hS166 hv168 => ?_)
    obtain ⟨x169, k170, m⟩ := bnd m
    obtain ⟨end_175, k176, m⟩ := lt m
    refine s_setV (K := K) (d := eI end_175) (i := 16) (σ' := [some a0, some (.ref p8), some v18, some (.int last_24), some (.int x26), some (.int x33), some v49, some (.int halves_63), some (.int x66), some v78, some v97, some v113, some v121, some v129, some v137, some v167, some (.int end_175), u104, u105]) (fun _ _ h => Dt.toInt h) hS166 (d_is (d_add (d_call (A := A_end_of) (B := eI) (x := (x11, x72)) (a_cons (d_var rfl (Dt.gr (Gr.tr g22 (Gr.tr g31 (Gr.tr g38 (Gr.tr g47 (Gr.tr g61 (Gr.tr (Gr.new (Sta.freeAt (l1 := []) hS62)) (Gr.tr g70 (Gr.tr g76 (Gr.tr g82 (Gr.tr g93 (Gr.tr g111 (Gr.tr g117 (Gr.tr g127 (Gr.tr g135 g165)))))))))))))) hv19)) (a_cons (d_var rfl (Dt.gr (Gr.tr g82 (Gr.tr g93 (Gr.tr g111 (Gr.tr g117 (Gr.tr g127 (Gr.tr g135 g165)))))) hv79)) a_nil)) k170) (d_var rfl (.int _))) (congrArg eI k176)) rfl (fun F171 H172 g173 hS174 => ?_)
    obtain ⟨x179, k180, m⟩ := bnd m
    refine s_if (b := x179) hS174 (t_orM (r := x179) (t_test (K := K) (d_neT (e := (eL (eT2 (eO eI) (eO eI)))) (EqE.l (EqE.t2 eqE_OI eqE_OI)) (ShE.l (ShE.t2 sh_OI sh_OI)) (by decide) (d_var rfl (Dt.gr (Gr.tr g135 (Gr.tr g165 g173)) hv130)) (d_is (d_var rfl (Dt.gr g173 hv168)) ((cv_L (cv_T2 (cv_some cv_id) (cv_some cv_id))) _)))) (fun hc => by rw [if_neg (bf hc)] at k180; obtain ⟨x177, k178, k180⟩ := bnd k180; obtain rfl := sm k180; exact (t_test (K := K) (d_neI (d_call (A := A_end_of) (B := eI) (x := ((gaps_88, x11.2), x107)) (a_cons (d_tup (a_cons (d_var rfl (Dt.gr (Gr.tr g111 (Gr.tr g117 (Gr.tr g127 (Gr.tr g135 (Gr.tr g165 g173))))) h106)) (a_cons (d_ixT (d_var rfl (Dt.gr (Gr.tr g22 (Gr.tr g31 (Gr.tr g38 (Gr.tr g47 (Gr.tr g61 (Gr.tr (Gr.new (Sta.freeAt (l1 := []) hS62)) (Gr.tr g70 (Gr.tr g76 (Gr.tr g82 (Gr.tr g93 (Gr.tr g111 (Gr.tr g117 (Gr.tr g127 (Gr.tr g135 (Gr.tr g165 g173))))))))))))))) hv19)) d_int rfl) a_nil)) (Nat.le_of_ble_eq_true rfl)) (a_cons (d_var rfl (Dt.gr (Gr.tr g117 (Gr.tr g127 (Gr.tr g135 (Gr.tr g165 g173)))) hv114)) a_nil)) k178) (d_var rfl (.int _))))) (fun hc => by rw [if_pos hc] at k180; exact (sm k180).symm)) (fun hc F181 H182 g183 hS184 => ?_) (fun hc F191 H192 g193 hS194 => ?_)
    · rw [if_pos hc] at m
      refine s_ret (K := K) (d := eB false) hS184 d_bl (fun v189 F185 H186 g187 hS188 hv190 => ?_)
      obtain rfl := sm m
      exact q _ _ _ (Gr.tr g6 (Gr.tr g16 (Gr.tr g22 (Gr.tr g31 (Gr.tr g38 (Gr.tr g47 (Gr.tr g61 (Gr.tr (Gr.new (Sta.freeAt (l1 := []) hS62)) (Gr.tr g70 (Gr.tr g76 (Gr.tr g82 (Gr.tr g93 (Gr.tr g111 (Gr.tr g117 (Gr.tr g127 (Gr.tr g135 (Gr.tr g165 (Gr.tr g173 (Gr.tr g183 g187))))))))))))))))))) hS188 hv190
    · rw [if_neg (bf hc)] at m
      refine nxt ?_
      obtain ⟨x195, k196, m⟩ := bnd m
      refine s_ret (K := K) (d := eB (x195)) hS194 (d_eqDM (d_lst (a_cons (d_var rfl (Dt.gr (Gr.tr g22 (Gr.tr g31 (Gr.tr g38 (Gr.tr g47 (Gr.tr g61 (Gr.tr (Gr.new (Sta.freeAt (l1 := []) hS62)) (Gr.tr g70 (Gr.tr g76 (Gr.tr g82 (Gr.tr g93 (Gr.tr g111 (Gr.tr g117 (Gr.tr g127 (Gr.tr g135 (Gr.tr g165 (Gr.tr g173 g193)))))))))))))))) hv19)) (a_cons (d_var rfl (Dt.gr (Gr.tr g82 (Gr.tr g93 (Gr.tr g111 (Gr.tr g117 (Gr.tr g127 (Gr.tr g135 (Gr.tr g165 (Gr.tr g173 g193)))))))) hv79)) (a_cons (d_var rfl (Dt.gr (Gr.tr g111 (Gr.tr g117 (Gr.tr g127 (Gr.tr g135 (Gr.tr g165 (Gr.tr g173 g193)))))) h106)) (a_cons (d_var rfl (Dt.gr (Gr.tr g117 (Gr.tr g127 (Gr.tr g135 (Gr.tr g165 (Gr.tr g173 g193))))) hv114)) a_nil)))) (Nat.le_of_ble_eq_true rfl)) (d_var rfl (Dt.gr (Gr.tr g127 (Gr.tr g135 (Gr.tr g165 (Gr.tr g173 g193)))) hv122)) k196) (fun v201 F197 H198 g199 hS200 hv202 => ?_)
      obtain rfl := sm m
      exact q _ _ _ (Gr.tr g6 (Gr.tr g16 (Gr.tr g22 (Gr.tr g31 (Gr.tr g38 (Gr.tr g47 (Gr.tr g61 (Gr.tr (Gr.new (Sta.freeAt (l1 := []) hS62)) (Gr.tr g70 (Gr.tr g76 (Gr.tr g82 (Gr.tr g93 (Gr.tr g111 (Gr.tr g117 (Gr.tr g127 (Gr.tr g135 (Gr.tr g165 (Gr.tr g173 (Gr.tr g193 g199))))))))))))))))))) hS200 hv202
  · rw [if_pos hc] at k90
    obtain ⟨gaps_211, k212, k90⟩ := lt k90
    refine s_set (K := K) (d := (eL eI) gaps_211) (i := 10) (σ' := fun v213 => [some a0, some (.ref p8), some v18, some (.int last_24), some (.int x26), some (.int x33), some v49, some (.int halves_63), some (.int x66), some v78, some v213, none, none, none, none, none, none, none, none]) hS206 (d_is (EvC.dd (c_rev (d_var rfl (Dt.gr g205 hv87)))) (congrArg (eL eI) k212)) (fun _ => rfl) (fun v213 F207 H208 g209 hS210 hv214 => ?_)
    obtain rfl := sm k90
    exact jn89 _ _ ⟨_, _, (Gr.tr g205 g209), hS210, _, _, _, _, _, _, _, _, _, rfl, rfl, hv214⟩
  · rw [if_neg (bf hc)] at k90
    refine nxt ?_
    obtain rfl := sm k90
    exact jn89 _ _ ⟨_, _, g217, hS218, _, _, _, _, _, _, _, _, _, rfl, rfl, (Dt.gr g217 hv87)⟩
theorem sc_law : FnScope N_law ["_law_script"] (defScope s_law) := ⟨rfl, rfl, rfl, by decide +kernel, rfl, by decide +kernel, by decide +kernel⟩
theorem ok_law {P : Program} {w : World} {K : PySem.W.Frag} {mg : Str → Option Value} {base : Heap} (hF : Df K mg "law" s_law) (m_len : mg "len" = none) (m_list : mg "list" = none) (m_sum : mg "sum" = none) (o_end_of : Ok P w K mg base 6 "end_of" ["aisle", "orders"] (sp_end_of K)) (o_homes_of : Ok P w K mg base 5 "homes_of" ["aisle", "orders"] (sp_homes_of K)) (o_later : Ok P w K mg base 1 "_law_later" ["_law_orders_here", "_law_last", "_law_shift", "_law_turned"] (sp_later K)) (o_orders : Ok P w K mg base 2 "_law_orders" ["_law_script", "_law_last", "_law_salt", "_law_style", "_law_hops", "_law_fewest"] (sp_orders K)) (o_take : Ok P w K mg base 1 "_law_take" ["_law_pool_here", "_law_many"] (sp_take K)) (o_aisle : Ok P w K mg base 2 "_law_aisle" ["_law_pool_here", "_law_most_gaps", "_law_longest"] (sp_aisle K)) (o_pool : Ok P w K mg base 1 "_law_pool" ["_law_script", "_law_k"] (sp_pool K)) : Ok P w K mg base 7 "law" ["_law_script"] (sp_law K) := by
  obtain ⟨⟨_, G_end_of, bd_end_of, _⟩, kp_end_of, gm_end_of⟩ := o_end_of
  obtain ⟨⟨_, G_homes_of, bd_homes_of, _⟩, kp_homes_of, gm_homes_of⟩ := o_homes_of
  obtain ⟨⟨_, G_later, bd_later, _⟩, kp_later, gm_later⟩ := o_later
  obtain ⟨⟨_, G_orders, bd_orders, _⟩, kp_orders, gm_orders⟩ := o_orders
  obtain ⟨⟨_, G_take, bd_take, _⟩, kp_take, gm_take⟩ := o_take
  obtain ⟨⟨_, G_aisle, bd_aisle, _⟩, kp_aisle, gm_aisle⟩ := o_aisle
  obtain ⟨⟨_, G_pool, bd_pool, _⟩, kp_pool, gm_pool⟩ := o_pool
  obtain ⟨⟨fd, F⟩, gm⟩ := hF
  refine ⟨⟨fd, F.ok sc_law (fun vs H Q E h => ?_) (fun cdv A outer s H vs Q E hr h => ⟨t_law K, PSs.nox ?_, w_law vs H Q E h⟩), F.bindsN fun _ _ _ _ _ _ us hl => match us, hl with | [_], _ => rfl, lk_of F⟩, F.kp, gm⟩
  · obtain ⟨F0, cs, x, y, h, _⟩ := h; exact Dts.len h
  · exact (pss_cons (ps_set (i := 1) sc_law.nd rfl (Or.inl rfl) (pe_call G_pool (hr.mono (by decide)) (by rfl) gm_pool kp_pool bd_pool .nil pass0 (pa_cons (pv 0) (pa_cons pe_int pa_nil)))) (pss_cons (ps_set (i := 2) sc_law.nd rfl (Or.inl rfl) (pe_call G_aisle (hr.mono (by decide)) (by rfl) gm_aisle kp_aisle bd_aisle .nil pass0 (pa_cons (pv 1) (pa_cons pe_int (pa_cons pe_int pa_nil))))) (pss_cons (ps_set (i := 3) sc_law.nd rfl (Or.inl rfl) (pe_callB cr_lenL (by rfl) m_len PySem.boot_len (pa_cons (pe_ix ix_tup (pv 2) pe_int (fun _ _ => rfl)) pa_nil))) (pss_cons (ps_set (i := 4) sc_law.nd rfl (Or.inl rfl) (pe_call G_take (hr.mono (by decide)) (by rfl) gm_take kp_take bd_take .nil pass0 (pa_cons (pv 1) (pa_cons pe_int pa_nil)))) (pss_cons (ps_set (i := 5) sc_law.nd rfl (Or.inl rfl) (pe_call G_take (hr.mono (by decide)) (by rfl) gm_take kp_take bd_take .nil pass0 (pa_cons (pv 1) (pa_cons pe_int pa_nil)))) (pss_cons (ps_set (i := 6) sc_law.nd rfl (Or.inl rfl) (pe_ix ix_list (pe_lst (pa_cons (pe_lst (pa_cons pe_int (pa_cons pe_int (pa_cons pe_int pa_nil)))) (pa_cons (pe_lst (pa_cons pe_int (pa_cons pe_int (pa_cons (pe_op op_mul pe_int (pe_callB (cr_sum rfl) (by rfl) m_sum (by decide +kernel) (pa_cons (pe_ix ix_tup (pv 2) pe_int (fun _ _ => rfl)) pa_nil))) (pa_cons (pe_op op_pow pe_int pe_int) pa_nil))))) pa_nil))) (pe_call G_take (hr.mono (by decide)) (by rfl) gm_take kp_take bd_take .nil pass0 (pa_cons (pv 1) (pa_cons pe_int pa_nil))) (fun _ _ => rfl))) (pss_cons (ps_set (i := 7) sc_law.nd rfl (Or.inl rfl) (pe_op op_add pe_int (pe_call G_take (hr.mono (by decide)) (by rfl) gm_take kp_take bd_take .nil pass0 (pa_cons (pv 1) (pa_cons (pe_ix ix_list (pe_lst (pa_cons pe_int (pa_cons pe_int pa_nil))) (pe_call G_take (hr.mono (by decide)) (by rfl) gm_take kp_take bd_take .nil pass0 (pa_cons (pv 1) (pa_cons pe_int pa_nil))) (fun _ _ => rfl)) pa_nil))))) (pss_cons (ps_set (i := 8) sc_law.nd rfl (Or.inr rfl) (pe_op op_mul (pv 7) (pe_callB (cr_sum rfl) (by rfl) m_sum (by decide +kernel) (pa_cons (pe_ix ix_tup (pv 2) pe_int (fun _ _ => rfl)) pa_nil)))) (pss_cons (ps_set (i := 9) sc_law.nd rfl (Or.inl rfl) (pe_call G_orders (hr.mono (by decide)) (by rfl) gm_orders kp_orders bd_orders .nil pass0 (pa_cons (pv 0) (pa_cons (pv 3) (pa_cons (pv 4) (pa_cons (pv 5) (pa_cons (pv 6) (pa_cons pe_int pa_nil)))))))) (pss_cons (ps_set (i := 10) sc_law.nd rfl (Or.inl rfl) (pe_callTy cr_list (by rfl) m_list (by decide +kernel) (pa_cons (pe_ix ix_tup (pv 2) pe_int (fun _ _ => rfl)) pa_nil))) (pss_cons (ps_if (pt_cmpR op_eq (pe_op op_mod (pv 7) pe_int) pe_int (nomark _)) (pss_one (ps_set (i := 10) sc_law.nd rfl (Or.inl rfl) (pe_revL (pv 10)))) pss_nil) (pss_cons (ps_set (i := 11) sc_law.nd rfl (Or.inl rfl) (pe_call G_later (hr.mono (by decide)) (by rfl) gm_later kp_later bd_later .nil pass0 (pa_cons (pv 9) (pa_cons (pv 3) (pa_cons (pv 8) (pa_cons (pe_cmpR op_eq (pe_op op_mod (pv 7) pe_int) pe_int (nomark _)) pa_nil)))))) (pss_cons (ps_set (i := 12) sc_law.nd rfl (Or.inl rfl) (pe_lst (pa_cons (pe_tup (pa_cons (pe_callTy cr_list (by rfl) m_list (by decide +kernel) (pa_cons (pe_ix ix_tup (pv 2) pe_int (fun _ _ => rfl)) pa_nil)) (pa_cons (pe_ix ix_tup (pv 2) pe_int (fun _ _ => rfl)) pa_nil))) (pa_cons (pe_callTy cr_list (by rfl) m_list (by decide +kernel) (pa_cons (pv 9) pa_nil)) (pa_cons (pe_callTy cr_list (by rfl) m_list (by decide +kernel) (pa_cons (pv 10) pa_nil)) (pa_cons (pe_callTy cr_list (by rfl) m_list (by decide +kernel) (pa_cons (pv 11) pa_nil)) pa_nil)))))) (pss_cons (ps_set (i := 13) sc_law.nd rfl (Or.inl rfl) (pe_call G_homes_of (hr.mono (by decide)) (by rfl) gm_homes_of kp_homes_of bd_homes_of .nil pass0 (pa_cons (pe_tup (pa_cons (pv 10) (pa_cons (pe_ix ix_tup (pv 2) pe_int (fun _ _ => rfl)) pa_nil))) (pa_cons (pv 11) pa_nil)))) (pss_cons (ps_set (i := 14) sc_law.nd rfl (Or.inl rfl) (pe_call G_homes_of (hr.mono (by decide)) (by rfl) gm_homes_of kp_homes_of bd_homes_of .nil pass0 (pa_cons (pv 2) (pa_cons (pv 9) pa_nil)))) (pss_cons (ps_setLc (i := 15) (own := [("_law_taken", 17), ("_law_home", 18)]) (g := (gTup K 2 (gCons (gName 17) (gCons (gName 18) gNil)))) (tt := tYes) (te := (tTup (tCons (tOp (rI0 fun i j => .int (i + j)) (tVar 17) (tVar 8)) (tCons (tOp (rI0 fun i j => .int (i + j)) (tVar 18) (tVar 8)) tNil)))) (by rfl) sc_law.nd rfl rfl (sw_true rfl rfl rfl (by decide +kernel)) (pi_list (pv 14)) (blkOk_by (own := [("_law_taken", 17), ("_law_home", 18)]) (N := N_law) (sc := defScope s_law) (by decide +kernel)) (fun _ _ _ _ _ => (pg_tup rfl (pgs_cons (pg_name (i := 17) sc_law.nd rfl (Or.inl rfl)) (pgs_cons (pg_name (i := 18) sc_law.nd rfl (Or.inl rfl)) pgs_nil)))) (fun _ _ _ _ _ => pts_nil) (fun _ _ _ _ _ => (pe_tup (pa_cons (pe_op op_add (pv 17) (pv 8)) (pa_cons (pe_op op_add (pv 18) (pv 8)) pa_nil))))) (pss_cons (ps_set (i := 16) sc_law.nd rfl (Or.inl rfl) (pe_op op_add (pe_call G_end_of (hr.mono (by decide)) (by rfl) gm_end_of kp_end_of bd_end_of .nil pass0 (pa_cons (pv 2) (pa_cons (pv 9) pa_nil))) (pv 8))) (pss_cons (ps_if (PW.pt (pw_or (pt_cmpR (op_neD hr.units) (pv 13) (pv 15) (nomark _)) (pw_or1 (pt_cmpR op_ne (pe_call G_end_of (hr.mono (by decide)) (by rfl) gm_end_of kp_end_of bd_end_of .nil pass0 (pa_cons (pe_tup (pa_cons (pv 10) (pa_cons (pe_ix ix_tup (pv 2) pe_int (fun _ _ => rfl)) pa_nil))) (pa_cons (pv 11) pa_nil))) (pv 16) (nomark _))))) (pss_one (ps_ret pe_bl)) pss_nil) (pss_one (ps_ret (pe_cmpR (op_eqD hr.units) (pe_lst (pa_cons (pv 2) (pa_cons (pv 9) (pa_cons (pv 10) (pa_cons (pv 11) pa_nil))))) (pv 12) (nomark _))))))))))))))))))))))
end Bw


namespace Bw
open PySem L2
theorem letM_eq {α β : Type} (x : α) (f : α → β) : letM x f = f x := Eq.trans rfl rfl
/-- step over a bind by the answer's equation (no unfolding left to the kernel) -/
theorem bo {α β : Type} {a : Option α} {x : α} (h : a = some x) (f : α → Option β) : a.bind f = f x := by subst h; rfl
/-! plain facts about what may fail -/
theorem atI_nn {α : Type} (xs : List α) (i : Nat) (h : i < xs.length) : atI xs (i : Int) = some xs[i] := by
  unfold atI ixN
  have h0 : (0 : Int) ≤ (i : Int) := by omega
  have h1 : (i : Int) < (xs.length : Int) := by omega
  rw [if_pos h0, if_pos h1]
  show xs[(i : Int).toNat]? = _
  rw [Int.toNat_natCast]
  exact List.getElem?_eq_getElem h
theorem atI_int {α : Type} (xs : List α) (i : Int) (h0 : 0 ≤ i) (h : i < xs.length) : ∃ x, atI xs i = some x ∧ xs[i.toNat]? = some x := by
  obtain ⟨n, rfl⟩ : ∃ n : Nat, i = n := ⟨i.toNat, by omega⟩
  have hn : n < xs.length := by omega
  refine ⟨xs[n], atI_nn xs n hn, ?_⟩
  rw [Int.toNat_natCast]
  exact List.getElem?_eq_getElem hn
theorem atI_mem {α : Type} {xs : List α} {i : Int} {x : α} (h : atI xs i = some x) : x ∈ xs := by
  unfold atI at h
  cases e : ixN xs.length i with
  | none => rw [e] at h; cases h
  | some j => rw [e] at h; exact List.mem_of_getElem? h
theorem appM_ok {α : Type} {xs : List α} {x : α} (h : xs.length < 100000) : appM xs x = some (xs ++ [x]) := by unfold appM; rw [if_pos h]
theorem catM_ok {α : Type} {xs ys : List α} (h : xs.length + ys.length ≤ 100000) : catM xs ys = some (xs ++ ys) := by unfold catM; rw [if_pos h]
theorem flat_one {α : Type} (x : α) : ∀ n : Nat, (List.replicate n [x]).flatten = List.replicate n x
  | 0 => rfl
  | n + 1 => by rw [List.replicate_succ, List.flatten_cons, flat_one x n]; rfl
theorem repM_one {α : Type} {x : α} {k : Int} (h0 : -(2 ^ 63) ≤ k) (h : k ≤ 100000) : repM [x] k = some (List.replicate k.toNat x) := by
  unfold repM
  rw [if_pos ⟨h0, by omega, by simp only [List.length_singleton]; omega⟩, flat_one]
theorem mulM_ok {a b : Int} (h1 : -(2 ^ 64) < a) (h2 : a < 2 ^ 64) : mulM a b = some (a * b) := by unfold mulM; rw [if_pos (.inl ⟨h1, h2⟩)]
theorem modM_ok {a b : Int} (h : 0 < b) : modM a b = some (a % b) := by unfold modM; rw [if_pos h]
theorem fdivM_ok {a b : Int} (h : 0 < b) (h2 : b < 1073741824) : fdivM a b = some (a / b) := by unfold fdivM; rw [if_pos ⟨h, h2⟩]
theorem rngM_ok {a b : Int} (h1 : -100000 ≤ a) (h2 : a ≤ 100000) (h3 : -100000 ≤ b) (h4 : b ≤ 100000) : rngM a b = some (rngL a b) := by unfold rngM; rw [if_pos ⟨by omega, by omega, by omega, by omega⟩]
theorem mapC_ok {α β : Type} {f : α → β} {xs : List α} (h : xs.length ≤ 100000) : mapC f xs = some (xs.map f) := by unfold mapC; rw [if_pos h]
theorem filC_ok {α β : Type} {p : α → Bool} {f : α → β} {xs : List α} (h : xs.length ≤ 100000) : filC p f xs = some ((xs.filter p).map f) := by unfold filC; rw [if_pos h]
theorem lcC_ok {α β : Type} {f : α → Option (Option β)} {xs : List α} (h : xs.length ≤ 100000) : lcC f xs = lcM f xs := by unfold lcC; rw [if_pos h]
theorem lcM_all {α β : Type} {f : α → Option (Option β)} {g : α → β} : ∀ {xs : List α}, (∀ x ∈ xs, f x = some (some (g x))) → lcM f xs = some (xs.map g)
  | [], _ => rfl
  | x :: xs, h => by
    show (f x).bind _ = _
    rw [h x List.mem_cons_self, lcM_all fun y hy => h y (List.mem_cons_of_mem _ hy)]
    rfl
theorem lcM_fil {α β : Type} {f : α → Option (Option β)} {p : α → Bool} {g : α → β} : ∀ {xs : List α}, (∀ x ∈ xs, f x = some (if p x = true then some (g x) else none)) → lcM f xs = some ((xs.filter p).map g)
  | [], _ => rfl
  | x :: xs, h => by
    show (f x).bind _ = _
    rw [h x List.mem_cons_self, lcM_fil fun y hy => h y (List.mem_cons_of_mem _ hy), List.filter_cons]
    cases p x <;> rfl
/-- a loop whose every turn goes on keeps what it keeps -/
theorem foldlM_inv {α S : Type} {body : S → α → Option S} (J : Nat → S → Prop) : ∀ (xs : List α) (i : Nat) (s : S), J i s → (∀ (k : Nat) (x : α) (s : S), xs[k]? = some x → J (i + k) s → ∃ t, body s x = some t ∧ J (i + k + 1) t) → ∃ r, xs.foldlM body s = some r ∧ J (i + xs.length) r
  | [], i, s, h, _ => ⟨s, rfl, h⟩
  | x :: xs, i, s, h, hb => by
    obtain ⟨t, h1, h2⟩ := hb 0 x s rfl h
    obtain ⟨r, h3, h4⟩ := foldlM_inv J xs (i + 1) t h2 fun k y u hy hu => by
      have e : i + 1 + k = i + (k + 1) := by omega
      rw [e] at hu ⊢
      exact hb (k + 1) y u (by simpa using hy) hu
    refine ⟨r, ?_, ?_⟩
    · rw [List.foldlM_cons, h1]; exact h3
    · have e : i + (x :: xs).length = i + 1 + xs.length := by rw [List.length_cons]; omega
      rw [e]; exact h4
theorem forF_nx {α S R : Type} {body : S → α → Option (Fl S R)} (J : S → Prop) : ∀ (xs : List α) (s : S), J s → (∀ x ∈ xs, ∀ s, J s → ∃ t, body s x = some (.nx t) ∧ J t) → ∃ r, forF body xs s = some (.nx r) ∧ J r
  | [], s, h, _ => ⟨s, rfl, h⟩
  | x :: xs, s, h, hb => by
    obtain ⟨t, h1, h2⟩ := hb x List.mem_cons_self s h
    obtain ⟨r, h3, h4⟩ := forF_nx J xs t h2 fun y hy => hb y (List.mem_cons_of_mem _ hy)
    refine ⟨r, ?_, h4⟩
    show (body s x).bind _ = _
    rw [h1]; exact h3
theorem enumM_get {α : Type} {xs : List α} {k : Nat} {p : Int × α} (h : (enumM xs)[k]? = some p) : ∃ x, xs[k]? = some x ∧ p = ((k : Int), x) := by
  unfold enumM at h
  rw [List.getElem?_mapIdx] at h
  cases e : xs[k]? with
  | none => rw [e] at h; cases h
  | some x => rw [e] at h; cases h; exact ⟨x, rfl, rfl⟩
theorem enumM_len {α : Type} (xs : List α) : (enumM xs).length = xs.length := by simp [enumM]
theorem rngL_len (a b : Int) : (rngL a b).length = (b - a).toNat := by simp [rngL]
theorem rngL_get {a b : Int} {k : Nat} {x : Int} (h : (rngL a b)[k]? = some x) : x = a + (k : Int) ∧ k < (b - a).toNat := by
  unfold rngL at h
  rw [List.getElem?_map] at h
  cases e : (List.range (b - a).toNat)[k]? with
  | none => rw [e] at h; cases h
  | some j =>
    rw [e] at h
    obtain ⟨h1, h2⟩ := List.getElem?_eq_some_iff.mp e
    rw [List.getElem_range] at h2
    cases h
    subst h2
    exact ⟨rfl, by simpa using h1⟩
/-- each thing below its size -/
inductive Bel : List Int → List Int → Prop
  | nil : Bel [] []
  | cons {x s : Int} {xs ss : List Int} : 0 ≤ x → x < s → Bel xs ss → Bel (x :: xs) (s :: ss)
theorem Bel.len : ∀ {xs ss : List Int}, Bel xs ss → xs.length = ss.length
  | _, _, .nil => rfl
  | _, _, .cons _ _ h => by rw [List.length_cons, List.length_cons, h.len]
theorem Bel.snoc : ∀ {xs ss : List Int} {x s : Int}, Bel xs ss → 0 ≤ x → x < s → Bel (xs ++ [x]) (ss ++ [s])
  | _, _, _, _, .nil, h1, h2 => .cons h1 h2 .nil
  | _, _, _, _, .cons a b h, h1, h2 => .cons a b (h.snoc h1 h2)
theorem Bel.get : ∀ {xs ss : List Int} {k : Nat} {s : Int}, Bel xs ss → ss[k]? = some s → ∃ x, xs[k]? = some x ∧ 0 ≤ x ∧ x < s
  | _, _, _, _, .nil, e => by simp at e
  | _, _, 0, _, .cons a b h, e => by simp at e; subst e; exact ⟨_, rfl, a, b⟩
  | _, _, k + 1, s, .cons a b h, e => by
    obtain ⟨x, h1, h2⟩ := h.get (k := k) (s := s) (by simpa using e)
    exact ⟨x, by simpa using h1, h2⟩
theorem Bel.at {xs ss : List Int} {k : Nat} {s : Int} (h : Bel xs ss) (e : ss[k]? = some s) : ∃ x, atI xs (k : Int) = some x ∧ 0 ≤ x ∧ x < s := by
  obtain ⟨x, h1, h2, h3⟩ := h.get e
  obtain ⟨hk, h4⟩ := List.getElem?_eq_some_iff.mp h1
  exact ⟨x, by rw [atI_nn xs k hk, h4], h2, h3⟩
theorem Bel.rep : ∀ {xs : List Int} {n : Nat} {s : Int}, Bel xs (List.replicate n s) → xs.length = n ∧ ∀ x ∈ xs, 0 ≤ x ∧ x < s
  | _, 0, _, h => by cases h; exact ⟨rfl, fun x hx => by cases hx⟩
  | _, n + 1, s, h => by
    rw [List.replicate_succ] at h
    cases h with
    | cons a b h =>
      obtain ⟨h1, h2⟩ := h.rep
      refine ⟨by rw [List.length_cons, h1], fun x hx => ?_⟩
      rcases List.mem_cons.mp hx with rfl | hx
      · exact ⟨a, b⟩
      · exact h2 x hx
theorem absI_nn (c : Int) : 0 ≤ absI c := by unfold absI; split <;> omega
end Bw

namespace Bw
open PySem L2
/-! what is told, and what is true of it -/
def Rt {α : Type} (o : Option α) (P : α → Prop) : Prop := ∃ x, o = some x ∧ P x
theorem Rt.mono {α : Type} {o : Option α} {P Q : α → Prop} (h : Rt o P) (k : ∀ x, P x → Q x) : Rt o Q := let ⟨x, h1, h2⟩ := h; ⟨x, h1, k x h2⟩
theorem Rt.mo {α : Type} {o : Option α} {P Q : α → Prop} (h : Rt o P) (k : ∀ x, o = some x → P x → Q x) : Rt o Q := let ⟨x, h1, h2⟩ := h; ⟨x, h1, k x h1 h2⟩
theorem Rt.eq {α : Type} {o : Option α} {y : α} (h : Rt o fun x => x = y) : o = some y := let ⟨x, h1, h2⟩ := h; h2 ▸ h1
theorem rt_of {α : Type} {o : Option α} {x : α} {P : α → Prop} (h : o = some x) (p : P x) : Rt o P := ⟨x, h, p⟩
theorem rt_some {α : Type} {x : α} {P : α → Prop} : Rt (some x) P ↔ P x := ⟨fun ⟨y, h1, h2⟩ => (Option.some.inj h1) ▸ h2, fun h => ⟨x, rfl, h⟩⟩
theorem rt_bind {α β : Type} {a : Option α} {f : α → Option β} {P : β → Prop} : Rt (a.bind f) P ↔ Rt a fun x => Rt (f x) P := by
  constructor
  · rintro ⟨y, h1, h2⟩
    obtain ⟨x, h3, h4⟩ := bnd h1
    exact ⟨x, h3, y, h4, h2⟩
  · rintro ⟨x, h3, y, h4, h2⟩
    exact ⟨y, by rw [h3]; exact h4, h2⟩
theorem rt_let {α β : Type} {x : α} {f : α → Option β} {P : β → Prop} : Rt (letM x f) P ↔ Rt (f x) P := Iff.rfl
theorem rt_ite {α : Type} {c : Prop} [Decidable c] {a b : Option α} {P : α → Prop} : Rt (if c then a else b) P ↔ (c → Rt a P) ∧ (¬ c → Rt b P) := by
  by_cases h : c
  · rw [if_pos h]; exact ⟨fun k => ⟨fun _ => k, fun z => absurd h z⟩, fun k => k.1 h⟩
  · rw [if_neg h]; exact ⟨fun k => ⟨fun z => absurd z h, fun _ => k⟩, fun k => k.2 h⟩
theorem rt_pos {α : Type} {c : Prop} [Decidable c] {a b : Option α} {P : α → Prop} (h : c) (k : Rt a P) : Rt (if c then a else b) P := by rw [if_pos h]; exact k
theorem rt_neg {α : Type} {c : Prop} [Decidable c] {a b : Option α} {P : α → Prop} (h : ¬ c) (k : Rt b P) : Rt (if c then a else b) P := by rw [if_neg h]; exact k
theorem rt_if {α : Type} {c : Prop} [Decidable c] {x : α} {P : Prop} [Decidable P] {Q : α → Prop} {o : Prop} (h : o) : o := h
theorem rt_g {α : Type} {p : Prop} [Decidable p] {x : α} {P : α → Prop} : Rt (if p then some x else none) P ↔ p ∧ P x := by
  by_cases h : p
  · rw [if_pos h, rt_some]; exact ⟨fun k => ⟨h, k⟩, fun k => k.2⟩
  · rw [if_neg h]; exact ⟨fun ⟨_, z, _⟩ => (nomatch z), fun k => absurd k.1 h⟩
theorem rt_app {α : Type} {xs : List α} {x : α} {P : List α → Prop} : Rt (appM xs x) P ↔ xs.length < 100000 ∧ P (xs ++ [x]) := by unfold appM; exact rt_g
theorem rt_cat {α : Type} {xs ys : List α} {P : List α → Prop} : Rt (catM xs ys) P ↔ xs.length + ys.length ≤ 100000 ∧ P (xs ++ ys) := by unfold catM; exact rt_g
theorem rt_mul {a b : Int} {P : Int → Prop} : Rt (mulM a b) P ↔ ((-(2 ^ 64) < a ∧ a < 2 ^ 64) ∨ (-(2 ^ 64) < b ∧ b < 2 ^ 64)) ∧ P (a * b) := by unfold mulM; exact rt_g
theorem rt_mod {a b : Int} {P : Int → Prop} : Rt (modM a b) P ↔ 0 < b ∧ P (a % b) := by unfold modM; exact rt_g
theorem rt_fdiv {a b : Int} {P : Int → Prop} : Rt (fdivM a b) P ↔ (0 < b ∧ b < 1073741824) ∧ P (a / b) := by unfold fdivM; exact rt_g
theorem rt_rng {a b : Int} {P : List Int → Prop} : Rt (rngM a b) P ↔ (-(2 ^ 62) ≤ a ∧ a < 2 ^ 62 ∧ -(2 ^ 62) ≤ b ∧ b < 2 ^ 62) ∧ P (rngL a b) := by unfold rngM; exact rt_g
theorem rt_scat {x y : Str} {P : Str → Prop} : Rt (scatM x y) P ↔ x.length + y.length ≤ 100000 ∧ P (x ++ y) := by unfold scatM; exact rt_g
theorem rt_lenS {x : Str} {P : Int → Prop} : Rt (lenS x) P ↔ x.length ≤ 100000 ∧ P (x.length : Int) := by unfold lenS; exact rt_g
theorem rt_str {x : Int} {P : Str → Prop} : Rt (strM x) P ↔ x.natAbs.log2 < 1920 ∧ P (toString x) := by unfold strM; exact rt_g
theorem rt_join {x : Str} {xs : List Str} {P : Str → Prop} : Rt (joinM x xs) P ↔ ((xs.map (·.length)).sum + x.length * xs.length) ≤ 100000 ∧ P (Txt.join x xs) := by unfold joinM; exact rt_g
theorem rt_mapC {α β : Type} {f : α → β} {xs : List α} {P : List β → Prop} : Rt (mapC f xs) P ↔ xs.length ≤ 100000 ∧ P (xs.map f) := by unfold mapC; exact rt_g
theorem rt_filC {α β : Type} {p : α → Bool} {f : α → β} {xs : List α} {P : List β → Prop} : Rt (filC p f xs) P ↔ xs.length ≤ 100000 ∧ P ((xs.filter p).map f) := by unfold filC; exact rt_g
theorem rt_lcC {α β : Type} {f : α → Option (Option β)} {xs : List α} {P : List β → Prop} : Rt (lcC f xs) P ↔ xs.length ≤ 100000 ∧ Rt (lcM f xs) P := by
  unfold lcC
  by_cases h : xs.length ≤ 100000
  · rw [if_pos h]; exact ⟨fun k => ⟨h, k⟩, fun k => k.2⟩
  · rw [if_neg h]; exact ⟨fun ⟨_, z, _⟩ => (nomatch z), fun k => absurd k.1 h⟩
theorem rt_rep {α : Type} {xs : List α} {k : Int} {P : List α → Prop} : Rt (repM xs k) P ↔ (-(2 ^ 63) ≤ k ∧ k < 2 ^ 63 ∧ xs.length * k.toNat ≤ 100000) ∧ P (List.replicate k.toNat xs).flatten := by unfold repM; exact rt_g
theorem rt_at {α : Type} {xs : List α} {i : Int} {P : α → Prop} (h0 : 0 ≤ i) (h : i < xs.length) (k : ∀ x, xs[i.toNat]? = some x → P x) : Rt (atI xs i) P := by
  obtain ⟨x, h1, h2⟩ := atI_int xs i h0 h
  exact ⟨x, h1, k x h2⟩
theorem rt_lc {α β : Type} {f : α → Option (Option β)} {R : α → β → Prop} : ∀ {xs : List α} {P : List β → Prop}, (∀ x ∈ xs, Rt (f x) fun o => ∃ y, o = some y ∧ R x y) → (∀ ys : List β, ys.length = xs.length → (∀ (i : Nat) x y, xs[i]? = some x → ys[i]? = some y → R x y) → P ys) → Rt (lcM f xs) P
  | [], P, _, k => ⟨[], rfl, k [] rfl fun i x y h => by simp at h⟩
  | x :: xs, P, h, k => by
    obtain ⟨o, h1, y, rfl, h2⟩ := h x List.mem_cons_self
    obtain ⟨ys, h3, h4, h5⟩ := rt_lc (xs := xs) (P := fun ys => ys.length = xs.length ∧ ∀ (i : Nat) x y, xs[i]? = some x → ys[i]? = some y → R x y) (fun z hz => h z (List.mem_cons_of_mem _ hz)) fun ys a b => ⟨a, b⟩
    refine ⟨y :: ys, ?_, k _ (by simp [h4]) fun i x' y' hx hy => ?_⟩
    · show (f x).bind _ = _
      rw [h1]
      show (lcM f xs).bind _ = _
      rw [h3]; rfl
    · cases i with
      | zero => simp at hx hy; subst hx; subst hy; exact h2
      | succ i => exact h5 i x' y' (by simpa using hx) (by simpa using hy)
/-- a loop by what it keeps: the turns so far -/
theorem rt_fold {α S : Type} {body : S → α → Option S} {xs : List α} {s : S} {P : S → Prop} (J : Nat → S → Prop) (h0 : J 0 s) (hb : ∀ (k : Nat) x s, xs[k]? = some x → J k s → Rt (body s x) (J (k + 1))) (hd : ∀ s, J xs.length s → P s) : Rt (xs.foldlM body s) P := by
  obtain ⟨r, h1, h2⟩ := foldlM_inv (body := body) J xs 0 s h0 fun k x t hx ht => by
    rw [Nat.zero_add] at ht ⊢
    exact hb k x t hx ht
  exact ⟨r, h1, hd r (by rwa [Nat.zero_add] at h2)⟩
/-- a loop that goes through -/
theorem rt_for {α S R : Type} {body : S → α → Option (Fl S R)} {xs : List α} {s : S} {P : Fl S R → Prop} (J : S → Prop) (h0 : J s) (hb : ∀ x ∈ xs, ∀ s, J s → Rt (body s x) fun f => ∃ t, f = .nx t ∧ J t) (hd : ∀ s, J s → P (.nx s)) : Rt (forF body xs s) P := by
  obtain ⟨r, h1, h2⟩ := forF_nx (body := body) J xs s h0 fun x hx t ht => by
    obtain ⟨f, h1, u, rfl, h2⟩ := hb x hx t ht
    exact ⟨u, h1, h2⟩
  exact ⟨_, h1, hd r h2⟩
end Bw

namespace Bw
open PySem L2 TL
/-! good stores -/
abbrev Bx := Str × Int × Int
abbrev Sto := List Int × List Int × Int × List Bx
theorem popM_ok {α : Type} {xs : List α} (i : Nat) (h : i < xs.length) (hl : xs.length < 1000000) : popM xs (i : Int) = some (xs[i], xs.eraseIdx i) := by
  unfold popM
  rw [if_pos ⟨by omega, by omega⟩]
  have e : seqIndex? (i : Int) xs.length = some i := by
    unfold seqIndex?
    have h0 : ¬ ((i : Int) < 0) := by omega
    simp only [if_neg h0, Int.toNat_natCast]
    rw [if_pos]
    simp; omega
  rw [bo e, List.getElem?_eq_getElem h]
  rfl
theorem erase_perm {α : Type} : ∀ (xs : List α) (i : Nat) (h : i < xs.length), xs.Perm (xs[i] :: xs.eraseIdx i)
  | x :: xs, 0, _ => .refl _
  | x :: xs, i + 1, h => by
    have h' : i < xs.length := by simpa using h
    exact ((erase_perm xs i h').cons x).trans (.swap _ _ _)
theorem remM_ok {xs : List Int} {x : Int} (h : x ∈ xs) : remM xs x = some (xs.erase x) := by
  unfold remM inL
  rw [if_pos]
  exact List.any_eq_true.mpr ⟨x, h, by simp⟩
theorem fold_arr (c : Nat) : ∀ (n : Nat) (a : Array Nat), ((List.replicate n #[c]).foldl (· ++ ·) a).toList = a.toList ++ List.replicate n c
  | 0, a => by simp
  | n + 1, a => by
    rw [List.replicate_succ, List.foldl_cons, fold_arr c n, List.replicate_succ]
    simp
theorem tl_mul1 (x : Str) (c : Nat) (hx : tl x = [c]) (n : Int) : tl (Txt.mul x n) = List.replicate n.toNat c := by
  have e : x = ⟨#[c]⟩ := ext_tl hx
  subst e
  unfold Txt.mul
  split
  · rename_i h
    have : n.toNat = 0 := by omega
    rw [this]; rfl
  · split
    · rename_i h1 h2
      simp [Str.length] at h2
      subst h2
      rfl
    · show ((List.replicate n.toNat #[c]).foldl (· ++ ·) #[]).toList = _
      rw [fold_arr]; rfl
theorem srepM_ok (x : Str) (c : Nat) (hx : tl x = [c]) (n : Int) (h0 : 0 ≤ n) (h : n ≤ 100) : srepM x n = some ⟨(List.replicate n.toNat c).toArray⟩ := by
  unfold srepM
  have hl : x.length = 1 := by rw [len_tl, hx]; rfl
  rw [if_pos ⟨by omega, by omega, by rw [hl]; omega⟩]
  exact congrArg some (ext_tl (by rw [tl_mul1 x c hx]))
theorem scatM_ok (x y : Str) (h : (tl x).length + (tl y).length ≤ 100000) : scatM x y = some ⟨(tl x ++ tl y).toArray⟩ := by
  unfold scatM
  rw [len_tl, len_tl, if_pos h]
  exact congrArg some (ext_tl (by rw [tl_append]))
abbrev abc : Str := "abcdefghijklmnopqrstuvwxyz"
theorem abc_ix : ∀ i : Fin 26, ixS abc ((i.val : Nat) : Int) = some ⟨#[97 + i.val]⟩ := by decide +kernel
theorem abc_at (i : Int) (h0 : 0 ≤ i) (h : i < 26) : ixS abc i = some ⟨#[97 + i.toNat]⟩ := by
  have := abc_ix ⟨i.toNat, by omega⟩
  simp only at this
  rw [← this]
  congr 1
  omega
def NmOk (s : Str) : Prop := 1 ≤ (tl s).length ∧ (tl s).length ≤ 8 ∧ ∀ c ∈ tl s, 97 ≤ c ∧ c ≤ 122
structure BxOk (rooms : List Int) (bs : List Bx) : Prop where
  len : bs.length ≤ 60
  nm : ∀ x ∈ bs, NmOk x.1
  nd : (bs.map (·.1)).Nodup
  ba : ∀ x ∈ bs, 0 ≤ x.2.1 ∧ x.2.1 < rooms.length
  bt : ∀ x ∈ bs, 0 ≤ x.2.2 ∧ x.2.2 < rooms.length
  ra : ∀ (b : Nat) (r : Int), rooms[b]? = some r → (bs.countP fun x => decide (x.2.1 = (b : Int))) ≤ r.toNat
  rt : ∀ (b : Nat) (r : Int), rooms[b]? = some r → (bs.countP fun x => decide (x.2.2 = (b : Int))) ≤ r.toNat
structure SOk (s : Sto) : Prop where
  n2 : 2 ≤ s.1.length
  n16 : s.1.length ≤ 16
  rm : ∀ r ∈ s.1, 1 ≤ r ∧ r ≤ 40
  gl : s.2.1.length + 1 = s.1.length
  gm : ∀ g ∈ s.2.1, 1 ≤ g ∧ g ≤ 1000000000
  mo : 1 ≤ s.2.2.1 ∧ s.2.2.1 ≤ 20
  bx : BxOk s.1 s.2.2.2
/-! equal to its copy -/
def Shp (n : Nat) (d : PyData) : Prop := d.canLay0 = true ∧ d.depth ≤ n
theorem Shp.mono {n m : Nat} {d : PyData} (h : Shp n d) (hm : n ≤ m) : Shp m d := ⟨h.1, Nat.le_trans h.2 hm⟩
theorem shp_int (i : Int) : Shp 0 (.int i) := ⟨rfl, Nat.le_refl _⟩
theorem shp_all {n : Nat} : ∀ {xs : List PyData}, (∀ x ∈ xs, Shp n x) → PyData.canLayAll0 xs = true ∧ PyData.depthAll xs ≤ n
  | [], _ => ⟨rfl, Nat.zero_le _⟩
  | x :: xs, h => by
    obtain ⟨a, b⟩ := shp_all fun y hy => h y (List.mem_cons_of_mem _ hy)
    obtain ⟨c, d⟩ := h x List.mem_cons_self
    unfold PyData.canLayAll0 PyData.depthAll
    rw [a, c]
    exact ⟨rfl, Nat.max_le.mpr ⟨d, b⟩⟩
theorem shp_list {n : Nat} {xs : List PyData} (h : ∀ x ∈ xs, Shp n x) : Shp (n + 1) (.list xs) := by
  obtain ⟨a, b⟩ := shp_all h
  exact ⟨by unfold PyData.canLay0; exact a, by unfold PyData.depth; omega⟩
theorem shp_tup {n : Nat} {xs : List PyData} (h : ∀ x ∈ xs, Shp n x) : Shp (n + 1) (.tuple xs) := by
  obtain ⟨a, b⟩ := shp_all h
  exact ⟨by unfold PyData.canLay0; exact a, by unfold PyData.depth; omega⟩
theorem shp_str {s : Str} (h : ∀ c ∈ tl s, c < 0x110000) : Shp 0 (.str s) := by
  refine ⟨?_, Nat.le_refl _⟩
  unfold PyData.canLay0 PyData.strOk
  rw [Array.all_eq_true']
  intro c hc
  exact decide_eq_true (h c (Array.mem_def.mp hc))
theorem shp_ints (xs : List Int) : Shp 1 (eL eI xs) := shp_list fun x hx => by
  obtain ⟨i, _, rfl⟩ := List.mem_map.mp hx
  exact shp_int i
theorem shp_box {x : Bx} (h : NmOk x.1) : Shp 1 (eT3 eS eI eI x) := shp_tup fun y hy => by
  have hs : Shp 0 (eS x.1) := shp_str fun c hc => by have := h.2.2 c hc; omega
  simp only [List.mem_cons, List.not_mem_nil, or_false] at hy
  rcases hy with rfl | rfl | rfl
  · exact hs
  · exact shp_int _
  · exact shp_int _
theorem shp_boxes {bs : List Bx} (h : ∀ x ∈ bs, NmOk x.1) : Shp 2 (eL (eT3 eS eI eI) bs) := shp_list fun x hx => by
  obtain ⟨y, hy, rfl⟩ := List.mem_map.mp hx
  exact shp_box (h y hy)
theorem shp_store {s : Sto} (h : SOk s) : Shp 3 (eT4 (eL eI) (eL eI) eI (eL (eT3 eS eI eI)) s) := shp_tup fun y hy => by
  simp only [List.mem_cons, List.not_mem_nil, or_false] at hy
  rcases hy with rfl | rfl | rfl | rfl
  · exact (shp_ints _).mono (by decide)
  · exact (shp_ints _).mono (by decide)
  · exact (shp_int _).mono (by decide)
  · exact shp_boxes h.bx.nm
theorem Shp.ok {n : Nat} {d : PyData} (h : Shp n d) (hn : n ≤ 64) : SeqAt.shaped d = true := by
  unfold SeqAt.shaped
  rw [h.1, decide_eq_true (Nat.le_trans h.2 hn)]; rfl
theorem eqT_self {α : Type} [DecidableEq α] {e : α → PyData} {x : α} {n : Nat} (h : Shp n (e x)) (hn : n ≤ 64) : eqTM e x x = some true := by
  unfold eqTM
  rw [if_pos ⟨h.ok hn, h.ok hn⟩, decide_eq_true rfl]
theorem setM_ok {α : Type} {xs : List α} {i : Int} (x : α) (h0 : 0 ≤ i) (h : i < xs.length) : setM xs i x = some (xs.set i.toNat x) := by
  unfold setM ixN
  rw [if_pos h0, if_pos h]
  rfl
theorem cut_take {α : Type} (xs : List α) (i : Int) (h0 : 0 ≤ i) : cutL xs none (some i) = xs.take i.toNat := by
  obtain ⟨k, rfl⟩ : ∃ k : Nat, i = k := ⟨i.toNat, by omega⟩
  unfold cutL
  rw [HT.sIx_none, HT.sIx_nat, Int.toNat_natCast, List.drop_zero, Nat.sub_zero]
  by_cases h : k ≤ xs.length
  · rw [Nat.min_eq_left h]
  · rw [Nat.min_eq_right (by omega), List.take_of_length_le (Nat.le_refl _), List.take_of_length_le (by omega)]
theorem bx_take {rooms : List Int} {bs : List Bx} (h : BxOk rooms bs) (n : Nat) : BxOk rooms (bs.take n) := by
  have sub := List.take_sublist n bs
  refine ⟨Nat.le_trans sub.length_le h.len, fun x hx => h.nm x (sub.mem hx), h.nd.sublist (sub.map _), fun x hx => h.ba x (sub.mem hx), fun x hx => h.bt x (sub.mem hx), fun b r e => Nat.le_trans (sub.countP_le) (h.ra b r e), fun b r e => Nat.le_trans (sub.countP_le) (h.rt b r e)⟩
theorem bx_room {rooms rooms' : List Int} {bs : List Bx} (h : BxOk rooms bs) (hl : rooms'.length = rooms.length) (hg : ∀ (b : Nat) (r' : Int), rooms'[b]? = some r' → ∃ r, rooms[b]? = some r ∧ r ≤ r') : BxOk rooms' bs := by
  refine ⟨h.len, h.nm, h.nd, by rw [hl]; exact h.ba, by rw [hl]; exact h.bt, fun b r' e => ?_, fun b r' e => ?_⟩
  · obtain ⟨r, e1, e2⟩ := hg b r' e
    have := h.ra b r e1; omega
  · obtain ⟨r, e1, e2⟩ := hg b r' e
    have := h.rt b r e1; omega
end Bw

namespace Bw
open PySem L2 TL
/-! good names are names -/
theorem whole_ok (x : Int) : f_is_whole x = some true := rfl
theorem between_eq (x a b : Int) : f_is_between (x, a, b) = some (decide (a ≤ x) && decide (x ≤ b)) := by
  unfold f_is_between
  dsimp only
  rw [bo (whole_ok x), Bool.true_and]
theorem between_ok {x a b : Int} (h1 : a ≤ x) (h2 : x ≤ b) : f_is_between (x, a, b) = some true := by rw [between_eq, decide_eq_true h1, decide_eq_true h2]; rfl
theorem all_id : ∀ {α : Type} (xs : List α), (xs.map fun _ => true).all id = true
  | _, [] => rfl
  | _, _ :: xs => by rw [List.map_cons, List.all_cons, all_id xs]; rfl
theorem inS_abc {c : Nat} (h1 : 97 ≤ c) (h2 : c ≤ 122) : inS ⟨#[c]⟩ "abcdefghijklmnopqrstuvwxyz" = true := by
  have h : ∀ i : Fin 26, 97 + i.val ∈ tl ("abcdefghijklmnopqrstuvwxyz" : Str) := by decide +kernel
  unfold inS
  rw [PySem.StrLaws.found_one, decide_eq_true_eq]
  have := h ⟨c - 97, by omega⟩
  have e : 97 + (c - 97) = c := by omega
  simpa [e] using this
theorem is_name_ok {s : Str} (h : NmOk s) : f_is_name s = some true := by
  obtain ⟨h1, h2, h3⟩ := h
  unfold f_is_name
  have hl : lenS s = some ((tl s).length : Int) := by unfold lenS; rw [len_tl, if_pos (by omega)]
  have e : mapC (fun sign_20 => inS sign_20 ("abcdefghijklmnopqrstuvwxyz" : Str)) (signs s) = some ((signs s).map fun _ => true) := by
    rw [mapC_ok (by simp [signs]; have := len_tl s; simp [tl, Str.length] at *; omega)]
    refine congrArg some (List.map_congr_left fun x hx => ?_)
    obtain ⟨c, hc, rfl⟩ := List.mem_map.mp hx
    exact inS_abc (h3 c hc).1 (h3 c hc).2
  rw [if_neg (by decide), bo hl]
  have g : (!(decide ((1 : Int) ≤ ((tl s).length : Int)) && decide (((tl s).length : Int) ≤ 8))) = false := by
    rw [decide_eq_true (by omega), decide_eq_true (by omega)]; rfl
  rw [g, bo rfl, if_neg (by decide), bo e, all_id]
end Bw

namespace Bw
open PySem L2 TL
/-- lists by their places -/
def lst (N : Nat) (g : Nat → Int) : List Int := (List.range N).map g
theorem lst_len (N : Nat) (g : Nat → Int) : (lst N g).length = N := by simp [lst]
theorem lst_get {N : Nat} {g : Nat → Int} {i : Nat} (h : i < N) : (lst N g)[i]? = some (g i) := by simp [lst, List.getElem?_map, List.getElem?_range h]
theorem lst_ext {N : Nat} {g : Nat → Int} {xs : List Int} (hl : xs.length = N) (h : ∀ i, i < N → xs[i]? = some (g i)) : xs = lst N g := by
  apply List.ext_getElem?
  intro i
  by_cases hi : i < N
  · rw [h i hi, lst_get hi]
  · rw [List.getElem?_eq_none (by omega), List.getElem?_eq_none (by rw [lst_len]; omega)]
theorem lst_at {N : Nat} {g : Nat → Int} {k : Int} (h0 : 0 ≤ k) (h : k < N) : atI (lst N g) k = some (g k.toNat) := by
  obtain ⟨x, h1, h2⟩ := atI_int (lst N g) k h0 (by rw [lst_len]; exact h)
  rw [lst_get (by omega)] at h2
  rw [h1, ← h2]
theorem lst_set {N : Nat} {g : Nat → Int} {k v : Int} (h0 : 0 ≤ k) (h : k < N) : setM (lst N g) k v = some (lst N fun i => if i = k.toNat then v else g i) := by
  rw [setM_ok v h0 (by rw [lst_len]; exact h)]
  refine congrArg some (lst_ext (by rw [List.length_set, lst_len]) fun i hi => ?_)
  rw [List.getElem?_set]
  by_cases e : i = k.toNat
  · rw [if_pos e.symm, if_pos (by rw [lst_len]; omega), if_pos e]
  · rw [if_neg (fun z => e z.symm), lst_get hi, if_neg e]
theorem eqD_self {d : PyData} {n : Nat} (h : Shp n d) (hn : n ≤ 64) : eqDM d d = some true := by
  unfold eqDM
  rw [if_pos ⟨h.ok hn, h.ok hn⟩, SeqAt.eqv_refl _ h.1]
end Bw

namespace Bw
open PySem L2 TL
/-! pools of digits -/
def Pl (s : List Int) : Prop := ∃ a b : Int, s = [a, b] ∧ 0 ≤ b ∧ b < 2147483647
theorem take_ok {s : List Int} (h : Pl s) (m : Int) (hm : 0 < m) (hm2 : m < 1073741824) : ∃ x s', f_take (s, m) = some (x, s') ∧ 0 ≤ x ∧ x < m ∧ Pl s' := by
  obtain ⟨a, b, rfl, hb1, hb2⟩ := h
  have e0 : atI [a, b] 0 = some a := rfl
  have e1 : atI [a, b] 1 = some b := rfl
  unfold f_take
  dsimp only
  rw [bo e0]
  by_cases q : 0 < a
  · rw [if_pos (decide_eq_true q), bo e0, bo (modM_ok hm), bo e0, bo (fdivM_ok hm hm2), bo (show setM [a, b] 0 (a / m) = some [a / m, b] from rfl)]
    exact ⟨_, _, rfl, Int.emod_nonneg _ (by omega), Int.emod_lt_of_pos _ hm, _, _, rfl, hb1, hb2⟩
  · rw [if_neg (by simpa using q), bo e1, bo (show setM [a, b] 1 ((b * 48271 + 11) % 2147483647) = some [a, (b * 48271 + 11) % 2147483647] from rfl)]
    have k1 := Int.emod_nonneg (b * 48271 + 11) (show (2147483647 : Int) ≠ 0 by decide)
    have k2 := Int.emod_lt_of_pos (b * 48271 + 11) (show (0 : Int) < 2147483647 by decide)
    generalize (b * 48271 + 11) % 2147483647 = z at k1 k2
    have e2 : atI [a, z] 1 = some z := rfl
    rw [bo e2, bo e2, bo (mulM_ok (by omega) (by omega)), bo (modM_ok hm)]
    exact ⟨_, _, rfl, Int.emod_nonneg _ (by omega), Int.emod_lt_of_pos _ hm, _, _, rfl, k1, k2⟩
end Bw

namespace Bw
open PySem L2 TL
/-! aisles and orders -/
abbrev Ai := List Int × Int
abbrev Od := Str × Int × Int × Int
structure AOk (a : Ai) : Prop where
  n1 : 1 ≤ a.1.length
  n15 : a.1.length ≤ 15
  gm : ∀ g ∈ a.1, 1 ≤ g ∧ g ≤ 1000
  mo : 1 ≤ a.2 ∧ a.2 ≤ 20
structure OOk (n : Nat) (os : List Od) : Prop where
  l60 : os.length ≤ 60
  nm : ∀ x ∈ os, NmOk x.1
  nd : (os.map (·.1)).Nodup
  tk : ∀ x ∈ os, 0 ≤ x.2.1 ∧ x.2.1 ≤ 1000000000
  by_ : ∀ x ∈ os, 0 ≤ x.2.2.1 ∧ x.2.2.1 ≤ n ∧ 0 ≤ x.2.2.2 ∧ x.2.2.2 ≤ n ∧ x.2.2.1 ≠ x.2.2.2
  so : os.Pairwise fun x y => x.2.1 ≤ y.2.1
theorem pool_ok (s : List Int) (k : Int) (h : 0 ≤ k) (hk : k ≤ 100) : Rt (f_pool (s, k)) Pl := by
  unfold f_pool
  dsimp only
  have hc : ∃ c, (if (decide (k < (s.length : Int))) = true then (atI s k).bind fun x => some x else some (0 : Int)) = some c := by
    by_cases q : k < (s.length : Int)
    · rw [if_pos (decide_eq_true q)]
      obtain ⟨x, h1, _⟩ := atI_int s k h q
      exact ⟨x, by rw [bo h1]⟩
    · exact ⟨0, by rw [if_neg (by simpa using q)]⟩
  obtain ⟨c, hc⟩ := hc
  rw [bo hc, bo (mulM_ok (by omega) (by omega)), letM_eq, rt_bind, rt_ite]
  exact ⟨fun _ => rt_some.mpr (rt_some.mpr ⟨_, _, rfl, Int.emod_nonneg _ (by decide), Int.emod_lt_of_pos _ (by decide)⟩), fun _ => rt_some.mpr (rt_some.mpr ⟨_, _, rfl, Int.emod_nonneg _ (by decide), Int.emod_lt_of_pos _ (by decide)⟩)⟩
theorem takes_lc (m : Int) (hm : 0 < m) (hm2 : m < 1073741824) : ∀ (xs : List Int) (s : List Int), Pl s → ∃ s' ys, lcS (fun (z : List Int) (_ : Int) => (f_take (z, m)).bind fun (x, z') => some (z', some (1 + x))) s xs = some (s', ys) ∧ Pl s' ∧ ys.length = xs.length ∧ ∀ y ∈ ys, 1 ≤ y ∧ y ≤ m
  | [], s, h => ⟨s, [], rfl, h, rfl, fun y hy => by cases hy⟩
  | x :: xs, s, h => by
    obtain ⟨u, s1, a1, u0, u1, h1⟩ := take_ok h m hm hm2
    obtain ⟨s2, ys, a2, h2, hl, hy⟩ := takes_lc m hm hm2 xs s1 h1
    refine ⟨s2, (1 + u) :: ys, ?_, h2, by simp [hl], fun y hy' => ?_⟩
    · unfold lcS
      rw [a1]
      show ((lcS _ s1 xs).bind _) = _
      rw [a2]; rfl
    · rcases List.mem_cons.mp hy' with rfl | hy'
      · omega
      · exact hy y hy'
theorem takes_lcC (m : Int) (hm : 0 < m) (hm2 : m < 1073741824) (xs s : List Int) (h : Pl s) (hl : xs.length ≤ 1000) : ∃ s' ys, lcSC (fun (z : List Int) (_ : Int) => (f_take (z, m)).bind fun (x, z') => some (z', some (1 + x))) s xs = some (s', ys) ∧ Pl s' ∧ ys.length = xs.length ∧ ∀ y ∈ ys, 1 ≤ y ∧ y ≤ m := by
  obtain ⟨s', ys, e, r⟩ := takes_lc m hm hm2 xs s h
  exact ⟨s', ys, by unfold lcSC; rw [if_pos (by omega)]; exact e, r⟩
theorem aisle_ok2 {p : List Int} (hp : Pl p) (mg lo : Int) (h1 : 1 ≤ mg) (h2 : mg ≤ 15) (h3 : 1 ≤ lo) (h4 : lo ≤ 1000) : Rt (f_aisle (p, mg, lo)) fun r => (AOk r.1 ∧ Pl r.2) ∧ (r.1.1.length : Int) ≤ mg ∧ ∀ g ∈ r.1.1, g ≤ lo := by
  unfold f_aisle
  dsimp only
  obtain ⟨x, p1, e1, x0, x1, hp1⟩ := take_ok hp mg (by omega) (by omega)
  rw [bo e1]
  dsimp only
  rw [bo (rngM_ok (by omega) (by omega) (by omega) (by omega))]
  obtain ⟨p2, gs, e2, hp2, gl, gm⟩ := takes_lcC lo (by omega) (by omega) (rngL 0 (1 + x)) p1 hp1 (by rw [rngL_len]; omega)
  rw [rngL_len] at gl
  rw [bo e2]
  dsimp only
  obtain ⟨y, p3, e3, y0, y1, hp3⟩ := take_ok hp2 3 (by decide) (by decide)
  rw [bo e3]
  dsimp only
  have pick : ∃ z, atI ([1, 3, 20] : List Int) y = some z ∧ 1 ≤ z ∧ z ≤ 20 := by
    have : y = 0 ∨ y = 1 ∨ y = 2 := by omega
    rcases this with rfl | rfl | rfl
    · exact ⟨_, rfl, by decide, by decide⟩
    · exact ⟨_, rfl, by decide, by decide⟩
    · exact ⟨_, rfl, by decide, by decide⟩
  obtain ⟨z, z1, z2, z3⟩ := pick
  obtain ⟨w, p4, e4, w0, w1, hp4⟩ := take_ok hp3 z (by omega) (by omega)
  rw [bo z1, bo e4]
  dsimp only
  try rw [letM_eq]
  refine rt_some.mpr ⟨⟨⟨by dsimp only; omega, by dsimp only; omega, fun g hg => ?_, by dsimp only; omega, by dsimp only; omega⟩, hp4⟩, by dsimp only; omega, fun g hg => (gm g hg).2⟩
  have := gm g hg
  omega
theorem aisle_ok {p : List Int} (hp : Pl p) (mg lo : Int) (h1 : 1 ≤ mg) (h2 : mg ≤ 15) (h3 : 1 ≤ lo) (h4 : lo ≤ 1000) : Rt (f_aisle (p, mg, lo)) fun r => AOk r.1 ∧ Pl r.2 := (aisle_ok2 hp mg lo h1 h2 h3 h4).mono fun _ h => h.1
/-! names -/
end Bw

namespace Bw
open PySem L2 TL
def suf : Int → List Nat
  | 0 => []
  | 1 => [97]
  | _ => [122, 122]
theorem suf_ok (q : Int) (h : q = 0 ∨ q = 1 ∨ q = 2) : (suf q).length ≤ 2 ∧ ∀ c ∈ suf q, 97 ≤ c ∧ c ≤ 122 := by
  rcases h with rfl | rfl | rfl <;> decide
def nmt (k s : Int) : List Nat :=
  let a := (97 + ((37 * k + s) % 61 % 26).toNat) :: suf ((37 * k + s) % 61 / 26)
  let b := List.replicate (s / 26 % 6).toNat (97 + (s % 26).toNat)
  if s % 2 = 0 then b ++ a else a ++ b
theorem name_ok (k s : Int) : ∃ x, f_name (k, s) = some x ∧ tl x = nmt k s := by
  unfold f_name nmt
  dsimp only
  simp only [letM_eq]
  have a0 := Int.emod_nonneg (37 * k + s) (show (61 : Int) ≠ 0 by decide)
  have a1 := Int.emod_lt_of_pos (37 * k + s) (show (0 : Int) < 61 by decide)
  generalize (37 * k + s) % 61 = t at a0 a1
  have e : ∃ z : Str, atI (["", "a", "zz"] : List Str) (t / 26) = some z ∧ tl z = suf (t / 26) := by
    have : t / 26 = 0 ∨ t / 26 = 1 ∨ t / 26 = 2 := by omega
    rcases this with q | q | q <;> rw [q]
    · exact ⟨"", rfl, by decide +kernel⟩
    · exact ⟨"a", rfl, by decide +kernel⟩
    · exact ⟨"zz", rfl, by decide +kernel⟩
  obtain ⟨z, z1, z2⟩ := e
  have hs := (suf_ok (t / 26) (by omega)).1
  have l1 : (tl z).length ≤ 2 := by rw [z2]; exact hs
  rw [bo (abc_at (t % 26) (by omega) (by omega)), bo z1, bo (scatM_ok _ _ (by show 1 + _ ≤ _; omega)), bo (abc_at (s % 26) (by omega) (by omega)), bo (srepM_ok _ _ rfl _ (by omega) (by omega))]
  have tx : ∀ xs : List Nat, tl (⟨xs.toArray⟩ : Str) = xs := fun xs => rfl
  have o1 : tl (⟨#[97 + (t % 26).toNat]⟩ : Str) = [97 + (t % 26).toNat] := rfl
  by_cases q : s % 2 = 0
  · rw [if_pos (decide_eq_true q), if_pos q, bo (scatM_ok _ _ (by rw [tx, tx, List.length_replicate, List.length_append, o1, List.length_singleton]; omega))]
    refine ⟨_, rfl, ?_⟩
    rw [tx, tx, tx, o1, z2]; rfl
  · rw [if_neg (by simpa using q), if_neg q, bo (scatM_ok _ _ (by simp only [tx, o1, List.length_replicate, List.length_append, List.length_singleton]; omega))]
    refine ⟨_, rfl, ?_⟩
    simp only [tx, o1, z2]; rfl
theorem name_nm {k s : Int} {x : Str} (h : tl x = nmt k s) : NmOk x := by
  have a0 := Int.emod_nonneg (37 * k + s) (show (61 : Int) ≠ 0 by decide)
  have a1 := Int.emod_lt_of_pos (37 * k + s) (show (0 : Int) < 61 by decide)
  unfold nmt at h
  unfold NmOk
  rw [h]
  generalize (37 * k + s) % 61 = t at a0 a1
  have hs := suf_ok (t / 26) (by omega)
  have ha : ∀ c ∈ (97 + (t % 26).toNat) :: suf (t / 26), 97 ≤ c ∧ c ≤ 122 := fun c hc => by
    rcases List.mem_cons.mp hc with rfl | hc
    · omega
    · exact hs.2 c hc
  have hb : ∀ c ∈ List.replicate (s / 26 % 6).toNat (97 + (s % 26).toNat), 97 ≤ c ∧ c ≤ 122 := fun c hc => by
    rw [List.eq_of_mem_replicate hc]; omega
  dsimp only
  split
  · refine ⟨by rw [List.length_append, List.length_cons]; omega, by rw [List.length_append, List.length_cons, List.length_replicate]; omega, fun c hc => ?_⟩
    rcases List.mem_append.mp hc with hc | hc
    · exact hb c hc
    · exact ha c hc
  · refine ⟨by rw [List.length_append, List.length_cons]; omega, by rw [List.length_append, List.length_cons, List.length_replicate]; omega, fun c hc => ?_⟩
    rcases List.mem_append.mp hc with hc | hc
    · exact ha c hc
    · exact hb c hc
theorem name_ne {k j s : Int} {x y : Str} (hk : 0 ≤ k) (hj : 0 ≤ j) (hk2 : k < 61) (hj2 : j < 61) (hkj : k ≠ j) (h : tl x = nmt k s) (h' : tl y = nmt j s) : x ≠ y := by
  rintro rfl
  rw [h] at h'
  unfold nmt at h'
  have key : (97 + ((37 * k + s) % 61 % 26).toNat) :: suf ((37 * k + s) % 61 / 26) = (97 + ((37 * j + s) % 61 % 26).toNat) :: suf ((37 * j + s) % 61 / 26) := by
    dsimp only at h'
    split at h'
    · exact List.append_cancel_left h'
    · exact List.append_cancel_right h'
  injection key with e1 e2
  have hq : ∀ a b : Int, (a = 0 ∨ a = 1 ∨ a = 2) → (b = 0 ∨ b = 1 ∨ b = 2) → suf a = suf b → a = b := by
    intro a b ha hb e
    rcases ha with rfl | rfl | rfl <;> rcases hb with rfl | rfl | rfl <;> first | rfl | (exact absurd e (by decide))
  have := hq _ _ (by omega) (by omega) e2
  omega
/-! orders -/
end Bw

namespace Bw
open PySem L2 TL
theorem orders_ok4 (s : List Int) (n : Nat) (salt style : Int) (hops : List Int) (few : Int) (n1 : 1 ≤ n) (n15 : n ≤ 15) (y0 : 0 ≤ style) (y1 : style < 4) (h0 : 1 ≤ hops.length) (h9 : hops.length ≤ 100) (mh : Nat) (hm9 : mh ≤ 10000000) (hh : ∀ x ∈ hops, 1 ≤ x ∧ x ≤ (mh : Int)) (f0 : 1 ≤ few) (f1 : few ≤ 61) : Rt (f_orders (s, (n : Int), salt, style, hops, few)) fun r => ((OOk n r ∧ few - 1 ≤ r.length) ∧ ∀ x ∈ r, x.2.1 ≤ (mh : Int) * 60) ∧ ∀ (i : Nat) x, r[i]? = some x → tl x.1 = nmt (i : Int) salt := by
  unfold f_orders
  dsimp only
  have hm : few ≤ maxI few (minI (s.length : Int) 61) ∧ maxI few (minI (s.length : Int) 61) ≤ 61 := by unfold maxI minI; split <;> split <;> omega
  generalize maxI few (minI (s.length : Int) 61) = many at hm
  rw [letM_eq, bo (rngM_ok (by omega) (by omega) (by omega) (by omega)), rt_bind]
  refine rt_fold (fun k (t : Int × List Od) => t.2.length = k ∧ (0 ≤ t.1 ∧ t.1 ≤ ((mh * k : Nat) : Int)) ∧ (∀ (i : Nat) x, t.2[i]? = some x → tl x.1 = nmt (i : Int) salt ∧ (0 ≤ x.2.1 ∧ x.2.1 ≤ t.1) ∧ 0 ≤ x.2.2.1 ∧ x.2.2.1 ≤ n ∧ 0 ≤ x.2.2.2 ∧ x.2.2.2 ≤ n ∧ x.2.2.1 ≠ x.2.2.2) ∧ t.2.Pairwise fun x y => x.2.1 ≤ y.2.1) ⟨rfl, ⟨by decide, by simp⟩, fun i x hx => by simp at hx, List.Pairwise.nil⟩ (fun k pl t hk ht => ?_) fun t ht => ?_
  · obtain ⟨tick, os⟩ := t
    obtain ⟨hl, htk, hx, hso⟩ := ht
    dsimp only at hl htk hx hso
    obtain ⟨rfl, hk2⟩ := rngL_get hk
    obtain ⟨p, a0, P0⟩ := pool_ok s (1 + (k : Int)) (by omega) (by omega)
    obtain ⟨u, p1, a1, u0, u1, P1⟩ := take_ok P0 (hops.length : Int) (by omega) (by omega)
    obtain ⟨hp, a2, a2'⟩ := atI_int hops u u0 u1
    have hhp := hh hp (List.mem_of_getElem? a2')
    obtain ⟨v, p2, a3, v0, v1, P2⟩ := take_ok P1 hp (by omega) (by omega)
    obtain ⟨w, p3, a4, w0, w1, P3⟩ := take_ok P2 ((n : Int) + 1) (by omega) (by omega)
    have pick : ∃ z, atI ([w, (n : Int) / 2, 0, (n : Int)] : List Int) style = some z ∧ 0 ≤ z ∧ z ≤ n := by
      have : style = 0 ∨ style = 1 ∨ style = 2 ∨ style = 3 := by omega
      rcases this with rfl | rfl | rfl | rfl
      · exact ⟨_, rfl, by omega, by omega⟩
      · exact ⟨_, rfl, by omega, by omega⟩
      · exact ⟨_, rfl, by omega, by omega⟩
      · exact ⟨_, rfl, by omega, by omega⟩
    obtain ⟨z, z1, z2, z3⟩ := pick
    obtain ⟨nm, a5, nm1⟩ := name_ok (1 + (k : Int) - 1) salt
    obtain ⟨d, p4, a6, d0, d1, P4⟩ := take_ok P3 (n : Int) (by omega) (by omega)
    unfold f_orders_b22
    dsimp only
    rw [bo a0, bo a1]
    dsimp only
    rw [bo a2, bo a3]
    dsimp only
    rw [letM_eq, bo a4]
    dsimp only
    rw [bo z1, bo a5, bo a6]
    dsimp only
    rw [bo (modM_ok (by omega)), bo (appM_ok (by omega))]
    have to0 := Int.emod_nonneg (z + 1 + d) (show (n : Int) + 1 ≠ 0 by omega)
    have to1 := Int.emod_lt_of_pos (z + 1 + d) (show (0 : Int) < (n : Int) + 1 by omega)
    have hne : z ≠ (z + 1 + d) % ((n : Int) + 1) := by
      by_cases q : z + 1 + d < (n : Int) + 1
      · rw [Int.emod_eq_of_lt (by omega) q]; omega
      · have : (z + 1 + d) % ((n : Int) + 1) = (z + 1 + d - ((n : Int) + 1)) % ((n : Int) + 1) := by rw [Int.sub_emod_right]
        rw [this, Int.emod_eq_of_lt (by omega) (by omega)]; omega
    refine rt_some.mpr ⟨by simp [hl], ⟨by dsimp only; omega, by dsimp only; rw [Nat.mul_succ]; omega⟩, fun i x hx' => ?_, ?_⟩
    · dsimp only at hx' ⊢
      rw [List.getElem?_append] at hx'
      split at hx'
      · have := hx i x hx'
        exact ⟨this.1, ⟨this.2.1.1, by omega⟩, this.2.2⟩
      · have h3 := (List.getElem?_eq_some_iff.mp hx').1
        rw [List.length_singleton] at h3
        have h4 : i - os.length = 0 := by omega
        rw [h4] at hx'
        have h5 : (nm, tick + v, z, (z + 1 + d) % ((n : Int) + 1)) = x := by simpa using hx'
        subst h5
        have h6 : (i : Int) = 1 + (k : Int) - 1 := by omega
        rw [h6]
        exact ⟨nm1, ⟨by dsimp only; omega, by dsimp only; omega⟩, z2, z3, to0, by dsimp only; omega, hne⟩
    · dsimp only
      rw [List.pairwise_append]
      refine ⟨hso, List.pairwise_singleton _ _, fun a ha b hb => ?_⟩
      rw [List.mem_singleton.mp hb]
      obtain ⟨i, hi⟩ := List.getElem?_of_mem ha
      have := (hx i a hi).2.1
      dsimp only
      omega
  · obtain ⟨tick, os⟩ := t
    obtain ⟨hl, htk, hx, hso⟩ := ht
    rw [rngL_len] at hl htk
    dsimp only at hl htk hx hso ⊢
    have mk : mh * (many - 1).toNat ≤ mh * 60 := Nat.mul_le_mul_left _ (by omega)
    refine rt_some.mpr ⟨⟨⟨⟨by omega, fun x hm => ?_, ?_, fun x hm => ?_, fun x hm => ?_, hso⟩, by omega⟩, fun x hm => by
      obtain ⟨i, hi⟩ := List.getElem?_of_mem hm
      have := (hx i x hi).2.1
      omega⟩, fun i x hi => (hx i x hi).1⟩
    · obtain ⟨i, hi⟩ := List.getElem?_of_mem hm
      exact name_nm (hx i x hi).1
    · rw [List.nodup_iff_pairwise_ne, List.pairwise_map, List.pairwise_iff_getElem]
      intro i j hi hj hij
      have a := (hx i _ (List.getElem?_eq_getElem hi)).1
      have b := (hx j _ (List.getElem?_eq_getElem hj)).1
      exact name_ne (by omega) (by omega) (by omega) (by omega) (by omega) a b
    · obtain ⟨i, hi⟩ := List.getElem?_of_mem hm
      have := (hx i x hi).2.1
      omega
    · obtain ⟨i, hi⟩ := List.getElem?_of_mem hm
      exact (hx i x hi).2.2
theorem orders_ok2 (s : List Int) (n : Nat) (salt style : Int) (hops : List Int) (few : Int) (n1 : 1 ≤ n) (n15 : n ≤ 15) (y0 : 0 ≤ style) (y1 : style < 4) (h0 : 1 ≤ hops.length) (h9 : hops.length ≤ 100) (mh : Nat) (hm9 : mh ≤ 10000000) (hh : ∀ x ∈ hops, 1 ≤ x ∧ x ≤ (mh : Int)) (f0 : 1 ≤ few) (f1 : few ≤ 61) : Rt (f_orders (s, (n : Int), salt, style, hops, few)) fun r => (OOk n r ∧ few - 1 ≤ r.length) ∧ ∀ x ∈ r, x.2.1 ≤ (mh : Int) * 60 := (orders_ok4 s n salt style hops few n1 n15 y0 y1 h0 h9 mh hm9 hh f0 f1).mono fun _ h => h.1
theorem orders_ok3 (s : List Int) (n : Nat) (salt style : Int) (hops : List Int) (few : Int) (n1 : 1 ≤ n) (n15 : n ≤ 15) (y0 : 0 ≤ style) (y1 : style < 4) (h0 : 1 ≤ hops.length) (h9 : hops.length ≤ 100) (hh : ∀ x ∈ hops, 1 ≤ x ∧ x ≤ 10000000) (f0 : 1 ≤ few) (f1 : few ≤ 61) : Rt (f_orders (s, (n : Int), salt, style, hops, few)) fun r => OOk n r ∧ few - 1 ≤ r.length ∧ ∀ (i : Nat) x, r[i]? = some x → tl x.1 = nmt (i : Int) salt := (orders_ok4 s n salt style hops few n1 n15 y0 y1 h0 h9 10000000 (Nat.le_refl _) hh f0 f1).mono fun _ h => ⟨h.1.1.1, h.1.1.2, h.2⟩
theorem orders_ok (s : List Int) (n : Nat) (salt style : Int) (hops : List Int) (few : Int) (n1 : 1 ≤ n) (n15 : n ≤ 15) (y0 : 0 ≤ style) (y1 : style < 4) (h0 : 1 ≤ hops.length) (h9 : hops.length ≤ 100) (hh : ∀ x ∈ hops, 1 ≤ x ∧ x ≤ 10000000) (f0 : 1 ≤ few) (f1 : few ≤ 61) : Rt (f_orders (s, (n : Int), salt, style, hops, few)) fun r => OOk n r ∧ few - 1 ≤ r.length := (orders_ok2 s n salt style hops few n1 n15 y0 y1 h0 h9 10000000 (Nat.le_refl _) hh f0 f1).mono fun _ h => h.1
/-! good orders are looked at and nothing is said -/
end Bw

namespace Bw
open PySem L2 TL
theorem look_aisle_ok {a : Ai} (h : AOk a) : f_look_at_aisle a = some () := by
  have n1 := h.n1
  have n15 := h.n15
  unfold f_look_at_aisle
  rw [if_neg (by decide), letM_eq, letM_eq, if_neg (by rw [decide_eq_true (by omega), decide_eq_true (by omega)]; decide), bo ((lcC_ok (by omega)).trans (lcM_all (g := fun _ => true) fun x hx => by
    rw [bo (between_ok (h.gm x hx).1 (h.gm x hx).2)])), all_id, if_neg (by decide), bo (between_ok h.mo.1 h.mo.2), if_neg (by decide)]
theorem is_order_ok {n : Nat} {os : List Od} (h : OOk n os) {x : Od} (hx : x ∈ os) : f_is_order (x, (n : Int)) = some true := by
  have b := h.by_ x hx
  have t := h.tk x hx
  unfold f_is_order
  dsimp only
  rw [if_neg (by decide), letM_eq, letM_eq, bo (is_name_ok (h.nm x hx)), if_neg (by decide), bo (between_ok t.1 t.2), bo rfl, if_neg (by decide), bo (between_ok b.1 b.2.1), if_pos rfl, bo (between_ok b.2.2.1 b.2.2.2.1), decide_eq_false b.2.2.2.2, bo rfl]
  rfl
theorem look_orders_ok {a : Ai} (ha : AOk a) {os : List Od} (h : OOk a.1.length os) : f_look_at_orders (a, os) = some () := by
  have l60 := h.l60
  unfold f_look_at_orders
  dsimp only
  rw [bo (look_aisle_ok ha), if_neg (by rw [decide_eq_false (by omega)]; decide)]
  refine Rt.eq (rt_bind.mpr (rt_fold (fun k (t : Int × List (Str × Bool)) => t.2.map (·.1) = (os.take k).map (·.1) ∧ t.1 ≤ 1000000000 ∧ ∀ x, os[k]? = some x → t.1 ≤ x.2.1) ⟨rfl, by decide, fun x hx => (h.tk x (List.mem_of_getElem? hx)).1⟩ (fun k x t hk ht => ?_) fun t ht => rt_some.mpr rfl))
  obtain ⟨late, names⟩ := t
  obtain ⟨h1, h2, h3⟩ := ht
  dsimp only at h1 h2 h3
  have hm := List.mem_of_getElem? hk
  have hlt : k < os.length := (List.getElem?_eq_some_iff.mp hk).1
  have hnew : ∀ p ∈ names, p.1 ≠ x.1 := fun p hp e => by
    have : p.1 ∈ (os.take k).map (·.1) := by rw [← h1]; exact List.mem_map_of_mem hp
    obtain ⟨y, hy, e2⟩ := List.mem_map.mp this
    obtain ⟨i, hi⟩ := List.getElem?_of_mem hy
    rw [List.getElem?_take] at hi
    split at hi
    · rename_i hik
      have nd := h.nd
      rw [List.nodup_iff_pairwise_ne, List.pairwise_map, List.pairwise_iff_getElem] at nd
      have hi' : i < os.length := by omega
      have q1 : os[i] = y := by rw [List.getElem?_eq_getElem hi'] at hi; exact Option.some.inj hi
      have q2 : os[k] = x := by rw [List.getElem?_eq_getElem hlt] at hk; exact Option.some.inj hk
      have := nd i k hi' hlt hik
      rw [q1, q2] at this
      exact this (e2.trans e)
    · cases hi
  have hl : names.length ≤ 60 := by
    have := congrArg List.length h1
    rw [List.length_map, List.length_map, List.length_take] at this
    omega
  have hno : (names.find? fun p => decide (p.1 = x.1)) = none := by
    rw [List.find?_eq_none]; intro p hp; rw [decide_eq_true_eq]; exact hnew p hp
  have hk1 : hasK names x.1 = false := by unfold hasK lookK; rw [hno]; rfl
  have hp1 : putM names x.1 true = some (names ++ [(x.1, true)]) := by
    unfold putM putKV
    rw [if_pos (by omega), if_neg]
    rw [List.any_eq_true]
    rintro ⟨p, hp, e⟩
    exact hnew p hp (of_decide_eq_true e)
  have h4 := h3 x hk
  unfold f_look_at_orders_b24
  dsimp only
  rw [bo (is_order_ok h hm), if_neg (by decide), hk1, if_neg (by decide), if_neg (by rw [decide_eq_true_eq]; omega), bo hp1, letM_eq]
  refine rt_some.mpr ⟨?_, by have := h.tk x hm; dsimp only; omega, fun y hy => ?_⟩
  · dsimp only
    rw [List.map_append, h1, List.take_add_one, hk, List.map_append]; rfl
  · have so := h.so
    rw [List.pairwise_iff_getElem] at so
    have hlt2 : k + 1 < os.length := (List.getElem?_eq_some_iff.mp hy).1
    have := so k (k + 1) hlt hlt2 (by omega)
    have q2 : os[k] = x := by rw [List.getElem?_eq_getElem hlt] at hk; exact Option.some.inj hk
    have q3 : os[k + 1] = y := by rw [List.getElem?_eq_getElem hlt2] at hy; exact Option.some.inj hy
    rw [q2, q3] at this
    exact this
theorem shp_order {x : Od} (h : NmOk x.1) : Shp 1 (eT4 eS eI eI eI x) := shp_tup fun y hy => by
  simp only [List.mem_cons, List.not_mem_nil, or_false] at hy
  rcases hy with rfl | rfl | rfl | rfl
  · exact (shp_str fun c hc => by have := h.2.2 c hc; omega).mono (by decide)
  · exact shp_int _
  · exact shp_int _
  · exact shp_int _
theorem shp_orders {n : Nat} {os : List Od} (h : OOk n os) : Shp 2 (eL (eT4 eS eI eI eI) os) := shp_list fun x hx => by
  obtain ⟨y, hy, rfl⟩ := List.mem_map.mp hx
  exact shp_order (h.nm y hy)
theorem shp_aisle (a : Ai) : Shp 2 (eT2 (eL eI) eI a) := shp_tup fun y hy => by
  simp only [List.mem_cons, List.not_mem_nil, or_false] at hy
  rcases hy with rfl | rfl
  · exact shp_ints _
  · exact (shp_int _).mono (by decide)
end Bw

namespace Bw
open PySem L2 TL
/-! where the trolley stands -/
def spt (g : List Int) (b : Nat) : Int := (g.take b).sum
def sps (g : List Int) : List Int := (List.range (g.length + 1)).map (spt g)
theorem spt_zero (g : List Int) : spt g 0 = 0 := rfl
theorem spt_succ {g : List Int} {b : Nat} (h : b < g.length) : spt g (b + 1) = spt g b + g[b] := by
  unfold spt
  rw [List.take_succ_eq_append_getElem h, List.sum_append]
  simp
theorem spt_top (g : List Int) : spt g g.length = g.sum := by unfold spt; rw [List.take_length]
structure Gp (g : List Int) : Prop where
  n1 : 1 ≤ g.length
  n15 : g.length ≤ 15
  gm : ∀ x ∈ g, 1 ≤ x ∧ x ≤ 1000
theorem Gp.at {g : List Int} (h : Gp g) {b : Nat} (hb : b < g.length) : 1 ≤ g[b] ∧ g[b] ≤ 1000 := h.gm _ (List.getElem_mem hb)
theorem spt_mono {g : List Int} (h : Gp g) : ∀ {a b : Nat}, a < b → b ≤ g.length → spt g a < spt g b
  | a, 0, h1, _ => absurd h1 (Nat.not_lt_zero _)
  | a, b + 1, h1, h2 => by
    have e := spt_succ (g := g) (b := b) (by omega)
    have := h.at (b := b) (by omega)
    by_cases q : a = b
    · subst q; omega
    · have := spt_mono h (a := a) (b := b) (by omega) (by omega)
      omega
theorem spt_le {g : List Int} (h : Gp g) {a b : Nat} (h1 : a ≤ b) (h2 : b ≤ g.length) : spt g a ≤ spt g b := by
  by_cases q : a = b
  · subst q; exact Int.le_refl _
  · exact Int.le_of_lt (spt_mono h (by omega) h2)
theorem spt_nn {g : List Int} (h : Gp g) {b : Nat} (hb : b ≤ g.length) : 0 ≤ spt g b ∧ spt g b ≤ g.sum := by
  have a := spt_le h (Nat.zero_le b) hb
  have c := spt_le h hb (Nat.le_refl _)
  rw [spt_zero] at a; rw [spt_top] at c
  exact ⟨a, c⟩
theorem spt_bd {g : List Int} (h : Gp g) : ∀ {b : Nat}, b ≤ g.length → spt g b ≤ 1000 * b
  | 0, _ => by rw [spt_zero]; omega
  | b + 1, hb => by
    have e := spt_succ (g := g) (b := b) (by omega)
    have := h.at (b := b) (by omega)
    have := spt_bd h (b := b) (by omega)
    omega
theorem tot {g : List Int} (h : Gp g) : 1 ≤ g.sum ∧ g.sum ≤ 15000 := by
  have a := spt_mono h (a := 0) (b := g.length) (by have := h.n1; omega) (Nat.le_refl _)
  have b := spt_bd h (Nat.le_refl g.length)
  rw [spt_zero, spt_top] at a; rw [spt_top] at b
  have := h.n15
  omega
theorem sps_len (g : List Int) : (sps g).length = g.length + 1 := by unfold sps; rw [List.length_map, List.length_range]
theorem sps_get {g : List Int} {b : Nat} (h : b ≤ g.length) : (sps g)[b]? = some (spt g b) := by
  unfold sps
  rw [List.getElem?_map, List.getElem?_range (by omega)]; rfl
theorem sps_at {g : List Int} {i : Int} (h0 : 0 ≤ i) (h : i ≤ g.length) : atI (sps g) i = some (spt g i.toNat) := by
  obtain ⟨x, e, e2⟩ := atI_int (sps g) i h0 (by rw [sps_len]; omega)
  rw [sps_get (by omega)] at e2
  rw [e, ← e2]
theorem sps_last {g : List Int} : atI (sps g) (-1) = some g.sum := by
  have e : ∀ (xs : List Int) (x : Int), atI (xs ++ [x]) (-1) = some x := fun xs x => by
    unfold atI
    have : ixN (xs ++ [x]).length (-1) = some xs.length := by
      unfold ixN
      rw [List.length_append, List.length_singleton]
      simp
      omega
    rw [this]; simp
  have s : sps g = (List.range g.length).map (spt g) ++ [g.sum] := by
    unfold sps
    rw [List.range_succ, List.map_append, List.map_cons, List.map_nil, spt_top]
  rw [s]; exact e _ _
def ph (g : List Int) (t : Int) : Int := t % (2 * g.sum)
def pos (g : List Int) (t : Int) : Int := minI (ph g t) (2 * g.sum - ph g t)
theorem sps_mem {g : List Int} {x : Int} : x ∈ sps g ↔ ∃ b, b ≤ g.length ∧ spt g b = x := by
  unfold sps
  rw [List.mem_map]
  constructor
  · rintro ⟨b, hb, e⟩; exact ⟨b, by rw [List.mem_range] at hb; omega, e⟩
  · rintro ⟨b, hb, e⟩; exact ⟨b, List.mem_range.mpr (by omega), e⟩
theorem spt_inj {g : List Int} (h : Gp g) {a b : Nat} (ha : a ≤ g.length) (hb : b ≤ g.length) (e : spt g a = spt g b) : a = b := by
  rcases Nat.lt_trichotomy a b with q | q | q
  · have := spt_mono h q hb; omega
  · exact q
  · have := spt_mono h q ha; omega
theorem idx_ok {g : List Int} (h : Gp g) {b : Nat} (hb : b ≤ g.length) : idxM (sps g) (spt g b) = some (b : Int) := by
  unfold idxM
  have : (sps g).findIdx? (fun y => y == spt g b) = some b := by
    rw [List.findIdx?_eq_some_iff_getElem]
    have e : ∀ i (hi : i < (sps g).length), (sps g)[i] = spt g i := fun i hi => by
      have := sps_get (g := g) (b := i) (by rw [sps_len] at hi; omega)
      rw [List.getElem?_eq_getElem hi] at this
      exact Option.some.inj this
    refine ⟨by rw [sps_len]; omega, by rw [e]; simp, fun j hj => ?_⟩
    rw [e]
    have := spt_mono h hj hb
    simp; omega
  rw [this]; rfl
theorem inLI {x : Int} {xs : List Int} : inL x xs = true ↔ x ∈ xs := by
  unfold inL
  rw [List.any_eq_true]
  constructor
  · rintro ⟨y, hy, e⟩; rw [show x = y from (beq_iff_eq.mp e).symm]; exact hy
  · intro h; exact ⟨x, h, by simp⟩
theorem ph_bd {g : List Int} (h : Gp g) (t : Int) : 0 ≤ ph g t ∧ ph g t < 2 * g.sum := ⟨Int.emod_nonneg _ (by have := tot h; omega), Int.emod_lt_of_pos _ (by have := tot h; omega)⟩
theorem ph_succ {g : List Int} (h : Gp g) (t : Int) : ph g (t + 1) = if ph g t + 1 = 2 * g.sum then 0 else ph g t + 1 := by
  have T := tot h
  have b := ph_bd h t
  unfold ph at *
  rw [Int.add_emod, Int.emod_eq_of_lt (a := 1) (by omega) (by omega)]
  split
  · rename_i q; rw [q, Int.emod_self]
  · exact Int.emod_eq_of_lt (by omega) (by omega)
end Bw

namespace Bw
/-! who is taken when: the rule alone (no program in sight). n orders, their ticks, the times at which they may be taken, how long they ride, the load -/
structure Sy where
  n : Nat
  tick : Nat → Int
  go : Nat → Int → Prop
  dist : Nat → Int
  L : Nat
def rid (y : Sy) (f : Nat → Option Int) (s : Int) (i : Nat) : Bool := match f i with
  | some τ => decide (τ ≤ s ∧ s < τ + y.dist i)
  | none => false
def cnt (y : Sy) (f : Nat → Option Int) (s : Int) : Nat := (List.range y.n).countP (rid y f s)
/-- what is true of all times below t -/
structure Hi (y : Sy) (f : Nat → Option Int) (t : Int) : Prop where
  h1 : ∀ i, i < y.n → ∀ τ, f i = some τ → y.tick i ≤ τ ∧ y.go i τ ∧ τ < t
  h2 : ∀ i, i < y.n → ∀ s, y.tick i ≤ s → s < t → y.go i s → (∀ τ, f i = some τ → s < τ) → cnt y f s = y.L ∧ ∀ j, i < j → j < y.n → f j ≠ some s
  h3 : ∀ s, s < t → cnt y f s ≤ y.L
/-- all are taken -/
structure Spec (y : Sy) (tk : Nat → Int) : Prop where
  p1 : ∀ i, i < y.n → y.tick i ≤ tk i ∧ y.go i (tk i)
  p2 : ∀ i, i < y.n → ∀ s, y.tick i ≤ s → s < tk i → y.go i s → cnt y (fun j => some (tk j)) s = y.L ∧ ∀ j, i < j → j < y.n → tk j ≠ s
  p3 : ∀ s, cnt y (fun j => some (tk j)) s ≤ y.L
theorem countP_le {α : Type} {p q : α → Bool} : ∀ {l : List α}, (∀ x ∈ l, p x = true → q x = true) → l.countP p ≤ l.countP q
  | [], _ => Nat.le_refl _
  | x :: l, h => by
    have ih := countP_le (l := l) fun z hz => h z (List.mem_cons_of_mem _ hz)
    rw [List.countP_cons, List.countP_cons]
    by_cases e : p x = true
    · rw [if_pos e, if_pos (h x List.mem_cons_self e)]; omega
    · rw [if_neg e]; split <;> omega
theorem countP_lt {α : Type} {p q : α → Bool} : ∀ {l : List α} {z : α}, (∀ x ∈ l, p x = true → q x = true) → z ∈ l → q z = true → p z = false → l.countP p < l.countP q
  | [], z, _, hz, _, _ => nomatch hz
  | x :: l, z, h, hz, h1, h2 => by
    rw [List.countP_cons, List.countP_cons]
    rcases List.mem_cons.mp hz with rfl | hz
    · have ih := countP_le (l := l) fun z hz => h z (List.mem_cons_of_mem _ hz)
      rw [if_neg (by rw [h2]; exact Bool.false_ne_true), if_pos h1]; omega
    · have ih := countP_lt (l := l) (z := z) (fun z hz => h z (List.mem_cons_of_mem _ hz)) hz h1 h2
      by_cases e : p x = true
      · rw [if_pos e, if_pos (h x List.mem_cons_self e)]; omega
      · rw [if_neg e]; split <;> omega
theorem countP_eq {α : Type} {p q : α → Bool} {l : List α} (h : ∀ x ∈ l, p x = q x) : l.countP p = l.countP q :=
  Nat.le_antisymm (countP_le fun x hx e => (h x hx) ▸ e) (countP_le fun x hx e => (h x hx).symm ▸ e)
theorem countP_ex {α : Type} {p : α → Bool} : ∀ {l : List α}, 0 < l.countP p → ∃ x ∈ l, p x = true
  | [], h => absurd h (Nat.lt_irrefl _)
  | x :: l, h => by
    rw [List.countP_cons] at h
    by_cases e : p x = true
    · exact ⟨x, List.mem_cons_self, e⟩
    · rw [if_neg e] at h
      obtain ⟨z, hz, k⟩ := countP_ex (l := l) h
      exact ⟨z, List.mem_cons_of_mem _ hz, k⟩
theorem rid_some {y : Sy} {tk : Nat → Int} {s : Int} {i : Nat} : rid y (fun j => some (tk j)) s i = true ↔ tk i ≤ s ∧ s < tk i + y.dist i := by
  unfold rid; exact decide_eq_true_iff
/-! two rules that agree below c (the second one d later): the first m orders; the others come from c on -/
structure Agree (y z : Sy) (m : Nat) (c d : Int) : Prop where
  ny : m ≤ y.n
  nz : m ≤ z.n
  L : y.L = z.L
  tick : ∀ i, i < m → z.tick i = y.tick i + d
  dist : ∀ i, i < m → z.dist i = y.dist i
  dp : ∀ i, i < m → 0 < y.dist i
  go : ∀ i, i < m → ∀ s, z.go i (s + d) ↔ y.go i s
  cy : ∀ i, m ≤ i → i < y.n → c ≤ y.tick i
  cz : ∀ i, m ≤ i → i < z.n → c + d ≤ z.tick i
theorem cnt_cut {y : Sy} {tk : Nat → Int} (S : Spec y tk) {m : Nat} (hm : m ≤ y.n) {c : Int} (hc : ∀ i, m ≤ i → i < y.n → c ≤ y.tick i) {s : Int} (hs : s < c) : cnt y (fun j => some (tk j)) s = (List.range m).countP (rid y (fun j => some (tk j)) s) := by
  unfold cnt
  obtain ⟨k, e⟩ := Nat.exists_eq_add_of_le hm
  rw [e, List.range_add, List.countP_append]
  have : (List.map (fun x => m + x) (List.range k)).countP (rid y (fun j => some (tk j)) s) = 0 := by
    rw [List.countP_eq_zero]
    intro x hx
    obtain ⟨i, hi, rfl⟩ := List.mem_map.mp hx
    rw [List.mem_range] at hi
    intro h
    have h := rid_some.mp h
    have h1 := (S.p1 (m + i) (by omega)).1
    have h2 := hc (m + i) (by omega) (by omega)
    omega
  omega
theorem agree_step {y z : Sy} {m : Nat} {c d : Int} (A : Agree y z m c d) {tk tz : Nat → Int} (S : Spec y tk) (Z : Spec z tz) {s : Int} (hs : s < c) (ih : ∀ i, i < m → ∀ r, r < s → (tk i = r ↔ tz i = r + d)) {i : Nat} (hi : i < m) (h : tk i = s) : tz i = s + d := by
  have Any := A.ny
  have Anz := A.nz
  rcases Int.lt_trichotomy (tz i) (s + d) with q | q | q
  · have := (ih i hi (tz i - d) (by omega)).mpr (by omega)
    omega
  · exact q
  · exfalso
    have g := (S.p1 i (by omega)).2
    have t1 := (S.p1 i (by omega)).1
    have p2 := Z.p2 i (by omega) (s + d) (by rw [A.tick i hi]; omega) q ((A.go i hi s).mpr (h ▸ g))
    have c3 := S.p3 s
    rw [cnt_cut S A.ny A.cy hs] at c3
    have c2 := p2.1
    rw [cnt_cut Z A.nz A.cz (show s + d < c + d by omega)] at c2
    -- those that ride by the second rule ride by the first one, and i does not
    have lt : (List.range m).countP (rid z (fun j => some (tz j)) (s + d)) < (List.range m).countP (rid y (fun j => some (tk j)) s) := by
      refine countP_lt (z := i) (fun j hj e => ?_) (List.mem_range.mpr hi) ?_ ?_
      · rw [List.mem_range] at hj
        have e := rid_some.mp e
        rw [A.dist j hj] at e
        refine rid_some.mpr ?_
        rcases Int.lt_trichotomy (tz j) (s + d) with r | r | r
        · have := (ih j hj (tz j - d) (by omega)).mpr (by omega)
          omega
        · -- taken at the very time: so it is ahead of i
          have jl : j < i := by
            rcases Nat.lt_trichotomy j i with w | w | w
            · exact w
            · subst w; omega
            · exact absurd r (p2.2 j w (by omega))
          have gj : y.go j s := (A.go j hj s).mp (r ▸ (Z.p1 j (by omega)).2)
          have tj : y.tick j ≤ s := by have := (Z.p1 j (by omega)).1; rw [A.tick j hj] at this; omega
          rcases Int.lt_trichotomy (tk j) s with w | w | w
          · have := (ih j hj (tk j) w).mp rfl; omega
          · omega
          · exact absurd h ((S.p2 j (by omega) s tj w gj).2 i jl (by omega))
        · omega
      · have := A.dp i hi
        exact rid_some.mpr (by omega)
      · cases e : rid z (fun j => some (tz j)) (s + d) i with
        | false => rfl
        | true => have e := rid_some.mp e; omega
    have := A.L
    omega
theorem Agree.symm {y z : Sy} {m : Nat} {c d : Int} (A : Agree y z m c d) : Agree z y m (c + d) (-d) where
  ny := A.nz
  nz := A.ny
  L := A.L.symm
  tick := fun i hi => by have := A.tick i hi; omega
  dist := fun i hi => (A.dist i hi).symm
  dp := fun i hi => by rw [A.dist i hi]; exact A.dp i hi
  go := fun i hi s => by have := A.go i hi (s + -d); rw [show s + -d + d = s by omega] at this; exact this.symm
  cy := A.cz
  cz := fun i h1 h2 => by have := A.cy i h1 h2; omega
/-- below c the two tell the same -/
theorem agree {y z : Sy} {m : Nat} {c d : Int} (A : Agree y z m c d) {tk tz : Nat → Int} (S : Spec y tk) (Z : Spec z tz) (lo : Int) (hlo : ∀ i, i < m → lo ≤ y.tick i) : ∀ (k : Nat) (s : Int), s < lo + k → s < c → ∀ i, i < m → (tk i = s ↔ tz i = s + d)
  | 0, s, h, _, i, hi => by
    have Any := A.ny
    have Anz := A.nz
    have a1 := (S.p1 i (by omega)).1
    have a2 := (Z.p1 i (by omega)).1
    have a3 := hlo i hi
    rw [A.tick i hi] at a2
    constructor <;> intro e <;> omega
  | k + 1, s, h, hc, i, hi => by
    have ih := agree A S Z lo hlo k
    by_cases q : s < lo + k
    · exact ih s q hc i hi
    · have es : s = lo + k := by omega
      refine ⟨fun e => agree_step A S Z hc (fun j hj r hr => ih r (by omega) (by omega) j hj) hi e, fun e => ?_⟩
      have := agree_step A.symm Z S (s := s + d) (show s + d < c + d by omega) (fun j hj r hr => by
        have := ih (r + -d) (by omega) (by omega) j hj
        rw [show r + -d + d = r by omega] at this
        exact this.symm) hi e
      omega
theorem agree_min {y z : Sy} {m : Nat} {c d : Int} (A : Agree y z m c d) {tk tz : Nat → Int} (S : Spec y tk) (Z : Spec z tz) {i : Nat} (hi : i < m) : (tk i < c → tz i = tk i + d) ∧ (tz i < c + d → tz i = tk i + d) := by
  have lo : ∃ lo : Int, ∀ i, i < m → lo ≤ y.tick i := by
    have : ∀ k : Nat, ∃ lo : Int, ∀ i, i < k → lo ≤ y.tick i := by
      intro k
      induction k with
      | zero => exact ⟨0, fun i h => absurd h (Nat.not_lt_zero _)⟩
      | succ k ih =>
        obtain ⟨lo, h⟩ := ih
        refine ⟨min lo (y.tick k), fun i hi => ?_⟩
        by_cases e : i = k
        · subst e; omega
        · have := h i (by omega); omega
    exact this m
  obtain ⟨lo, hlo⟩ := lo
  refine ⟨fun h => ?_, fun h => ?_⟩
  · exact (agree A S Z lo hlo (tk i - lo + 1).toNat (tk i) (by omega) h i hi).mp rfl
  · have := (agree A S Z lo hlo (tz i - d - lo + 1).toNat (tz i - d) (by omega) (by omega) i hi).mpr (by omega)
    omega
/-- all orders, d later -/
theorem agree_all {y z : Sy} {d : Int} (A : ∀ c, Agree y z y.n c d) {tk tz : Nat → Int} (S : Spec y tk) (Z : Spec z tz) {i : Nat} (hi : i < y.n) : tz i = tk i + d :=
  (agree_min (A (tk i + 1)) S Z hi).1 (by omega)
/-! a history goes on -/
theorem Hi.step {y : Sy} {f f' : Nat → Option Int} {t t' : Int} {tkn : Nat → Bool} (H : Hi y f t) (lt : t < t') (ef : ∀ i, i < y.n → f' i = if tkn i = true then some t else f i) (ha : ∀ i, i < y.n → tkn i = true → f i = none ∧ y.tick i ≤ t ∧ y.go i t) (hb : cnt y f' t ≤ y.L)
    (hc : ∀ i, i < y.n → f i = none → tkn i = false → y.tick i ≤ t → y.go i t → cnt y f' t = y.L ∧ ∀ j, i < j → j < y.n → tkn j = false) (hd : ∀ i, i < y.n → ∀ s, t < s → s < t' → ¬ y.go i s) : Hi y f' t' := by
  have old : ∀ i, i < y.n → ∀ τ, f i = some τ → f' i = some τ := fun i hi τ e => by
    rw [ef i hi]
    by_cases q : tkn i = true
    · rw [(ha i hi q).1] at e; cases e
    · rw [if_neg q]; exact e
  have new : ∀ i, i < y.n → ∀ τ, f' i = some τ → (τ = t ∧ tkn i = true) ∨ (f i = some τ ∧ tkn i = false) := fun i hi τ e => by
    rw [ef i hi] at e
    by_cases q : tkn i = true
    · rw [if_pos q] at e; exact .inl ⟨(Option.some.inj e).symm, q⟩
    · rw [if_neg q] at e; exact .inr ⟨e, by simpa using q⟩
  have same : ∀ s, s < t → cnt y f' s = cnt y f s := fun s hs => by
    unfold cnt
    refine countP_eq fun i hi => ?_
    have hi := List.mem_range.mp hi
    unfold rid
    cases h1 : f' i with
    | none =>
      cases h2 : f i with
      | none => rfl
      | some τ => rw [old i hi τ h2] at h1; cases h1
    | some τ =>
      rcases new i hi τ h1 with ⟨e, q⟩ | ⟨e, q⟩
      · rw [(ha i hi q).1]; exact decide_eq_false (by omega)
      · rw [e]
  refine ⟨fun i hi τ e => ?_, fun i hi s h1 h2 h3 h4 => ?_, fun s hs => ?_⟩
  · rcases new i hi τ e with ⟨rfl, q⟩ | ⟨e, q⟩
    · have := ha i hi q; exact ⟨this.2.1, this.2.2, lt⟩
    · have := H.h1 i hi τ e; exact ⟨this.1, this.2.1, by omega⟩
  · rcases Int.lt_trichotomy s t with q | q | q
    · obtain ⟨a1, a2⟩ := H.h2 i hi s h1 q h3 fun τ e => h4 τ (old i hi τ e)
      refine ⟨by rw [same s q]; exact a1, fun j hj hjn e => ?_⟩
      rcases new j hjn s e with ⟨r, _⟩ | ⟨r, _⟩
      · omega
      · exact a2 j hj hjn r
    · subst q
      have fn : f i = none := by
        cases e : f i with
        | none => rfl
        | some τ => have := (H.h1 i hi τ e).2.2; have := h4 τ (old i hi τ e); omega
      have tn : tkn i = false := by
        cases e : tkn i with
        | false => rfl
        | true => have := h4 s (by rw [ef i hi, if_pos e]); omega
      obtain ⟨a1, a2⟩ := hc i hi fn tn h1 h3
      refine ⟨a1, fun j hj hjn e => ?_⟩
      rcases new j hjn s e with ⟨_, r⟩ | ⟨r, _⟩
      · rw [a2 j hj hjn] at r; cases r
      · have := (H.h1 j hjn s r).2.2; omega
    · exact absurd h3 (hd i hi s q h2)
  · rcases Int.lt_trichotomy s t with q | q | q
    · rw [same s q]; exact H.h3 s q
    · rw [q]; exact hb
    · refine Nat.le_trans ?_ hb
      unfold cnt
      refine countP_le fun i hi e => ?_
      have hi := List.mem_range.mp hi
      unfold rid at e ⊢
      cases h1 : f' i with
      | none => rw [h1] at e; cases e
      | some τ =>
        rw [h1] at e
        have e := of_decide_eq_true e
        refine decide_eq_true ⟨?_, by omega⟩
        rcases new i hi τ h1 with ⟨r, _⟩ | ⟨r, _⟩
        · omega
        · have := (H.h1 i hi τ r).2.2; omega
/-- nothing rides and nothing waits: the time goes on -/
theorem Hi.skip {y : Sy} {f : Nat → Option Int} {t t' : Int} (H : Hi y f t) (lt : t ≤ t') (hr : ∀ i, i < y.n → ∀ τ, f i = some τ → τ + y.dist i ≤ t) (hn : ∀ i, i < y.n → f i = none → t' ≤ y.tick i) : Hi y f t' := by
  refine ⟨fun i hi τ e => ?_, fun i hi s h1 h2 h3 h4 => ?_, fun s hs => ?_⟩
  · have := H.h1 i hi τ e; exact ⟨this.1, this.2.1, by omega⟩
  · by_cases q : s < t
    · exact H.h2 i hi s h1 q h3 h4
    · cases e : f i with
      | none => have := hn i hi e; omega
      | some τ => have := h4 τ e; have := (H.h1 i hi τ e).2.2; omega
  · by_cases q : s < t
    · exact H.h3 s q
    · have : cnt y f s = 0 := by
        unfold cnt
        rw [List.countP_eq_zero]
        intro i hi e
        have hi := List.mem_range.mp hi
        unfold rid at e
        cases h1 : f i with
        | none => rw [h1] at e; cases e
        | some τ => rw [h1] at e; have e := of_decide_eq_true e; have := hr i hi τ h1; omega
      omega
/-- all are home -/
theorem Hi.all {y : Sy} {f : Nat → Option Int} {t : Int} (H : Hi y f t) {tk : Nat → Int} (hf : ∀ i, i < y.n → f i = some (tk i)) (hr : ∀ i, i < y.n → tk i + y.dist i ≤ t) : Spec y tk := by
  have ce : ∀ s, cnt y (fun j => some (tk j)) s = cnt y f s := fun s => countP_eq fun i hi => by unfold rid; rw [hf i (List.mem_range.mp hi)]
  refine ⟨fun i hi => ?_, fun i hi s h1 h2 h3 => ?_, fun s => ?_⟩
  · have := H.h1 i hi _ (hf i hi); exact ⟨this.1, this.2.1⟩
  · have lt := (H.h1 i hi _ (hf i hi)).2.2
    obtain ⟨a1, a2⟩ := H.h2 i hi s h1 (by omega) h3 fun τ e => by rw [hf i hi] at e; have := Option.some.inj e; omega
    exact ⟨by rw [ce]; exact a1, fun j hj hjn e => a2 j hj hjn (by rw [hf j hjn, e])⟩
  · rw [ce]
    by_cases q : s < t
    · exact H.h3 s q
    · have : cnt y f s = 0 := by
        unfold cnt
        rw [List.countP_eq_zero]
        intro i hi e
        have hi := List.mem_range.mp hi
        unfold rid at e
        rw [hf i hi] at e
        have e := of_decide_eq_true e
        have := hr i hi
        omega
      omega
end Bw

namespace Bw
open PySem L2 TL
/-! the trolley's stops -/
theorem phA {g : List Int} (h : Gp g) (t : Int) {d : Int} (d0 : 0 ≤ d) (d1 : d ≤ 2 * g.sum) : ph g (t + d) = if ph g t + d < 2 * g.sum then ph g t + d else ph g t + d - 2 * g.sum := by
  have T := tot h
  have b := ph_bd h t
  unfold ph at *
  rw [Int.add_emod]
  have e : (t % (2 * g.sum) + d % (2 * g.sum)) % (2 * g.sum) = (t % (2 * g.sum) + d) % (2 * g.sum) := by rw [Int.add_emod_emod]
  rw [e]
  split
  · exact Int.emod_eq_of_lt (by omega) (by omega)
  · rw [← Int.sub_emod_right]; exact Int.emod_eq_of_lt (by omega) (by omega)
theorem phR {g : List Int} (t k : Int) : ph g (t + k * (2 * g.sum)) = ph g t := by unfold ph; rw [Int.add_mul_emod_self_right]
def Bok (n : Nat) (o : Od) : Prop := 0 ≤ o.2.2.1 ∧ o.2.2.1 ≤ n ∧ 0 ≤ o.2.2.2 ∧ o.2.2.2 ≤ n ∧ o.2.2.1 ≠ o.2.2.2
def upO (o : Od) : Bool := decide (o.2.2.1 < o.2.2.2)
def phs (g : List Int) (o : Od) : Int := if o.2.2.1 < o.2.2.2 then spt g o.2.2.1.toNat else 2 * g.sum - spt g o.2.2.1.toNat
def dst (g : List Int) (o : Od) : Int := absI (spt g o.2.2.2.toNat - spt g o.2.2.1.toNat)
theorem dst_eq {g : List Int} (h : Gp g) {o : Od} (b : Bok g.length o) : (o.2.2.1 < o.2.2.2 → dst g o = spt g o.2.2.2.toNat - spt g o.2.2.1.toNat ∧ spt g o.2.2.1.toNat < spt g o.2.2.2.toNat) ∧ (¬ o.2.2.1 < o.2.2.2 → dst g o = spt g o.2.2.1.toNat - spt g o.2.2.2.toNat ∧ spt g o.2.2.2.toNat < spt g o.2.2.1.toNat) := by
  obtain ⟨a0, a1, b0, b1, ne⟩ := b
  refine ⟨fun q => ?_, fun q => ?_⟩
  · have m := spt_mono h (show o.2.2.1.toNat < o.2.2.2.toNat by omega) (by omega)
    unfold dst absI; split <;> omega
  · have m := spt_mono h (show o.2.2.2.toNat < o.2.2.1.toNat by omega) (by omega)
    unfold dst absI; split <;> omega
theorem dst_bd {g : List Int} (h : Gp g) {o : Od} (b : Bok g.length o) : 1 ≤ dst g o ∧ dst g o ≤ g.sum := by
  have e := dst_eq h b
  obtain ⟨a0, a1, b0, b1, ne⟩ := b
  have sa := spt_nn h (show o.2.2.1.toNat ≤ g.length by omega)
  have sb := spt_nn h (show o.2.2.2.toNat ≤ g.length by omega)
  by_cases q : o.2.2.1 < o.2.2.2
  · have := e.1 q; omega
  · have := e.2 q; omega
theorem phs_bd {g : List Int} (h : Gp g) {o : Od} (b : Bok g.length o) : 0 ≤ phs g o ∧ phs g o < 2 * g.sum ∧ (o.2.2.1 < o.2.2.2 ↔ phs g o < g.sum) := by
  have e := dst_eq h b
  obtain ⟨a0, a1, b0, b1, ne⟩ := b
  have sa := spt_nn h (show o.2.2.1.toNat ≤ g.length by omega)
  have sb := spt_nn h (show o.2.2.2.toNat ≤ g.length by omega)
  unfold phs
  by_cases q : o.2.2.1 < o.2.2.2
  · have := e.1 q; rw [if_pos q]; refine ⟨by omega, by omega, fun _ => by omega, fun _ => q⟩
  · have := e.2 q; rw [if_neg q]; refine ⟨by omega, by omega, fun z => absurd z q, fun z => by omega⟩
/-- the trolley goes on at t from the bay b, up or down -/
inductive Stp (g : List Int) : Int → Bool → Int → Prop
  | up {b t : Int} : 0 ≤ b → b < g.length → ph g t = spt g b.toNat → Stp g b true t
  | dn {b t : Int} : 1 ≤ b → b ≤ g.length → ph g t = 2 * g.sum - spt g b.toNat → Stp g b false t
theorem stp_go {g : List Int} (h : Gp g) {b t : Int} {u : Bool} (S : Stp g b u t) {o : Od} (ok : Bok g.length o) : ph g t = phs g o ↔ o.2.2.1 = b ∧ upO o = u := by
  have pb := phs_bd h ok
  have e := dst_eq h ok
  obtain ⟨a0, a1, b0, b1, ne⟩ := ok
  have T := tot h
  have sa := spt_nn h (show o.2.2.1.toNat ≤ g.length by omega)
  cases S with
  | up h0 h1 hp =>
    have m := spt_mono h (show b.toNat < g.length by omega) (Nat.le_refl _)
    rw [spt_top] at m
    rw [hp]
    unfold phs upO
    by_cases q : o.2.2.1 < o.2.2.2
    · rw [if_pos q, decide_eq_true q]
      refine ⟨fun z => ⟨?_, rfl⟩, fun z => by rw [z.1]⟩
      have := spt_inj h (show b.toNat ≤ g.length by omega) (show o.2.2.1.toNat ≤ g.length by omega) z
      omega
    · rw [if_neg q, decide_eq_false q]
      refine ⟨fun z => by omega, fun z => by simp at z⟩
  | dn h0 h1 hp =>
    have sb := spt_nn h (show b.toNat ≤ g.length by omega)
    rw [hp]
    unfold phs upO
    by_cases q : o.2.2.1 < o.2.2.2
    · have := e.1 q
      have sc := spt_nn h (show o.2.2.2.toNat ≤ g.length by omega)
      rw [if_pos q, decide_eq_true q]
      refine ⟨fun z => by omega, fun z => by simp at z⟩
    · rw [if_neg q, decide_eq_false q]
      refine ⟨fun z => ⟨?_, rfl⟩, fun z => by rw [z.1]⟩
      have := spt_inj h (show b.toNat ≤ g.length by omega) (show o.2.2.1.toNat ≤ g.length by omega) (by omega)
      omega
theorem stp_pos {g : List Int} (h : Gp g) {b t : Int} {u : Bool} (S : Stp g b u t) : 0 ≤ b ∧ b ≤ g.length ∧ pos g t = spt g b.toNat := by
  cases S with
  | up h0 h1 hp =>
    have sb := spt_nn h (show b.toNat ≤ g.length by omega)
    refine ⟨h0, by omega, ?_⟩
    unfold pos minI; rw [hp]; split <;> omega
  | dn h0 h1 hp =>
    have sb := spt_nn h (show b.toNat ≤ g.length by omega)
    refine ⟨by omega, by omega, ?_⟩
    unfold pos minI; rw [hp]; split <;> omega
def nb (b : Int) (u : Bool) : Int := if u = true then b + 1 else b - 1
def nu (g : List Int) (b : Int) (u : Bool) : Bool := if u = true then decide (b + 1 < g.length) else decide (b - 1 = 0)
theorem stp_next {g : List Int} (h : Gp g) {b t : Int} {u : Bool} (S : Stp g b u t) : ∃ x, atI g (if u = true then b else b - 1) = some x ∧ 1 ≤ x ∧ x ≤ 1000 ∧ Stp g (nb b u) (nu g b u) (t + x) ∧ ∀ o, Bok g.length o → ∀ s, t < s → s < t + x → ph g s ≠ phs g o := by
  have T := tot h
  cases S with
  | up h0 h1 hp =>
    obtain ⟨x, e1, e2⟩ := atI_int g b h0 h1
    have bl : b.toNat < g.length := by omega
    have ex : g[b.toNat] = x := by rw [List.getElem?_eq_getElem bl] at e2; exact Option.some.inj e2
    have gx := h.at bl
    rw [ex] at gx
    have ss := spt_succ bl
    rw [ex] at ss
    have sb := spt_nn h (show b.toNat + 1 ≤ g.length by omega)
    have sb0 := spt_nn h (show b.toNat ≤ g.length by omega)
    refine ⟨x, e1, gx.1, gx.2, ?_, ?_⟩
    · have pa := phA h t (show 0 ≤ x by omega) (show x ≤ 2 * g.sum by omega)
      rw [hp, if_pos (by omega)] at pa
      unfold nb nu
      rw [if_pos rfl, if_pos rfl]
      by_cases q : b + 1 < g.length
      · rw [decide_eq_true q]
        exact .up (by omega) q (by rw [pa, show (b + 1).toNat = b.toNat + 1 by omega]; omega)
      · rw [decide_eq_false q]
        have eb : b.toNat + 1 = g.length := by omega
        rw [eb, spt_top] at ss
        exact .dn (by omega) (by omega) (by rw [pa, show (b + 1).toNat = g.length by omega, spt_top]; omega)
    · intro o ok s s1 s2 e
      have pa := phA h t (show 0 ≤ s - t by omega) (show s - t ≤ 2 * g.sum by omega)
      rw [hp, if_pos (by omega), show t + (s - t) = s by omega, e] at pa
      have pb := phs_bd h ok
      obtain ⟨a0, a1, b0, b1, ne⟩ := ok
      unfold phs at pa
      have sa := spt_nn h (show o.2.2.1.toNat ≤ g.length by omega)
      split at pa
      · rcases Nat.lt_or_ge b.toNat o.2.2.1.toNat with q | q
        · have := spt_le h (show b.toNat + 1 ≤ o.2.2.1.toNat by omega) (by omega); omega
        · have := spt_le h q (show b.toNat ≤ g.length by omega); omega
      · omega
  | dn h0 h1 hp =>
    obtain ⟨x, e1, e2⟩ := atI_int g (b - 1) (by omega) (by omega)
    have bl : (b - 1).toNat < g.length := by omega
    have ex : g[(b - 1).toNat] = x := by rw [List.getElem?_eq_getElem bl] at e2; exact Option.some.inj e2
    have gx := h.at bl
    rw [ex] at gx
    have ss := spt_succ bl
    rw [ex, show (b - 1).toNat + 1 = b.toNat by omega] at ss
    have sb := spt_nn h (show b.toNat ≤ g.length by omega)
    have sc := spt_nn h (show (b - 1).toNat ≤ g.length by omega)
    refine ⟨x, e1, gx.1, gx.2, ?_, ?_⟩
    · have pa := phA h t (show 0 ≤ x by omega) (show x ≤ 2 * g.sum by omega)
      rw [hp] at pa
      unfold nb nu
      rw [if_neg (by decide), if_neg (by decide)]
      by_cases q : b - 1 = 0
      · rw [decide_eq_true q]
        have z : spt g (b - 1).toNat = 0 := by rw [q]; exact spt_zero g
        rw [if_neg (by omega)] at pa
        exact .up (by omega) (by have := h.n1; omega) (by rw [pa, z]; omega)
      · rw [decide_eq_false q]
        have m := spt_mono h (show 0 < (b - 1).toNat by omega) (show (b - 1).toNat ≤ g.length by omega)
        rw [spt_zero] at m
        rw [if_pos (by omega)] at pa
        exact .dn (by omega) (by omega) (by rw [pa]; omega)
    · intro o ok s s1 s2 e
      have pa := phA h t (show 0 ≤ s - t by omega) (show s - t ≤ 2 * g.sum by omega)
      rw [hp, if_pos (by omega), show t + (s - t) = s by omega, e] at pa
      have pb := phs_bd h ok
      have d := dst_eq h ok
      obtain ⟨a0, a1, b0, b1, ne⟩ := ok
      unfold phs at pa
      have sa := spt_nn h (show o.2.2.1.toNat ≤ g.length by omega)
      have sd := spt_nn h (show o.2.2.2.toNat ≤ g.length by omega)
      split at pa
      · rename_i q; have := d.1 q; omega
      · rcases Nat.lt_or_ge o.2.2.1.toNat b.toNat with q | q
        · have := spt_le h (show o.2.2.1.toNat ≤ (b - 1).toNat by omega) (by omega); omega
        · have := spt_le h q (show o.2.2.1.toNat ≤ g.length by omega); omega
/-- where a box is that rides -/
theorem rideP {g : List Int} (h : Gp g) {o : Od} (ok : Bok g.length o) {t : Int} (G : ph g t = phs g o) {d : Int} (d0 : 0 ≤ d) (d1 : d ≤ dst g o) :
    pos g (t + d) = if o.2.2.1 < o.2.2.2 then spt g o.2.2.1.toNat + d else spt g o.2.2.1.toNat - d := by
  have T := tot h
  have e := dst_eq h ok
  have pb := phs_bd h ok
  obtain ⟨a0, a1, b0, b1, ne⟩ := ok
  have sa := spt_nn h (show o.2.2.1.toNat ≤ g.length by omega)
  have sb := spt_nn h (show o.2.2.2.toNat ≤ g.length by omega)
  have pa := phA h t d0 (by by_cases q : o.2.2.1 < o.2.2.2; (· have := e.1 q; omega); (· have := e.2 q; omega))
  rw [G] at pa
  unfold pos
  rw [pa]
  unfold phs
  by_cases q : o.2.2.1 < o.2.2.2
  · have := e.1 q
    rw [if_pos q, if_pos q, if_pos (by omega)]
    unfold minI; split <;> omega
  · have := e.2 q
    rw [if_neg q, if_neg q]
    split <;> (unfold minI; split <;> omega)
theorem ride_to {g : List Int} (h : Gp g) {o : Od} (ok : Bok g.length o) {τ t b : Int} {u : Bool} (G : ph g τ = phs g o) (S : Stp g b u t) (t0 : τ ≤ t) (t1 : t ≤ τ + dst g o) : o.2.2.2 = b ↔ t = τ + dst g o := by
  have r := rideP h ok G (show 0 ≤ t - τ by omega) (by omega)
  rw [show τ + (t - τ) = t by omega] at r
  obtain ⟨s0, s1, sp⟩ := stp_pos h S
  rw [sp] at r
  have e := dst_eq h ok
  obtain ⟨a0, a1, b0, b1, ne⟩ := ok
  refine ⟨fun z => ?_, fun z => ?_⟩
  · rw [z] at e
    by_cases q : o.2.2.1 < o.2.2.2
    · rw [if_pos q] at r; have := e.1 (by omega); omega
    · rw [if_neg q] at r; have := e.2 (by omega); omega
  · have : spt g b.toNat = spt g o.2.2.2.toNat := by
      by_cases q : o.2.2.1 < o.2.2.2
      · rw [if_pos q] at r; have := e.1 q; omega
      · rw [if_neg q] at r; have := e.2 q; omega
    have := spt_inj h (show b.toNat ≤ g.length by omega) (show o.2.2.2.toNat ≤ g.length by omega) this
    omega
end Bw

namespace Bw
open PySem L2 TL
/-! the tour as a machine -/
def nI (xs : List Nat) : List Int := xs.map fun (i : Nat) => (i : Int)
def oat (os : List Od) (i : Nat) : Od := os.getD i (Str.empty, 0, 0, 0)
def kyO (o : Od) : Kb := (o.2.2.1, upO o)
def tf (l : List (Option Int)) (i : Nat) : Option Int := l.getD i none
def ySy (a : Ai) (os : List Od) : Sy := ⟨os.length, fun i => (oat os i).2.1, fun i s => ph a.1 s = phs a.1 (oat os i), fun i => dst a.1 (oat os i), a.2.toNat⟩
theorem oat_get {os : List Od} {i : Nat} (h : i < os.length) : os[i]? = some (oat os i) := by
  unfold oat; rw [List.getD_eq_getElem?_getD, List.getElem?_eq_getElem h]; rfl
theorem oat_mem {os : List Od} {i : Nat} (h : i < os.length) : oat os i ∈ os := List.mem_of_getElem? (oat_get h)
theorem oat_at {os : List Od} {i : Nat} (h : i < os.length) : atI os (i : Int) = some (oat os i) := by
  rw [atI_nn os i h]; have := oat_get h; rw [List.getElem?_eq_getElem h] at this; exact this
theorem oat_bok {n : Nat} {os : List Od} (ho : OOk n os) {i : Nat} (h : i < os.length) : Bok n (oat os i) := ho.by_ _ (oat_mem h)
theorem oat_so {n : Nat} {os : List Od} (ho : OOk n os) {i j : Nat} (hij : i ≤ j) (h : j < os.length) : (oat os i).2.1 ≤ (oat os j).2.1 := by
  by_cases e : i = j
  · subst e; exact Int.le_refl _
  · have := List.pairwise_iff_getElem.mp ho.so i j (by omega) h (by omega)
    have e1 := oat_get (os := os) (i := i) (by omega)
    have e2 := oat_get h
    rw [List.getElem?_eq_getElem (by omega)] at e1
    rw [List.getElem?_eq_getElem h] at e2
    rw [← Option.some.inj e1, ← Option.some.inj e2]; exact this
/-! dicts of lists -/
theorem getL_put (m : List (Kb × List Int)) (k k' : Kb) (l : List Int) : getL (putL m k l) k' = if k' = k then l else getL m k' := by
  unfold putL
  by_cases a : (m.any fun x => decide (x.1 = k)) = true
  · rw [if_pos a]
    unfold getL
    rw [List.find?_map]
    have e : ((fun x : Kb × List Int => decide (x.1 = k')) ∘ fun x => if x.1 = k then (x.1, l) else x) = fun x => decide (x.1 = k') := by
      funext x
      show decide ((if x.1 = k then (x.1, l) else x).1 = k') = _
      split <;> rfl
    rw [e]
    by_cases q : k' = k
    · rw [if_pos q]
      subst q
      obtain ⟨x, hx, h2⟩ := List.any_eq_true.mp a
      cases hf : m.find? (fun x => decide (x.1 = k')) with
      | none => exact absurd h2 (List.find?_eq_none.mp hf x hx)
      | some y =>
        have := List.find?_some hf
        rw [Option.map_some, Option.map_some, if_pos (of_decide_eq_true this)]; rfl
    · rw [if_neg q]
      cases hf : m.find? (fun x => decide (x.1 = k')) with
      | none => rfl
      | some y =>
        have := List.find?_some hf
        have := of_decide_eq_true this
        rw [Option.map_some, Option.map_some, Option.map_some, if_neg (fun z => q (this.symm.trans z))]
  · rw [if_neg a]
    unfold getL
    rw [List.find?_append]
    by_cases q : k' = k
    · subst q
      have : m.find? (fun x => decide (x.1 = k')) = none := by
        rw [List.find?_eq_none]
        intro x hx h2
        exact a (List.any_eq_true.mpr ⟨x, hx, h2⟩)
      rw [this, if_pos rfl, List.find?_cons, decide_eq_true rfl]; rfl
    · rw [if_neg q, List.find?_cons, decide_eq_false (fun z => q z.symm)]
      cases m.find? (fun x => decide (x.1 = k')) <;> rfl
structure KyOk (m : List (Kb × List Int)) : Prop where
  nd : (m.map (·.1)).Nodup
  bd : ∀ x ∈ m, 0 ≤ x.1.1 ∧ x.1.1 ≤ 15
theorem KyOk.put {m : List (Kb × List Int)} (h : KyOk m) {k : Kb} (l : List Int) (k0 : 0 ≤ k.1) (k1 : k.1 ≤ 15) : KyOk (putL m k l) := by
  unfold putL
  by_cases a : (m.any fun x => decide (x.1 = k)) = true
  · rw [if_pos a]
    refine ⟨?_, fun x hx => ?_⟩
    · rw [List.map_map]
      have : ((fun x : Kb × List Int => x.1) ∘ fun x => if x.1 = k then (x.1, l) else x) = fun x => x.1 := by
        funext x; show (if x.1 = k then (x.1, l) else x).1 = _; split <;> rfl
      rw [this]; exact h.nd
    · obtain ⟨y, hy, rfl⟩ := List.mem_map.mp hx
      have := h.bd y hy
      split <;> exact this
  · rw [if_neg a]
    refine ⟨?_, fun x hx => ?_⟩
    · rw [List.map_append, List.nodup_append]
      refine ⟨h.nd, by simp, fun x hx y hy e => ?_⟩
      simp only [List.map_cons, List.map_nil, List.mem_singleton] at hy
      obtain ⟨z, hz, rfl⟩ := List.mem_map.mp hx
      exact a (List.any_eq_true.mpr ⟨z, hz, decide_eq_true (e.trans hy)⟩)
    · rcases List.mem_append.mp hx with hx | hx
      · exact h.bd x hx
      · rw [List.mem_singleton] at hx; subst hx; exact ⟨k0, k1⟩
theorem nd_len {α : Type} [DecidableEq α] : ∀ {l m : List α}, l.Nodup → (∀ x ∈ l, x ∈ m) → l.length ≤ m.length
  | [], _, _, _ => Nat.zero_le _
  | x :: l, m, nd, h => by
    rw [List.nodup_cons] at nd
    obtain ⟨s, t, rfl⟩ := List.append_of_mem (h x List.mem_cons_self)
    have := nd_len (l := l) (m := s ++ t) nd.2 fun y hy => by
      have := h y (List.mem_cons_of_mem _ hy)
      rcases List.mem_append.mp this with h1 | h1
      · exact List.mem_append_left _ h1
      · rcases List.mem_cons.mp h1 with rfl | h1
        · exact absurd hy nd.1
        · exact List.mem_append_right _ h1
    simp only [List.length_cons, List.length_append] at this ⊢
    omega
theorem KyOk.len {m : List (Kb × List Int)} (h : KyOk m) : m.length ≤ 32 := by
  have := nd_len (m := (List.range 16).flatMap fun (b : Nat) => [((b : Int), true), ((b : Int), false)]) h.nd fun k hk => by
    obtain ⟨x, hx, rfl⟩ := List.mem_map.mp hk
    have b := h.bd x hx
    rw [List.mem_flatMap]
    refine ⟨x.1.1.toNat, List.mem_range.mpr (by omega), ?_⟩
    obtain ⟨⟨i, u⟩, l⟩ := x
    dsimp only at b ⊢
    rw [Int.toNat_of_nonneg b.1]
    cases u <;> simp
  rw [List.length_map] at this
  exact Nat.le_trans this (by decide)
/-! the state -/
structure Tz where
  tk : List (Option Int)
  hm : List (Option Int)
  mn : Int
  co : Int
  ln : List (Kb × List Int)
  qd : Int
  ri : List Int
  t : Int
  b : Int
  u : Bool
def mkT (a : Ai) (os : List Od) (z : Tz) : T_Tour := (a, os, z.tk, z.hm, z.mn, z.co, z.ln, z.qd, z.ri, z.t, z.b, z.u)
/-- the numbers of those that wait in a line -/
def wl (os : List Od) (f : Nat → Option Int) (c : Nat) (k : Kb) : List Nat := (List.range c).filter fun i => decide (kyO (oat os i) = k) && (f i).isNone
def qn (f : Nat → Option Int) (c : Nat) : Nat := (List.range c).countP fun i => (f i).isNone
structure LnI (os : List Od) (f : Nat → Option Int) (ln : List (Kb × List Int)) (c : Nat) : Prop where
  ky : KyOk ln
  gt : ∀ k, getL ln k = nI (wl os f c k)
theorem wl_succ {os : List Od} {f : Nat → Option Int} {c : Nat} (h : f c = none) (k : Kb) : wl os f (c + 1) k = if kyO (oat os c) = k then wl os f c k ++ [c] else wl os f c k := by
  unfold wl
  rw [List.range_succ, List.filter_append]
  by_cases q : kyO (oat os c) = k
  · rw [if_pos q, List.filter_cons_of_pos (by rw [decide_eq_true q, h]; rfl)]; rfl
  · rw [if_neg q, List.filter_cons_of_neg (by rw [decide_eq_false q]; exact Bool.false_ne_true)]; simp
theorem wl_len {os : List Od} {f : Nat → Option Int} {c : Nat} {k : Kb} : (wl os f c k).length ≤ c := by
  have := List.length_filter_le (fun i => decide (kyO (oat os i) = k) && (f i).isNone) (List.range c)
  rw [List.length_range] at this; exact this
theorem nI_len (xs : List Nat) : (nI xs).length = xs.length := by unfold nI; exact List.length_map _
theorem LnI.add {n : Nat} (n15 : n ≤ 15) {os : List Od} (ho : OOk n os) {f : Nat → Option Int} {ln : List (Kb × List Int)} {c : Nat} (h : LnI os f ln c) (hc : c < os.length) (hf : f c = none) : ∃ ln', addLM ln (kyO (oat os c)) (c : Int) = some ln' ∧ LnI os f ln' (c + 1) := by
  have l60 := ho.l60
  have kl := h.ky.len
  have bk := oat_bok ho hc
  unfold addLM
  rw [if_pos ⟨by omega, by rw [h.gt, nI_len]; have := wl_len (os := os) (f := f) (c := c) (k := kyO (oat os c)); omega⟩]
  refine ⟨_, rfl, h.ky.put _ bk.1 (by have := bk.2.1; show (oat os c).2.2.1 ≤ 15; omega), fun k => ?_⟩
  rw [getL_put, h.gt, h.gt, wl_succ hf]
  by_cases q : k = kyO (oat os c)
  · rw [if_pos q, if_pos q.symm, q]; unfold nI; rw [List.map_append]; rfl
  · rw [if_neg q, if_neg (fun z => q z.symm)]
/-! orders come -/
theorem lie_while {a : Ai} (ha : AOk a) {os : List Od} (ho : OOk a.1.length os) (z : Tz) {f : Nat → Option Int} : ∀ (m k c : Nat) (ln : List (Kb × List Int)), c + m = os.length → m < k → LnI os f ln c → (∀ i, i < c → (oat os i).2.1 ≤ z.t) → (∀ i, c ≤ i → i < os.length → f i = none) →
    ∃ (c' : Nat) (ln' : List (Kb × List Int)), whileF f_Tour_lie_down_t18 f_Tour_lie_down_w18 k (mkT a os { z with co := (c : Int), ln := ln, qd := (qn f c : Int) }) = some (.nx (mkT a os { z with co := (c' : Int), ln := ln', qd := (qn f c' : Int) })) ∧
      c ≤ c' ∧ c' ≤ os.length ∧ LnI os f ln' c' ∧ (∀ i, i < c' → (oat os i).2.1 ≤ z.t) ∧ ∀ i, c' ≤ i → i < os.length → z.t < (oat os i).2.1
  | m, 0, c, ln, _, h, _, _, _ => absurd h (Nat.not_lt_zero _)
  | m, k + 1, c, ln, hm, hk, hl, ht, hf => by
    unfold whileF
    by_cases q : c < os.length
    · by_cases r : (oat os c).2.1 ≤ z.t
      · have e : f_Tour_lie_down_t18 (mkT a os { z with co := (c : Int), ln := ln, qd := (qn f c : Int) }) = some true := by
          unfold f_Tour_lie_down_t18 mkT
          dsimp only
          rw [decide_eq_true (show (c : Int) < (os.length : Int) by omega), if_pos rfl, bo (oat_at q), decide_eq_true r]; rfl
        rw [bo e, if_pos rfl]
        obtain ⟨ln', e2, hl'⟩ := hl.add ha.n15 ho q (hf c (Nat.le_refl _) q)
        have e3 : f_Tour_lie_down_w18 (mkT a os { z with co := (c : Int), ln := ln, qd := (qn f c : Int) }) = some (.nx (mkT a os { z with co := ((c + 1 : Nat) : Int), ln := ln', qd := (qn f (c + 1) : Int) })) := by
          unfold f_Tour_lie_down_w18 mkT
          dsimp only
          rw [bo (oat_at q), bo (show f_is_upward (oat os c) = some (upO (oat os c)) from rfl), bo (show addLM ln ((oat os c).2.2.1, upO (oat os c)) (c : Int) = some ln' from e2), letM_eq, letM_eq]
          have q1 : (qn f c : Int) + 1 = (qn f (c + 1) : Int) := by
            unfold qn; rw [List.range_succ, List.countP_append, List.countP_cons, hf c (Nat.le_refl _) q]; simp
          rw [q1]; rfl
        rw [bo e3]
        obtain ⟨c', ln2, e4, g1, g2, g3, g4, g5⟩ := lie_while ha ho z (m - 1) k (c + 1) ln' (by omega) (by omega) hl' (fun i hi => by
          by_cases w : i = c
          · subst w; exact r
          · exact ht i (by omega)) (fun i hi => hf i (by omega))
        exact ⟨c', ln2, e4, by omega, g2, g3, g4, g5⟩
      · have e : f_Tour_lie_down_t18 (mkT a os { z with co := (c : Int), ln := ln, qd := (qn f c : Int) }) = some false := by
          unfold f_Tour_lie_down_t18 mkT
          dsimp only
          rw [decide_eq_true (show (c : Int) < (os.length : Int) by omega), if_pos rfl, bo (oat_at q), decide_eq_false r]; rfl
        rw [bo e, if_neg (by decide)]
        refine ⟨c, ln, rfl, Nat.le_refl _, by omega, hl, ht, fun i hi hin => ?_⟩
        have := oat_so ho hi hin
        omega
    · have e : f_Tour_lie_down_t18 (mkT a os { z with co := (c : Int), ln := ln, qd := (qn f c : Int) }) = some false := by
        unfold f_Tour_lie_down_t18 mkT
        dsimp only
        rw [decide_eq_false (show ¬ (c : Int) < (os.length : Int) by omega), if_neg (by decide)]; rfl
      rw [bo e, if_neg (by decide)]
      exact ⟨c, ln, rfl, Nat.le_refl _, by omega, hl, ht, fun i hi hin => by omega⟩
theorem lie_ok {a : Ai} (ha : AOk a) {os : List Od} (ho : OOk a.1.length os) (z : Tz) {f : Nat → Option Int} {c : Nat} (hc : c ≤ os.length) (ec : z.co = c) (eq : z.qd = qn f c) (hl : LnI os f z.ln c) (ht : ∀ i, i < c → (oat os i).2.1 ≤ z.t) (hf : ∀ i, c ≤ i → i < os.length → f i = none) :
    ∃ (c' : Nat) (ln' : List (Kb × List Int)), f_Tour_lie_down (mkT a os z) = some ((), mkT a os { z with co := (c' : Int), ln := ln', qd := (qn f c' : Int) }) ∧ c ≤ c' ∧ c' ≤ os.length ∧ LnI os f ln' c' ∧ (∀ i, i < c' → (oat os i).2.1 ≤ z.t) ∧ ∀ i, c' ≤ i → i < os.length → z.t < (oat os i).2.1 := by
  have l60 := ho.l60
  obtain ⟨c', ln', e, r⟩ := lie_while ha ho z (os.length - c) fuel c z.ln (by omega) (by unfold fuel; omega) hl ht hf
  refine ⟨c', ln', ?_, r⟩
  have ez : mkT a os z = mkT a os { z with co := (c : Int), ln := z.ln, qd := (qn f c : Int) } := by unfold mkT; dsimp only; rw [ec, eq]
  unfold f_Tour_lie_down
  rw [ez, bo e]
end Bw

namespace Bw
open PySem L2 TL
/-! counting -/
theorem cnt_sub {n : Nat} : ∀ {ps : List Nat} {p : Nat → Bool}, ps.Nodup → (∀ i ∈ ps, i < n ∧ p i = true) → (List.range n).countP p = (List.range n).countP (fun i => p i && !decide (i ∈ ps)) + ps.length
  | [], p, _, _ => by
    rw [List.length_nil, Nat.add_zero]
    exact countP_eq fun i _ => by simp
  | a :: ps, p, nd, h => by
    rw [List.nodup_cons] at nd
    have ih := cnt_sub (n := n) (ps := ps) (p := p) nd.2 fun i hi => h i (List.mem_cons_of_mem _ hi)
    have ha := h a List.mem_cons_self
    have one : (List.range n).countP (fun i => p i && !decide (i ∈ ps)) = (List.range n).countP (fun i => p i && !decide (i ∈ a :: ps)) + 1 := by
      have : ∀ (m : Nat), (List.range m).countP (fun i => p i && !decide (i ∈ ps)) = (List.range m).countP (fun i => p i && !decide (i ∈ a :: ps)) + if a < m then 1 else 0 := by
        intro m
        induction m with
        | zero => rfl
        | succ m ih =>
          rw [List.range_succ, List.countP_append, List.countP_append, ih, List.countP_singleton, List.countP_singleton]
          by_cases e : m = a
          · subst e
            have e1 : (p m && !decide (m ∈ ps)) = true := by rw [ha.2, decide_eq_false nd.1]; rfl
            have e2 : ¬ (p m && !decide (m ∈ m :: ps)) = true := by rw [decide_eq_true List.mem_cons_self]; simp
            rw [if_pos e1, if_neg e2, if_neg (Nat.lt_irrefl _), if_pos (Nat.lt_succ_self _)]
          · have e1 : (p m && !decide (m ∈ a :: ps)) = (p m && !decide (m ∈ ps)) := by
              congr 2
              exact decide_eq_decide.mpr ⟨fun z => (List.mem_cons.mp z).resolve_left e, fun z => List.mem_cons_of_mem _ z⟩
            rw [e1]
            have : (a < m + 1) ↔ (a < m) := by omega
            by_cases w : a < m
            · rw [if_pos w, if_pos (this.mpr w)]; omega
            · rw [if_neg w, if_neg (fun z => w (this.mp z))]; omega
      have := this n
      rw [if_pos ha.1] at this
      exact this
    rw [ih, one, List.length_cons]; omega
theorem cnt_list {n : Nat} {l : List Nat} {p : Nat → Bool} (nd : l.Nodup) (h : ∀ i, i ∈ l ↔ i < n ∧ p i = true) : (List.range n).countP p = l.length := by
  rw [cnt_sub nd fun i hi => (h i).mp hi]
  have : (List.range n).countP (fun i => p i && !decide (i ∈ l)) = 0 := by
    rw [List.countP_eq_zero]
    intro i hi e
    rw [Bool.and_eq_true] at e
    rw [decide_eq_true ((h i).mpr ⟨List.mem_range.mp hi, e.1⟩)] at e
    simp at e
  omega
/-! the two walks of a stop -/
theorem tf_set {l : List (Option Int)} {i : Nat} {v : Option Int} (h : i < l.length) (j : Nat) : tf (l.set i v) j = if j = i then v else tf l j := by
  unfold tf
  rw [List.getD_eq_getElem?_getD, List.getD_eq_getElem?_getD, List.getElem?_set]
  by_cases e : j = i
  · subst e; rw [if_pos rfl, if_pos rfl, if_pos h]; rfl
  · rw [if_neg (fun z => e z.symm), if_neg e]
theorem stop1 {a : Ai} {os : List Od} (z : Tz) : ∀ (rs : List Nat) (hm : List (Option Int)) (mn : Int) (kp : List Int), (∀ i ∈ rs, i < os.length) → hm.length = os.length → kp.length + rs.length ≤ 1000 →
    ∃ hm', (nI rs).foldlM (f_Tour_stop_b28 (mkT a os z)) (hm, mn, kp) = some (hm', mn - ((rs.filter fun i => decide ((oat os i).2.2.2 = z.b)).length : Int), kp ++ nI (rs.filter fun i => !decide ((oat os i).2.2.2 = z.b))) ∧ hm'.length = os.length ∧ ∀ j, tf hm' j = if j ∈ rs ∧ (oat os j).2.2.2 = z.b then some z.t else tf hm j
  | [], hm, mn, kp, _, hl, _ => ⟨hm, by show some _ = some _; simp [nI], hl, fun j => by rw [if_neg (fun w => nomatch w.1)]⟩
  | i :: rs, hm, mn, kp, hr, hl, hk => by
    have hi := hr i List.mem_cons_self
    have hr' : ∀ j ∈ rs, j < os.length := fun j hj => hr j (List.mem_cons_of_mem _ hj)
    rw [List.length_cons] at hk
    by_cases q : (oat os i).2.2.2 = z.b
    · have e : f_Tour_stop_b28 (mkT a os z) (hm, mn, kp) (i : Int) = some (hm.set i (some z.t), mn - 1, kp) := by
        unfold f_Tour_stop_b28 mkT
        dsimp only
        rw [bo (oat_at hi), decide_eq_true q, if_pos rfl, bo (setM_ok _ (by omega) (by omega)), letM_eq, Int.toNat_natCast]
      obtain ⟨hm', e1, e2, e3⟩ := stop1 z rs (hm.set i (some z.t)) (mn - 1) kp hr' (by rw [List.length_set]; exact hl) (by omega)
      refine ⟨hm', ?_, e2, fun j => ?_⟩
      · show List.foldlM _ (hm, mn, kp) ((i : Int) :: nI rs) = _
        rw [List.foldlM_cons]
        refine (bo e _).trans (e1.trans ?_)
        rw [List.filter_cons_of_pos (by exact decide_eq_true q), List.filter_cons_of_neg (by rw [decide_eq_true q]; exact Bool.false_ne_true), List.length_cons]
        congr 3; omega
      · rw [e3, tf_set (by omega)]
        by_cases w : j ∈ rs ∧ (oat os j).2.2.2 = z.b
        · rw [if_pos w, if_pos ⟨List.mem_cons_of_mem _ w.1, w.2⟩]
        · rw [if_neg w]
          by_cases v : j = i
          · rw [if_pos v, if_pos ⟨by rw [v]; exact List.mem_cons_self, by rw [v]; exact q⟩]
          · rw [if_neg v, if_neg (fun u => w ⟨(List.mem_cons.mp u.1).resolve_left v, u.2⟩)]
    · have e : f_Tour_stop_b28 (mkT a os z) (hm, mn, kp) (i : Int) = some (hm, mn, kp ++ [(i : Int)]) := by
        unfold f_Tour_stop_b28 mkT
        dsimp only
        rw [bo (oat_at hi), decide_eq_false q, if_neg (by decide), bo (appM_ok (by omega))]
      obtain ⟨hm', e1, e2, e3⟩ := stop1 z rs hm mn (kp ++ [(i : Int)]) hr' hl (by rw [List.length_append, List.length_singleton]; omega)
      refine ⟨hm', ?_, e2, fun j => ?_⟩
      · show List.foldlM _ (hm, mn, kp) ((i : Int) :: nI rs) = _
        rw [List.foldlM_cons]
        refine (bo e _).trans (e1.trans ?_)
        rw [List.filter_cons_of_neg (by rw [decide_eq_false q]; exact Bool.false_ne_true), List.filter_cons_of_pos (by rw [decide_eq_false q]; rfl), List.append_assoc]
        rfl
      · rw [e3]
        by_cases w : j ∈ rs ∧ (oat os j).2.2.2 = z.b
        · rw [if_pos w, if_pos ⟨List.mem_cons_of_mem _ w.1, w.2⟩]
        · rw [if_neg w, if_neg (fun u => ?_)]
          rcases List.mem_cons.mp u.1 with v | v
          · rw [v] at u; exact q u.2
          · exact w ⟨v, u.2⟩
theorem stop2 {a : Ai} {os : List Od} (z : Tz) (x1 : List (Option Int)) (x2 : Int) : ∀ (ts : List Nat) (tk : List (Option Int)), (∀ i ∈ ts, i < os.length) → tk.length = os.length →
    ∃ tk', (nI ts).foldlM (f_Tour_stop_b116 (mkT a os z) x1 x2) tk = some tk' ∧ tk'.length = os.length ∧ ∀ j, tf tk' j = if j ∈ ts then some z.t else tf tk j
  | [], tk, _, hl => ⟨tk, rfl, hl, fun j => by rw [if_neg (fun w => nomatch w)]⟩
  | i :: ts, tk, hr, hl => by
    have hi := hr i List.mem_cons_self
    have hr' : ∀ j ∈ ts, j < os.length := fun j hj => hr j (List.mem_cons_of_mem _ hj)
    have e : f_Tour_stop_b116 (mkT a os z) x1 x2 tk (i : Int) = some (tk.set i (some z.t)) := by
      unfold f_Tour_stop_b116 mkT
      dsimp only
      rw [bo (setM_ok _ (by omega) (by omega)), Int.toNat_natCast]
    obtain ⟨tk', e1, e2, e3⟩ := stop2 z x1 x2 ts (tk.set i (some z.t)) hr' (by rw [List.length_set]; exact hl)
    refine ⟨tk', ?_, e2, fun j => ?_⟩
    · show List.foldlM _ tk ((i : Int) :: nI ts) = _
      rw [List.foldlM_cons]
      exact (bo e _).trans e1
    · rw [e3, tf_set (by omega)]
      by_cases w : j ∈ ts
      · rw [if_pos w, if_pos (List.mem_cons_of_mem _ w)]
      · rw [if_neg w]
        by_cases v : j = i
        · rw [if_pos v, if_pos (by rw [v]; exact List.mem_cons_self)]
        · rw [if_neg v, if_neg (fun u => (List.mem_cons.mp u).elim v w)]
/-! what is kept from turn to turn -/
def hmv (y : Sy) (f : Nat → Option Int) (t : Int) (i : Nat) : Option Int := match f i with
  | some τ => if τ + y.dist i < t then some (τ + y.dist i) else none
  | none => none
structure TC (a : Ai) (os : List Od) (z : Tz) (c : Nat) : Prop where
  co : z.co = (c : Int)
  cn : c ≤ os.length
  ln : LnI os (tf z.tk) z.ln c
  qd : z.qd = (qn (tf z.tk) c : Int)
  tc : ∀ i, i < c → (oat os i).2.1 ≤ z.t
  nc : ∀ i, c ≤ i → i < os.length → tf z.tk i = none
structure TI0 (a : Ai) (os : List Od) (z : Tz) (rs : List Nat) : Prop where
  st : Stp a.1 z.b z.u z.t
  hi : Hi (ySy a os) (tf z.tk) z.t
  lt : z.tk.length = os.length
  lh : z.hm.length = os.length
  hm : ∀ i, i < os.length → tf z.hm i = hmv (ySy a os) (tf z.tk) z.t i
  mn : z.mn = ((List.range os.length).countP fun i => (tf z.hm i).isNone : Nat)
  ri : z.ri = nI rs
  nd : rs.Nodup
  rm : ∀ i, i ∈ rs ↔ i < os.length ∧ ∃ τ, tf z.tk i = some τ ∧ z.t ≤ τ + (ySy a os).dist i
theorem home_go {g : List Int} (h : Gp g) {o : Od} (ok : Bok g.length o) {τ : Int} (G : ph g τ = phs g o) : ∃ o', Bok g.length o' ∧ ph g (τ + dst g o) = phs g o' := by
  have T := tot h
  have e := dst_eq h ok
  have d := dst_bd h ok
  have n1 := h.n1
  obtain ⟨a0, a1, b0, b1, ne⟩ := ok
  have sa := spt_nn h (show o.2.2.1.toNat ≤ g.length by omega)
  have sb := spt_nn h (show o.2.2.2.toNat ≤ g.length by omega)
  have pa := phA h τ (show 0 ≤ dst g o by omega) (show dst g o ≤ 2 * g.sum by omega)
  rw [G] at pa
  unfold phs at pa
  by_cases q : o.2.2.1 < o.2.2.2
  · have := e.1 q
    rw [if_pos q, if_pos (by omega)] at pa
    rw [pa]
    by_cases r : o.2.2.2 < g.length
    · refine ⟨(o.1, 0, o.2.2.2, o.2.2.2 + 1), ⟨b0, b1, ?_, ?_, ?_⟩, ?_⟩
      · show 0 ≤ o.2.2.2 + 1; omega
      · show o.2.2.2 + 1 ≤ (g.length : Int); omega
      · show o.2.2.2 ≠ o.2.2.2 + 1; omega
      · unfold phs; rw [if_pos (show o.2.2.2 < o.2.2.2 + 1 by omega)]; show _ = spt g o.2.2.2.toNat; omega
    · refine ⟨(o.1, 0, o.2.2.2, o.2.2.2 - 1), ⟨b0, b1, ?_, ?_, ?_⟩, ?_⟩
      · show 0 ≤ o.2.2.2 - 1; omega
      · show o.2.2.2 - 1 ≤ (g.length : Int); omega
      · show o.2.2.2 ≠ o.2.2.2 - 1; omega
      · unfold phs; rw [if_neg (show ¬ o.2.2.2 < o.2.2.2 - 1 by omega)]
        have t1 : spt g o.2.2.2.toNat = g.sum := by rw [show o.2.2.2.toNat = g.length by omega]; exact spt_top g
        show _ = 2 * g.sum - spt g o.2.2.2.toNat
        omega
  · have := e.2 q
    rw [if_neg q] at pa
    by_cases r : 0 < o.2.2.2
    · have m := spt_mono h (show 0 < o.2.2.2.toNat by omega) (by omega)
      rw [spt_zero] at m
      rw [if_pos (by omega)] at pa
      rw [pa]
      refine ⟨(o.1, 0, o.2.2.2, o.2.2.2 - 1), ⟨b0, b1, ?_, ?_, ?_⟩, ?_⟩
      · show 0 ≤ o.2.2.2 - 1; omega
      · show o.2.2.2 - 1 ≤ (g.length : Int); omega
      · show o.2.2.2 ≠ o.2.2.2 - 1; omega
      · unfold phs; rw [if_neg (show ¬ o.2.2.2 < o.2.2.2 - 1 by omega)]; show _ = 2 * g.sum - spt g o.2.2.2.toNat; omega
    · have z : o.2.2.2 = 0 := by omega
      have z2 : spt g o.2.2.2.toNat = 0 := by rw [z]; exact spt_zero g
      rw [if_neg (by omega)] at pa
      rw [pa]
      refine ⟨(o.1, 0, 0, 1), ⟨?_, ?_, ?_, ?_, ?_⟩, ?_⟩
      · show (0 : Int) ≤ 0; omega
      · show (0 : Int) ≤ g.length; omega
      · show (0 : Int) ≤ 1; omega
      · show (1 : Int) ≤ g.length; omega
      · show (0 : Int) ≠ 1; omega
      · unfold phs; rw [if_pos (show (0 : Int) < 1 by omega)]; show _ = spt g (0 : Int).toNat; have : spt g (0 : Int).toNat = 0 := spt_zero g; omega
/-- the lists in order -/
theorem wl_so {os : List Od} {f : Nat → Option Int} {c : Nat} {k : Kb} : (wl os f c k).Pairwise (· < ·) := List.Pairwise.sublist List.filter_sublist List.pairwise_lt_range
theorem wl_mem {os : List Od} {f : Nat → Option Int} {c i : Nat} {k : Kb} : i ∈ wl os f c k ↔ i < c ∧ kyO (oat os i) = k ∧ f i = none := by
  unfold wl
  rw [List.mem_filter, List.mem_range, Bool.and_eq_true, decide_eq_true_iff, Option.isNone_iff_eq_none]
theorem pw_nd {l : List Nat} (h : l.Pairwise (· < ·)) : l.Nodup := h.imp fun h => Nat.ne_of_lt h
theorem take_lt {l : List Nat} (h : l.Pairwise (· < ·)) {r i j : Nat} (hi : i ∈ l) (hj : j ∈ l.take r) (lt : i < j) : i ∈ l.take r := by
  rw [← List.take_append_drop r l, List.pairwise_append] at h
  rw [← List.take_append_drop r l, List.mem_append] at hi
  rcases hi with hi | hi
  · exact hi
  · have := h.2.2 j hj i hi; omega
theorem filter_take {l : List Nat} (h : l.Nodup) (r : Nat) : (l.filter fun i => !decide (i ∈ l.take r)) = l.drop r := by
  have e := List.take_append_drop r l
  have nd := h
  rw [← e, List.nodup_append] at nd
  conv => lhs; rw [← e]
  rw [List.filter_append]
  have e1 : (l.take r).filter (fun i => !decide (i ∈ (l.take r ++ l.drop r).take r)) = [] := by
    rw [e, List.filter_eq_nil_iff]
    intro i hi
    rw [decide_eq_true hi]; simp
  have e2 : (l.drop r).filter (fun i => !decide (i ∈ (l.take r ++ l.drop r).take r)) = l.drop r := by
    rw [e, List.filter_eq_self]
    intro i hi
    rw [decide_eq_false (fun z => nd.2.2 i z i hi rfl)]; rfl
  rw [e1, e2]; rfl
end Bw

namespace Bw
open PySem L2 TL
theorem cutDr {α : Type} (xs : List α) (i : Int) (h0 : 0 ≤ i) : cutL xs (some i) none = xs.drop i.toNat := by
  have e : i = ((i.toNat : Nat) : Int) := by omega
  rw [e]
  unfold cutL
  rw [HT.sIx_nat, HT.sIx_none, Int.toNat_natCast, List.take_of_length_le (by rw [List.length_drop]; omega)]
  by_cases q : i.toNat ≤ xs.length
  · rw [Nat.min_eq_left q]
  · rw [Nat.min_eq_right (by omega), List.drop_eq_nil_of_le (Nat.le_refl _), List.drop_eq_nil_of_le (by omega)]
section
variable {a : Ai} {os : List Od} {z : Tz} {rs : List Nat} {c : Nat}
def kpt (os : List Od) (z : Tz) (rs : List Nat) : List Nat := rs.filter fun i => !decide ((oat os i).2.2.2 = z.b)
def ptt (os : List Od) (z : Tz) (rs : List Nat) : List Nat := rs.filter fun i => decide ((oat os i).2.2.2 = z.b)
def wlt (os : List Od) (z : Tz) (c : Nat) : List Nat := wl os (tf z.tk) c (z.b, z.u)
def tkt (a : Ai) (os : List Od) (z : Tz) (rs : List Nat) (c : Nat) : List Nat := (wlt os z c).take (a.2.toNat - (kpt os z rs).length)
theorem gpA (ha : AOk a) : Gp a.1 := ⟨ha.n1, ha.n15, ha.gm⟩
/-- a rider is put just at the end of its way -/
theorem TI0.to (ha : AOk a) (ho : OOk a.1.length os) (I : TI0 a os z rs) {i : Nat} (hi : i ∈ rs) : ∃ τ, tf z.tk i = some τ ∧ τ < z.t ∧ z.t ≤ τ + (ySy a os).dist i ∧ ((oat os i).2.2.2 = z.b ↔ z.t = τ + (ySy a os).dist i) := by
  obtain ⟨h1, τ, h2, h3⟩ := (I.rm i).mp hi
  obtain ⟨_, g, lt⟩ := I.hi.h1 i h1 τ h2
  exact ⟨τ, h2, lt, h3, ride_to (gpA ha) (oat_bok ho h1) g I.st (by omega) h3⟩
theorem TI0.len (I : TI0 a os z rs) (l60 : os.length ≤ 60) : rs.length ≤ 60 := by
  have := nd_len (m := List.range os.length) I.nd fun i hi => List.mem_range.mpr ((I.rm i).mp hi).1
  rw [List.length_range] at this; omega
theorem TI0.room (ha : AOk a) (ho : OOk a.1.length os) (I : TI0 a os z rs) : (kpt os z rs).length ≤ a.2.toNat := by
  have h3 := I.hi.h3 (z.t - 1) (by omega)
  refine Nat.le_trans ?_ h3
  have nd : (kpt os z rs).Nodup := I.nd.filter _
  unfold cnt
  rw [cnt_sub nd fun i hi => ?_]
  · omega
  · obtain ⟨h1, h2⟩ := List.mem_filter.mp hi
    obtain ⟨τ, e1, e2, e3, e4⟩ := I.to ha ho h1
    refine ⟨((I.rm i).mp h1).1, ?_⟩
    unfold rid
    rw [e1]
    have : ¬ z.t = τ + (ySy a os).dist i := fun w => by
      have := e4.mpr w
      rw [decide_eq_true this] at h2; cases h2
    exact decide_eq_true (by omega)
theorem stop_ok (ha : AOk a) (ho : OOk a.1.length os) (I : TI0 a os z rs) (C : TC a os z c) : ∃ tk hm, f_Tour_stop (mkT a os z) = some ((), mkT a os { z with tk := tk, hm := hm, mn := z.mn - ((ptt os z rs).length : Int), ri := nI (kpt os z rs ++ tkt a os z rs c), qd := z.qd - ((tkt a os z rs c).length : Int), ln := putL z.ln (z.b, z.u) (nI ((wlt os z c).drop (a.2.toNat - (kpt os z rs).length))) }) ∧
    tk.length = os.length ∧ hm.length = os.length ∧ (∀ j, tf tk j = if j ∈ tkt a os z rs c then some z.t else tf z.tk j) ∧ ∀ j, tf hm j = if j ∈ rs ∧ (oat os j).2.2.2 = z.b then some z.t else tf z.hm j := by
  have l60 := ho.l60
  have rl := I.len l60
  have mo := ha.mo
  have kr := I.room ha ho
  have wn := wl_len (os := os) (f := tf z.tk) (c := c) (k := (z.b, z.u))
  have cn := C.cn
  obtain ⟨hm, e1, e2, e3⟩ := stop1 (a := a) (os := os) z rs z.hm z.mn [] (fun i hi => ((I.rm i).mp hi).1) I.lh (by rw [List.length_nil]; omega)
  have hts : ∀ i ∈ tkt a os z rs c, i < os.length := fun i hi => by
    have := (wl_mem.mp (List.mem_of_mem_take hi)).1; omega
  obtain ⟨tk, k1, k2, k3⟩ := stop2 (a := a) (os := os) z hm (z.mn - ((ptt os z rs).length : Int)) (tkt a os z rs c) z.tk hts I.lt
  refine ⟨tk, hm, ?_, k2, e2, k3, e3⟩
  have ek : ([] : List Int) ++ nI (rs.filter fun i => !decide ((oat os i).2.2.2 = z.b)) = nI (kpt os z rs) := rfl
  have er : a.2 - ((nI (kpt os z rs)).length : Int) = ((a.2.toNat - (kpt os z rs).length : Nat) : Int) := by rw [nI_len]; omega
  have ct : cutL (nI (wlt os z c)) none (some ((a.2.toNat - (kpt os z rs).length : Nat) : Int)) = nI (tkt a os z rs c) := by
    rw [cut_take _ _ (by omega), Int.toNat_natCast]; unfold nI tkt; rw [List.map_take]
  have cd : cutL (nI (wlt os z c)) (some ((a.2.toNat - (kpt os z rs).length : Nat) : Int)) none = nI ((wlt os z c).drop (a.2.toNat - (kpt os z rs).length)) := by
    rw [cutDr _ _ (by omega), Int.toNat_natCast]; unfold nI; rw [List.map_drop]
  have kl := C.ln.ky.len
  have eg : getLM z.ln (z.b, z.u) = some (nI (wlt os z c)) := by unfold getLM; rw [if_pos (by omega), C.ln.gt]; rfl
  have tl : (tkt a os z rs c).length ≤ 60 := by unfold tkt; rw [List.length_take]; unfold wlt; omega
  have kl2 : (kpt os z rs).length ≤ 60 := Nat.le_trans (List.length_filter_le _ _) rl
  rw [ek, ← I.ri] at e1
  unfold f_Tour_stop mkT
  dsimp only
  unfold mkT at e1 k1
  rw [letM_eq, bo e1]
  dsimp only
  rw [bo eg, letM_eq, er, ct]
  have k1' := k1
  unfold ptt at k1'
  rw [bo k1', bo (catM_ok (by rw [nI_len, nI_len]; omega)), letM_eq, cd]
  have ep : putLM z.ln (z.b, z.u) (nI ((wlt os z c).drop (a.2.toNat - (kpt os z rs).length))) = some (putL z.ln (z.b, z.u) (nI ((wlt os z c).drop (a.2.toNat - (kpt os z rs).length)))) := by unfold putLM; rw [if_pos (by omega)]
  rw [bo ep, nI_len]
  unfold nI ptt
  rw [List.map_append]
theorem leave_ok (ha : AOk a) (S : Stp a.1 z.b z.u z.t) : ∃ x, f_Tour_leave (mkT a os z) = some ((), mkT a os { z with t := z.t + x, b := nb z.b z.u, u := nu a.1 z.b z.u }) ∧ 1 ≤ x ∧ x ≤ 1000 ∧ Stp a.1 (nb z.b z.u) (nu a.1 z.b z.u) (z.t + x) ∧ ∀ o, Bok a.1.length o → ∀ s, z.t < s → s < z.t + x → ph a.1 s ≠ phs a.1 o := by
  obtain ⟨x, e, x1, x2, S2, g⟩ := stp_next (gpA ha) S
  refine ⟨x, ?_, x1, x2, S2, g⟩
  unfold f_Tour_leave mkT
  dsimp only
  cases hu : z.u with
  | true =>
    rw [hu, if_pos rfl] at e
    rw [if_pos rfl, bo e, letM_eq, letM_eq, letM_eq]; rfl
  | false =>
    rw [hu, if_neg (by decide)] at e
    rw [if_neg (by decide), letM_eq, bo e, letM_eq, letM_eq]; rfl
end
end Bw

namespace Bw
open PySem L2 TL
theorem ltGe (a b : Int) : a < b ∨ b ≤ a := by omega
section
variable {a : Ai} {os : List Od} {z : Tz} {rs : List Nat} {c : Nat}
/-- what a turn does, from the orders' coming on -/
structure Trn (a : Ai) (os : List Od) (z : Tz) (rs : List Nat) (c : Nat) (z' : Tz) : Prop where
  ti : TI0 a os z' (kpt os z rs ++ tkt a os z rs c)
  tc : TC a os z' c
  t : z.t < z'.t
  mn : z'.mn = z.mn - ((ptt os z rs).length : Int)
  tk : ∀ i, tf z'.tk i = if i ∈ tkt a os z rs c then some z.t else tf z.tk i
  go : ∀ o, Bok a.1.length o → ∀ s, z.t < s → s < z'.t → ph a.1 s ≠ phs a.1 o
theorem ySy_dist (ha : AOk a) (ho : OOk a.1.length os) {i : Nat} (hi : i < os.length) : 1 ≤ (ySy a os).dist i ∧ (ySy a os).dist i ≤ a.1.sum := dst_bd (gpA ha) (oat_bok ho hi)
theorem turn_ok (ha : AOk a) (ho : OOk a.1.length os) (I : TI0 a os z rs) (C : TC a os z c) (hc : ∀ i, c ≤ i → i < os.length → z.t < (oat os i).2.1) : ∃ z', ((f_Tour_stop (mkT a os z)).bind fun r => f_Tour_leave r.2) = some ((), mkT a os z') ∧ Trn a os z rs c z' := by
  have l60 := ho.l60
  have G := gpA ha
  obtain ⟨tk, hm, e1, lt, lh, ft, fh⟩ := stop_ok ha ho I C
  obtain ⟨x, e2, x1, x2, S2, ng⟩ := leave_ok (os := os) (z := { z with tk := tk, hm := hm, mn := z.mn - ((ptt os z rs).length : Int), ri := nI (kpt os z rs ++ tkt a os z rs c), qd := z.qd - ((tkt a os z rs c).length : Int), ln := putL z.ln (z.b, z.u) (nI ((wlt os z c).drop (a.2.toNat - (kpt os z rs).length))) }) ha I.st
  refine ⟨_, (bo e1 _).trans e2, ?_⟩
  dsimp only at S2 ng
  have kr := I.room ha ho
  -- the line
  have wso : (wlt os z c).Pairwise (· < ·) := wl_so
  have wmem : ∀ i, i ∈ wlt os z c ↔ i < c ∧ kyO (oat os i) = (z.b, z.u) ∧ tf z.tk i = none := fun i => wl_mem
  have tsub : ∀ i, i ∈ tkt a os z rs c → i ∈ wlt os z c := fun i hi => List.mem_of_mem_take hi
  have cn := C.cn
  have tsn : ∀ i, i ∈ tkt a os z rs c → i < os.length ∧ tf z.tk i = none ∧ (oat os i).2.1 ≤ z.t ∧ ph a.1 z.t = phs a.1 (oat os i) := fun i hi => by
    obtain ⟨h1, h2, h3⟩ := (wmem i).mp (tsub i hi)
    refine ⟨by omega, h3, C.tc i h1, (stp_go G I.st (oat_bok ho (by omega))).mpr ?_⟩
    unfold kyO at h2; injection h2 with h4 h5; exact ⟨h4, h5⟩
  have tnd : (tkt a os z rs c).Nodup := (pw_nd wso).sublist (List.take_sublist _ _)
  -- no home between the stops
  have nh : ∀ i, i < os.length → ∀ τ, ph a.1 τ = phs a.1 (oat os i) → z.t < τ + (ySy a os).dist i → z.t + x ≤ τ + (ySy a os).dist i := fun i hi τ g lt => by
    obtain ⟨o', b', g'⟩ := home_go G (oat_bok ho hi) g
    rcases ltGe (τ + (ySy a os).dist i) (z.t + x) with q | q
    · exact absurd g' (ng o' b' _ lt q)
    · exact q
  have rm' : ∀ i, i ∈ kpt os z rs ++ tkt a os z rs c ↔ i < os.length ∧ ∃ τ, tf tk i = some τ ∧ z.t + x ≤ τ + (ySy a os).dist i := fun i => by
    rw [List.mem_append]
    constructor
    · rintro (hi | hi)
      · obtain ⟨h1, h2⟩ := List.mem_filter.mp hi
        obtain ⟨τ, k1, k2, k3, k4⟩ := I.to ha ho h1
        have hin := ((I.rm i).mp h1).1
        refine ⟨hin, τ, ?_, nh i hin τ (I.hi.h1 i hin τ k1).2.1 ?_⟩
        · rw [ft, if_neg (fun w => by rw [(tsn i w).2.1] at k1; cases k1)]; exact k1
        · have : ¬ z.t = τ + (ySy a os).dist i := fun w => by rw [decide_eq_true (k4.mpr w)] at h2; cases h2
          omega
      · obtain ⟨h1, h2, h3, h4⟩ := tsn i hi
        refine ⟨h1, z.t, by rw [ft, if_pos hi], nh i h1 z.t h4 ?_⟩
        have := ySy_dist ha ho h1; omega
    · rintro ⟨hi, τ, h1, h2⟩
      rw [ft] at h1
      by_cases w : i ∈ tkt a os z rs c
      · exact .inr w
      · rw [if_neg w] at h1
        have hr : i ∈ rs := (I.rm i).mpr ⟨hi, τ, h1, by omega⟩
        obtain ⟨τ', k1, k2, k3, k4⟩ := I.to ha ho hr
        rw [h1] at k1; cases k1
        refine .inl (List.mem_filter.mpr ⟨hr, ?_⟩)
        rw [decide_eq_false (fun v => by have := k4.mp v; omega)]; rfl
  have nd' : (kpt os z rs ++ tkt a os z rs c).Nodup := by
    rw [List.nodup_append]
    refine ⟨I.nd.filter _, tnd, fun i hi j hj e => ?_⟩
    subst e
    obtain ⟨_, τ, k1, _⟩ := (I.rm i).mp (List.mem_filter.mp hi).1
    rw [(tsn i hj).2.1] at k1; cases k1
  have cnt' : cnt (ySy a os) (tf tk) z.t = (kpt os z rs).length + (tkt a os z rs c).length := by
    unfold cnt
    rw [← List.length_append]
    refine cnt_list nd' fun i => ?_
    rw [rm' i]
    show i < os.length ∧ _ ↔ i < os.length ∧ _
    unfold rid
    constructor
    · rintro ⟨h0, τ, h1, h2⟩
      refine ⟨h0, ?_⟩
      rw [h1]
      have : τ ≤ z.t := by
        rw [ft] at h1
        by_cases w : i ∈ tkt a os z rs c
        · rw [if_pos w] at h1; have := Option.some.inj h1; omega
        · rw [if_neg w] at h1; have := (I.hi.h1 i h0 τ h1).2.2; omega
      exact decide_eq_true (by omega)
    · rintro ⟨h0, h1⟩
      cases h2 : tf tk i with
      | none => rw [h2] at h1; cases h1
      | some τ =>
        rw [h2] at h1
        have h1 := of_decide_eq_true h1
        refine ⟨h0, τ, rfl, nh i h0 τ ?_ h1.2⟩
        rw [ft] at h2
        by_cases w : i ∈ tkt a os z rs c
        · rw [if_pos w] at h2; rw [← Option.some.inj h2]; exact (tsn i w).2.2.2
        · rw [if_neg w] at h2; exact (I.hi.h1 i h0 τ h2).2.1
  have hi' : Hi (ySy a os) (tf tk) (z.t + x) := by
    refine I.hi.step (tkn := fun i => decide (i ∈ tkt a os z rs c)) (by omega) (fun i _ => ?_) (fun i hi hk => ?_) ?_ (fun i hi h1 h2 h3 h4 => ?_) (fun i hi s s1 s2 => ng _ (oat_bok ho hi) s s1 s2)
    · rw [ft]
      by_cases w : i ∈ tkt a os z rs c
      · rw [if_pos w, if_pos (decide_eq_true w)]
      · rw [if_neg w, if_neg (by rw [decide_eq_false w]; exact Bool.false_ne_true)]
    · have := tsn i (of_decide_eq_true hk); exact ⟨this.2.1, this.2.2.1, this.2.2.2⟩
    · rw [cnt']
      show _ ≤ a.2.toNat
      have : (tkt a os z rs c).length ≤ a.2.toNat - (kpt os z rs).length := by unfold tkt; rw [List.length_take]; exact Nat.min_le_left _ _
      omega
    · have nm : i ∉ tkt a os z rs c := of_decide_eq_false h2
      have ic : i < c := by
        rcases Nat.lt_or_ge i c with q | q
        · exact q
        · have := hc i q hi; have h3 : (oat os i).2.1 ≤ z.t := h3; omega
      have k := (stp_go G I.st (oat_bok ho hi)).mp h4
      have im : i ∈ wlt os z c := (wmem i).mpr ⟨ic, by unfold kyO; rw [k.1, k.2], h1⟩
      have long : a.2.toNat - (kpt os z rs).length < (wlt os z c).length := by
        rcases Nat.lt_or_ge (a.2.toNat - (kpt os z rs).length) (wlt os z c).length with q | q
        · exact q
        · exact absurd (by unfold tkt; rw [List.take_of_length_le q]; exact im) nm
      refine ⟨?_, fun j hj _ => decide_eq_false fun w => nm (take_lt wso im w hj)⟩
      rw [cnt']
      show _ = a.2.toNat
      have : (tkt a os z rs c).length = a.2.toNat - (kpt os z rs).length := by unfold tkt; rw [List.length_take]; omega
      omega
  have st := I.st
  refine ⟨⟨S2, hi', lt, lh, fun i hi => ?_, ?_, rfl, nd', rm'⟩, ⟨C.co, C.cn, ⟨C.ln.ky.put _ ?_ ?_, fun k => ?_⟩, ?_, fun i hi => ?_, fun i h1 h2 => ?_⟩, ?_, rfl, ft, ng⟩
  · -- homes
    show tf hm i = hmv (ySy a os) (tf tk) (z.t + x) i
    rw [fh]
    unfold hmv
    by_cases w : i ∈ tkt a os z rs c
    · have k := tsn i w
      rw [ft, if_pos w, if_neg (fun v => by
        obtain ⟨_, τ, k1, _⟩ := (I.rm i).mp v.1
        rw [k.2.1] at k1; cases k1), I.hm i hi]
      unfold hmv
      rw [k.2.1]
      have := nh i hi z.t k.2.2.2 (by have := ySy_dist ha ho hi; omega)
      dsimp only
      rw [if_neg (by omega)]
    · rw [ft, if_neg w, I.hm i hi]
      unfold hmv
      cases e : tf z.tk i with
      | none =>
        dsimp only
        rw [if_neg (fun v => by
          obtain ⟨_, τ, k1, _⟩ := (I.rm i).mp v.1
          rw [e] at k1; cases k1)]
      | some τ =>
        dsimp only
        by_cases r : i ∈ rs
        · obtain ⟨τ', k1, k2, k3, k4⟩ := I.to ha ho r
          rw [e] at k1; cases k1
          by_cases v : (oat os i).2.2.2 = z.b
          · have := k4.mp v
            rw [if_pos ⟨r, v⟩, if_pos (by omega), this]
          · have n4 : ¬ z.t = τ + (ySy a os).dist i := fun u => v (k4.mpr u)
            have := nh i hi τ (I.hi.h1 i hi τ e).2.1 (by omega)
            rw [if_neg (fun u => v u.2), if_neg (by omega), if_neg (by omega)]
        · have : τ + (ySy a os).dist i < z.t := by
            rcases ltGe (τ + (ySy a os).dist i) z.t with q | q
            · exact q
            · exact absurd ((I.rm i).mpr ⟨hi, τ, e, q⟩) r
          rw [if_neg (fun u => r u.1), if_pos this, if_pos (by omega)]
  · -- how many are left
    show z.mn - ((ptt os z rs).length : Int) = _
    rw [I.mn]
    have pn : (ptt os z rs).Nodup := I.nd.filter _
    have := cnt_sub (n := os.length) (p := fun i => (tf z.hm i).isNone) pn fun i hi => by
      obtain ⟨h1, h2⟩ := List.mem_filter.mp hi
      obtain ⟨τ, k1, k2, k3, k4⟩ := I.to ha ho h1
      have hin := ((I.rm i).mp h1).1
      refine ⟨hin, ?_⟩
      rw [I.hm i hin]
      unfold hmv
      rw [k1]
      show (if _ then _ else _ : Option Int).isNone = true
      rw [if_neg (by omega)]; rfl
    rw [this]
    have e : (List.range os.length).countP (fun i => (tf z.hm i).isNone && !decide (i ∈ ptt os z rs)) = (List.range os.length).countP (fun i => (tf hm i).isNone) := by
      refine countP_eq fun i _ => ?_
      rw [fh]
      by_cases w : i ∈ rs ∧ (oat os i).2.2.2 = z.b
      · rw [if_pos w, decide_eq_true (show i ∈ ptt os z rs from List.mem_filter.mpr ⟨w.1, decide_eq_true w.2⟩)]; simp
      · rw [if_neg w, decide_eq_false (show ¬ i ∈ ptt os z rs from fun v => w ⟨(List.mem_filter.mp v).1, of_decide_eq_true (List.mem_filter.mp v).2⟩)]; simp
    rw [e]
    show _ = (((List.range os.length).countP fun i => (tf hm i).isNone : Nat) : Int)
    omega
  · exact (stp_pos G I.st).1
  · have := (stp_pos G I.st).2.1; have := ha.n15; show z.b ≤ 15; omega
  · rw [getL_put, C.ln.gt]
    by_cases q : k = (z.b, z.u)
    · rw [if_pos q, q]
      congr 1
      have e : wl os (tf tk) c (z.b, z.u) = (wlt os z c).filter fun i => !decide (i ∈ tkt a os z rs c) := by
        unfold wlt wl
        rw [List.filter_filter]
        refine List.filter_congr fun i _ => ?_
        rw [ft]
        by_cases w : i ∈ tkt a os z rs c
        · rw [if_pos w, decide_eq_true w]; simp
        · rw [if_neg w, decide_eq_false w]; simp
      rw [e]
      exact (filter_take (pw_nd wso) _).symm
    · rw [if_neg q]
      congr 1
      unfold wl
      refine List.filter_congr fun i hi => ?_
      rw [ft]
      by_cases w : i ∈ tkt a os z rs c
      · have := ((wmem i).mp (tsub i w)).2.1
        rw [decide_eq_false (fun v => q (v.symm.trans this))]; rfl
      · rw [if_neg w]
  · show z.qd - ((tkt a os z rs c).length : Int) = _
    rw [C.qd]
    have := cnt_sub (n := c) (p := fun i => (tf z.tk i).isNone) tnd fun i hi => by
      have := (wmem i).mp (tsub i hi)
      refine ⟨this.1, ?_⟩
      rw [this.2.2]; rfl
    unfold qn
    rw [this]
    have e : (List.range c).countP (fun i => (tf z.tk i).isNone && !decide (i ∈ tkt a os z rs c)) = (List.range c).countP (fun i => (tf tk i).isNone) := by
      refine countP_eq fun i _ => ?_
      rw [ft]
      by_cases w : i ∈ tkt a os z rs c
      · rw [if_pos w, decide_eq_true w]; simp
      · rw [if_neg w, decide_eq_false w]; simp
    rw [e]
    show _ = (((List.range c).countP fun i => (tf tk i).isNone : Nat) : Int)
    omega
  · show (oat os i).2.1 ≤ z.t + x
    have := C.tc i hi; omega
  · show tf tk i = none
    rw [ft, if_neg (fun w => by have := ((wmem i).mp (tsub i w)).1; omega)]
    exact C.nc i h1 h2
  · show z.t < z.t + x; omega
end
end Bw

namespace Bw
open PySem L2 TL
section
variable {a : Ai} {os : List Od} {z : Tz} {rs : List Nat} {c : Nat}
theorem qn_zero {f : Nat → Option Int} {c i : Nat} (h : qn f c = 0) (hi : i < c) : ∃ τ, f i = some τ := by
  unfold qn at h
  rw [List.countP_eq_zero] at h
  have := h i (List.mem_range.mpr hi)
  cases e : f i with
  | none => rw [e] at this; exact absurd rfl this
  | some τ => exact ⟨τ, rfl⟩
theorem skip_ok (ha : AOk a) (ho : OOk a.1.length os) (I : TI0 a os z rs) (C : TC a os z c) (hm : 0 < z.mn) : ∃ t', f_Tour_skip (mkT a os z) = some ((), mkT a os { z with t := t' }) ∧ TI0 a os { z with t := t' } rs ∧ TC a os { z with t := t' } c ∧ z.t ≤ t' ∧ ((z.qd ≠ 0 ∨ rs ≠ []) → t' = z.t) ∧ (z.qd = 0 → rs = [] → c < os.length ∧ (oat os c).2.1 - t' < 2 * a.1.sum) := by
  have T := tot (gpA ha)
  by_cases q : z.qd = 0 ∧ rs = []
  · obtain ⟨q1, q2⟩ := q
    have qz : qn (tf z.tk) c = 0 := by have := C.qd; omega
    have home : ∀ i, i < os.length → ∀ τ, tf z.tk i = some τ → τ + (ySy a os).dist i < z.t := fun i hi τ e => by
      rcases ltGe (τ + (ySy a os).dist i) z.t with w | w
      · exact w
      · have := (I.rm i).mpr ⟨hi, τ, e, w⟩; rw [q2] at this; cases this
    have cl : c < os.length := by
      rcases Nat.lt_or_ge c os.length with w | w
      · exact w
      · exfalso
        have : (List.range os.length).countP (fun i => (tf z.hm i).isNone) = 0 := by
          rw [List.countP_eq_zero]
          intro i hi
          have hi := List.mem_range.mp hi
          obtain ⟨τ, e⟩ := qn_zero qz (show i < c by omega)
          rw [I.hm i hi]
          unfold hmv
          rw [e]
          dsimp only
          rw [if_pos (home i hi τ e)]
          simp
        have := I.mn
        omega
    have tk := (ho.tk _ (oat_mem cl))
    -- how far it is gone
    have T2 : 0 < 2 * a.1.sum := by omega
    refine ⟨z.t + maxI 0 ((oat os c).2.1 - z.t) / (2 * a.1.sum) * (2 * a.1.sum), ?_, ?_⟩
    · unfold f_Tour_skip mkT
      dsimp only
      rw [q1, I.ri, q2]
      rw [show (decide ((0 : Int) = 0) && decide (nI [] = ([] : List Int))) = true from rfl, if_pos rfl, C.co, bo (oat_at cl), letM_eq, bo (show f_round_of a = some (2 * a.1.sum) from rfl), bo (fdivM_ok T2 (by omega)), bo (show mulM (maxI 0 ((oat os c).2.1 - z.t) / (2 * a.1.sum)) (2 * a.1.sum) = some (maxI 0 ((oat os c).2.1 - z.t) / (2 * a.1.sum) * (2 * a.1.sum)) from ?_), letM_eq]
      unfold mulM
      rw [if_pos (.inr ⟨by omega, by omega⟩)]
    · generalize hx : maxI 0 ((oat os c).2.1 - z.t) = x
      have x0 : 0 ≤ x ∧ (x = 0 ∨ x = (oat os c).2.1 - z.t) ∧ (oat os c).2.1 - z.t ≤ x := by rw [← hx]; unfold maxI; split <;> omega
      have dm := Int.mul_ediv_add_emod x (2 * a.1.sum)
      have mn := Int.emod_nonneg x (show (2 * a.1.sum) ≠ 0 by omega)
      have ml := Int.emod_lt_of_pos x T2
      have dn : 0 ≤ x / (2 * a.1.sum) := Int.ediv_nonneg x0.1 (by omega)
      have e0 : x / (2 * a.1.sum) * (2 * a.1.sum) = x - x % (2 * a.1.sum) := by rw [Int.mul_comm]; omega
      have nn : 0 ≤ x / (2 * a.1.sum) * (2 * a.1.sum) := Int.mul_nonneg dn (by omega)
      generalize hk : x / (2 * a.1.sum) * (2 * a.1.sum) = k at *
      have ph' : ph a.1 (z.t + k) = ph a.1 z.t := by rw [← hk]; exact phR _ _
      refine ⟨⟨?_, ?_, I.lt, I.lh, fun i hi => ?_, I.mn, I.ri, I.nd, fun i => ?_⟩, ⟨C.co, C.cn, C.ln, C.qd, fun i hi => ?_, C.nc⟩, by omega, fun w => ?_, fun _ _ => ⟨cl, by omega⟩⟩
      · show Stp a.1 z.b z.u (z.t + k)
        have S := I.st
        revert S
        generalize z.b = b
        generalize z.u = u
        intro S
        cases S with
        | up h0 h1 h2 => exact .up h0 h1 (by rw [ph']; exact h2)
        | dn h0 h1 h2 => exact .dn h0 h1 (by rw [ph']; exact h2)
      · show Hi (ySy a os) (tf z.tk) (z.t + k)
        by_cases w : k = 0
        · rw [w, Int.add_zero]; exact I.hi
        · refine I.hi.skip (by omega) (fun i hi τ e => ?_) fun i hi e => ?_
          · have := home i hi τ e; omega
          · have ci : c ≤ i := by
              rcases Nat.lt_or_ge i c with v | v
              · obtain ⟨τ, e2⟩ := qn_zero qz v; rw [e] at e2; cases e2
              · exact v
            have := oat_so ho ci hi
            show z.t + k ≤ (oat os i).2.1
            rcases x0.2.1 with v | v
            · exfalso
              apply w
              rw [← hk, v]; simp
            · omega
      · show tf z.hm i = hmv (ySy a os) (tf z.tk) (z.t + k) i
        rw [I.hm i hi]
        unfold hmv
        cases e : tf z.tk i with
        | none => rfl
        | some τ => have := home i hi τ e; dsimp only; rw [if_pos this, if_pos (by omega)]
      · rw [I.rm i]
        refine and_congr_right fun hi => ⟨fun ⟨τ, e, h⟩ => ?_, fun ⟨τ, e, h⟩ => ?_⟩
        · have := home i hi τ e; omega
        · have h : z.t + k ≤ τ + (ySy a os).dist i := h
          have := home i hi τ e; omega
      · have := C.tc i hi
        show (oat os i).2.1 ≤ z.t + k
        omega
      · rcases w with w | w
        · exact absurd q1 w
        · exact absurd q2 w
  · refine ⟨z.t, ?_, I, C, Int.le_refl _, fun _ => rfl, fun h1 h2 => absurd ⟨h1, h2⟩ q⟩
    unfold f_Tour_skip mkT
    dsimp only
    rw [if_neg]
    intro w
    rw [Bool.and_eq_true] at w
    have w1 := of_decide_eq_true w.1
    have w2 := of_decide_eq_true w.2
    rw [I.ri] at w2
    refine q ⟨w1, ?_⟩
    cases rs with
    | nil => rfl
    | cons i rs => cases w2
def cdT (s : T_Tour) : Option Bool := some (decide ((0 : Int) < s.2.2.2.2.1))
def bdT {R : Type} (s : T_Tour) : Option (Fl T_Tour R) := (f_Tour_skip s).bind fun r1 => (f_Tour_lie_down r1.2).bind fun r2 => (f_Tour_stop r2.2).bind fun r3 => (f_Tour_leave r3.2).bind fun r4 => some (Fl.nx r4.2)
/-- a whole turn -/
structure Bdy (a : Ai) (os : List Od) (z : Tz) (rs : List Nat) (c : Nat) (z' : Tz) (t1 : Int) (c' : Nat) (rs' : List Nat) : Prop where
  ti : TI0 a os z' rs'
  tc : TC a os z' c'
  t0 : z.t ≤ t1
  tl : t1 < z'.t
  st : (z.qd ≠ 0 ∨ rs ≠ []) → t1 = z.t
  sk : z.qd = 0 → rs = [] → c < os.length ∧ (oat os c).2.1 - t1 < 2 * a.1.sum
  mn : z'.mn ≤ z.mn
  mx : ∀ i ∈ rs, ∀ τ, tf z.tk i = some τ → τ + (ySy a os).dist i = t1 → z'.mn < z.mn
  rd : ∀ i ∈ rs, ∀ τ, tf z.tk i = some τ → τ + (ySy a os).dist i ≠ t1 → i ∈ rs'
  tk : ∀ i τ, tf z.tk i = some τ → tf z'.tk i = some τ
  wt : ∀ i, i < os.length → tf z.tk i = none → (oat os i).2.1 ≤ t1 → (ySy a os).go i t1 → rs' ≠ []
  wn : ∀ i, i < c' → tf z.tk i = none → tf z'.tk i = none ∨ rs' ≠ []
  cc : c ≤ c'
  cg : ∀ i, c' ≤ i → i < os.length → t1 < (oat os i).2.1
  go : ∀ o, Bok a.1.length o → ∀ s, t1 < s → s < z'.t → ph a.1 s ≠ phs a.1 o
theorem body_ok (ha : AOk a) (ho : OOk a.1.length os) (I : TI0 a os z rs) (C : TC a os z c) (hm : 0 < z.mn) : ∃ z' t1 c' rs', (∀ R : Type, (bdT (mkT a os z) : Option (Fl T_Tour R)) = some (.nx (mkT a os z'))) ∧ Bdy a os z rs c z' t1 c' rs' := by
  obtain ⟨t1, e1, I1, C1, h1, h2, h3⟩ := skip_ok ha ho I C hm
  obtain ⟨c', ln', e2, k1, k2, k3, k4, k5⟩ := lie_ok ha ho { z with t := t1 } C1.cn C1.co C1.qd C1.ln C1.tc C1.nc
  have I2 : TI0 a os { z with t := t1, co := (c' : Int), ln := ln', qd := (qn (tf z.tk) c' : Int) } rs := ⟨I1.st, I1.hi, I1.lt, I1.lh, I1.hm, I1.mn, I1.ri, I1.nd, I1.rm⟩
  have C2 : TC a os { z with t := t1, co := (c' : Int), ln := ln', qd := (qn (tf z.tk) c' : Int) } c' := ⟨rfl, k2, k3, rfl, k4, fun i hi => C1.nc i (by omega)⟩
  obtain ⟨z', e3, R⟩ := turn_ok ha ho I2 C2 k5
  refine ⟨z', t1, c', _, ?_, ⟨R.ti, R.tc, h1, R.t, h2, h3, ?_, fun i hi τ e w => ?_, fun i hi τ e w => ?_, fun i τ e => ?_, fun i hi e w g => ?_, fun i hi e => ?_, k1, k5, R.go⟩⟩
  · intro R
    unfold bdT
    rw [bo e1, bo e2]
    obtain ⟨r, e4, e5⟩ := bnd e3
    rw [bo e4, bo e5]
  · have := R.mn; have e : ({ z with t := t1, co := (c' : Int), ln := ln', qd := (qn (tf z.tk) c' : Int) } : Tz).mn = z.mn := rfl; omega
  · have := R.mn
    have em : ({ z with t := t1, co := (c' : Int), ln := ln', qd := (qn (tf z.tk) c' : Int) } : Tz).mn = z.mn := rfl
    have : 0 < (ptt os { z with t := t1, co := (c' : Int), ln := ln', qd := (qn (tf z.tk) c' : Int) } rs).length := by
      apply List.length_pos_of_mem (a := i)
      refine List.mem_filter.mpr ⟨hi, decide_eq_true ?_⟩
      obtain ⟨τ', x1, x2, x3, x4⟩ := I2.to ha ho hi
      have x1 : tf z.tk i = some τ' := x1
      have : τ' = τ := Option.some.inj (x1.symm.trans e)
      subst this
      exact x4.mpr w.symm
    omega
  · refine List.mem_append_left _ (List.mem_filter.mpr ⟨hi, ?_⟩)
    obtain ⟨τ', x1, x2, x3, x4⟩ := I2.to ha ho hi
    have x1 : tf z.tk i = some τ' := x1
    rw [e] at x1; cases x1
    rw [decide_eq_false (fun v => w (x4.mp v).symm)]; rfl
  · rw [R.tk, if_neg (fun v => by
      have := (wl_mem.mp (List.mem_of_mem_take v)).2.2
      have this : tf z.tk i = none := this
      rw [e] at this; cases this)]
    exact e
  · have ic : i < c' := by
      rcases Nat.lt_or_ge i c' with v | v
      · exact v
      · have := k5 i v hi; have w : (oat os i).2.1 ≤ t1 := w; have this : t1 < (oat os i).2.1 := this; omega
    have k := (stp_go (gpA ha) I2.st (oat_bok ho hi)).mp g
    have im : i ∈ wlt os { z with t := t1, co := (c' : Int), ln := ln', qd := (qn (tf z.tk) c' : Int) } c' := wl_mem.mpr ⟨ic, by unfold kyO; rw [k.1, k.2], e⟩
    intro nil
    have len := congrArg List.length nil
    rw [List.length_append, List.length_nil] at len
    unfold tkt at len
    rw [List.length_take] at len
    have := List.length_pos_of_mem im
    have := ha.mo
    omega
  · rw [R.tk]
    by_cases v : i ∈ tkt a os { z with t := t1, co := (c' : Int), ln := ln', qd := (qn (tf z.tk) c' : Int) } rs c'
    · right; intro nil
      have : i ∈ ([] : List Nat) := nil ▸ List.mem_append_right _ v
      cases this
    · rw [if_neg v]; exact .inl e
end
end Bw

namespace Bw
open PySem L2 TL
section
variable {a : Ai} {os : List Od}
/-- k turns lead from z to z' -/
def Rn (a : Ai) (os : List Od) (k : Nat) (z z' : Tz) : Prop := ∀ (R : Type) (m : Nat), whileF cdT (bdT (R := R)) (k + m) (mkT a os z) = whileF cdT (bdT (R := R)) m (mkT a os z')
theorem Rn.one {z z' : Tz} (h : 0 < z.mn) (e : ∀ R : Type, (bdT (mkT a os z) : Option (Fl T_Tour R)) = some (.nx (mkT a os z'))) : Rn a os 1 z z' := fun R m => by
  rw [Nat.add_comm]
  show whileF _ _ (m + 1) _ = _
  conv => lhs; unfold whileF
  have e2 : cdT (mkT a os z) = some true := by unfold cdT mkT; dsimp only; rw [decide_eq_true h]
  rw [bo e2, if_pos rfl, bo (e R)]
theorem Rn.tr {k l : Nat} {z z1 z2 : Tz} (h : Rn a os k z z1) (h2 : Rn a os l z1 z2) : Rn a os (k + l) z z2 := fun R m => by rw [Nat.add_assoc, h, h2]
def TI (a : Ai) (os : List Od) (z : Tz) : Prop := ∃ rs c, TI0 a os z rs ∧ TC a os z c
theorem TI0.left {z : Tz} {rs : List Nat} (I : TI0 a os z rs) {i : Nat} (hi : i < os.length) (h : tf z.hm i = none) : 0 < z.mn := by
  rw [I.mn]
  have : 0 < (List.range os.length).countP (fun i => (tf z.hm i).isNone) := List.countP_pos_iff.mpr ⟨i, List.mem_range.mpr hi, by rw [h]; rfl⟩
  omega
theorem TI0.rid {z : Tz} {rs : List Nat} (I : TI0 a os z rs) {i : Nat} (hi : i ∈ rs) : 0 < z.mn := by
  obtain ⟨h1, τ, h2, h3⟩ := (I.rm i).mp hi
  refine I.left h1 ?_
  rw [I.hm i h1]
  unfold hmv
  rw [h2]
  dsimp only
  rw [if_neg (by omega)]
theorem TI0.wai {z : Tz} {rs : List Nat} (I : TI0 a os z rs) {i : Nat} (hi : i < os.length) (h : tf z.tk i = none) : 0 < z.mn := by
  refine I.left hi ?_
  rw [I.hm i hi]
  unfold hmv
  rw [h]
/-- who rides comes home -/
theorem ride_on (ha : AOk a) (ho : OOk a.1.length os) : ∀ (d : Nat) (z : Tz) (rs : List Nat) (c : Nat) (i : Nat) (τ : Int), TI0 a os z rs → TC a os z c → i ∈ rs → tf z.tk i = some τ → (τ + (ySy a os).dist i - z.t).toNat ≤ d → ∃ k z', k ≤ d + 1 ∧ Rn a os k z z' ∧ TI a os z' ∧ z'.mn < z.mn
  | d, z, rs, c, i, τ, I, C, hi, ht, hd => by
    have hm := I.rid hi
    obtain ⟨z', t1, c', rs', e, B⟩ := body_ok ha ho I C hm
    have et := B.st (.inr (fun w => by rw [w] at hi; cases hi))
    by_cases q : τ + (ySy a os).dist i = t1
    · exact ⟨1, z', by omega, Rn.one hm e, ⟨rs', c', B.ti, B.tc⟩, B.mx i hi τ ht q⟩
    · have hi' := B.rd i hi τ ht q
      have ht' := B.tk i τ ht
      have r1 : z.t ≤ τ + (ySy a os).dist i := by
        obtain ⟨_, τ', e1, e2⟩ := (I.rm i).mp hi
        rw [ht] at e1; cases e1; exact e2
      have r2 : z'.t ≤ τ + (ySy a os).dist i := by
        obtain ⟨_, τ', e1, e2⟩ := (B.ti.rm i).mp hi'
        rw [ht'] at e1; cases e1; exact e2
      have t1' := B.tl
      cases d with
      | zero => exfalso; omega
      | succ d =>
        obtain ⟨k, z2, k1, k2, k3, k4⟩ := ride_on ha ho d z' rs' c' i τ B.ti B.tc hi' ht' (by omega)
        exact ⟨1 + k, z2, by omega, (Rn.one hm e).tr k2, k3, Int.lt_of_lt_of_le k4 B.mn⟩
/-- who waits rides, or another one does -/
theorem wait_on (ha : AOk a) (ho : OOk a.1.length os) : ∀ (d : Nat) (z : Tz) (rs : List Nat) (c : Nat) (i : Nat) (G : Int), TI0 a os z rs → TC a os z c → i < c → tf z.tk i = none → (ySy a os).go i G → z.t ≤ G → (G - z.t).toNat ≤ d → ∃ k z', k ≤ d + 1 ∧ Rn a os k z z' ∧ (∃ rs' c', TI0 a os z' rs' ∧ TC a os z' c' ∧ rs' ≠ []) ∧ z'.mn ≤ z.mn
  | d, z, rs, c, i, G, I, C, hi, ht, hg, hG, hd => by
    have cn := C.cn
    have hm := I.wai (show i < os.length by omega) ht
    obtain ⟨z', t1, c', rs', e, B⟩ := body_ok ha ho I C hm
    have et := B.st (.inl (fun w => by
      have := C.qd
      obtain ⟨τ, e2⟩ := qn_zero (f := tf z.tk) (c := c) (by omega) hi
      rw [ht] at e2; cases e2))
    have cc := B.cc
    by_cases r : rs' = []
    · by_cases q : G = t1
      · exfalso
        exact B.wt i (by omega) ht (by have := C.tc i hi; omega) (q ▸ hg) r
      · have t1' := B.tl
        have lt : z'.t ≤ G := by
          rcases ltGe G z'.t with w | w
          · exact absurd hg (B.go _ (oat_bok ho (by omega)) G (by omega) w)
          · exact w
        have ht' : tf z'.tk i = none := (B.wn i (by omega) ht).resolve_right (fun w => w r)
        cases d with
        | zero => exfalso; omega
        | succ d =>
          obtain ⟨k, z2, k1, k2, k3, k4⟩ := wait_on ha ho d z' rs' c' i G B.ti B.tc (by omega) ht' hg lt (by omega)
          exact ⟨1 + k, z2, by omega, (Rn.one hm e).tr k2, k3, Int.le_trans k4 B.mn⟩
    · exact ⟨1, z', by omega, Rn.one hm e, ⟨rs', c', B.ti, B.tc, r⟩, B.mn⟩
/-- the next order comes -/
theorem come_on (ha : AOk a) (ho : OOk a.1.length os) : ∀ (d : Nat) (z : Tz) (rs : List Nat) (c : Nat), TI0 a os z rs → TC a os z c → c < os.length → ((oat os c).2.1 - z.t).toNat ≤ d → ∃ k z', k ≤ d + 1 ∧ Rn a os k z z' ∧ (∃ rs' c', TI0 a os z' rs' ∧ TC a os z' c' ∧ (rs' ≠ [] ∨ ∃ i, i < c' ∧ tf z'.tk i = none)) ∧ z'.mn ≤ z.mn
  | d, z, rs, c, I, C, hc, hd => by
    have hm := I.wai hc (C.nc c (Nat.le_refl _) hc)
    obtain ⟨z', t1, c', rs', e, B⟩ := body_ok ha ho I C hm
    have t1' := B.tl
    have t0' := B.t0
    by_cases q : c < c'
    · refine ⟨1, z', by omega, Rn.one hm e, ⟨rs', c', B.ti, B.tc, ?_⟩, B.mn⟩
      rcases B.wn c q (C.nc c (Nat.le_refl _) hc) with w | w
      · exact .inr ⟨c, q, w⟩
      · exact .inl w
    · have ec : c' = c := by have := B.cc; omega
      subst ec
      have := B.cg c' (Nat.le_refl _) hc
      cases d with
      | zero => exfalso; omega
      | succ d =>
        obtain ⟨k, z2, k1, k2, k3, k4⟩ := come_on ha ho d z' rs' c' B.ti B.tc hc (by omega)
        exact ⟨1 + k, z2, by omega, (Rn.one hm e).tr k2, k3, Int.le_trans k4 B.mn⟩
theorem go_next {g : List Int} (h : Gp g) {o : Od} (ok : Bok g.length o) (t : Int) : ∃ G, t ≤ G ∧ G < t + 2 * g.sum ∧ ph g G = phs g o := by
  have T := tot h
  have pb := phs_bd h ok
  have tb := ph_bd h t
  by_cases q : ph g t ≤ phs g o
  · refine ⟨t + (phs g o - ph g t), by omega, by omega, ?_⟩
    rw [phA h t (by omega) (by omega), if_pos (by omega)]; omega
  · refine ⟨t + (phs g o + 2 * g.sum - ph g t), by omega, by omega, ?_⟩
    rw [phA h t (by omega) (by omega), if_neg (by omega)]; omega
/-- one more is home -/
theorem one_home (ha : AOk a) (ho : OOk a.1.length os) {z : Tz} (h : TI a os z) (hm : 0 < z.mn) : ∃ k z', k ≤ 75010 ∧ Rn a os k z z' ∧ TI a os z' ∧ z'.mn < z.mn := by
  have T := tot (gpA ha)
  -- somebody rides
  have A : ∀ (z : Tz) (rs : List Nat) (c : Nat), TI0 a os z rs → TC a os z c → rs ≠ [] → ∃ k z', k ≤ 15001 ∧ Rn a os k z z' ∧ TI a os z' ∧ z'.mn < z.mn := fun z rs c I C hr => by
    obtain ⟨i, rs', rfl⟩ := List.exists_cons_of_ne_nil hr
    obtain ⟨h1, τ, h2, h3⟩ := (I.rm i).mp List.mem_cons_self
    have lt := (I.hi.h1 i h1 τ h2).2.2
    have db := ySy_dist ha ho h1
    exact ride_on ha ho 15000 z _ c i τ I C List.mem_cons_self h2 (by omega)
  -- somebody waits
  have W : ∀ (z : Tz) (rs : List Nat) (c i : Nat), TI0 a os z rs → TC a os z c → i < c → tf z.tk i = none → ∃ k z', k ≤ 45002 ∧ Rn a os k z z' ∧ TI a os z' ∧ z'.mn < z.mn := fun z rs c i I C hi ht => by
    have cn := C.cn
    obtain ⟨G, g1, g2, g3⟩ := go_next (gpA ha) (oat_bok ho (show i < os.length by omega)) z.t
    obtain ⟨k, z1, k1, k2, ⟨rs', c', I', C', hr⟩, k3⟩ := wait_on ha ho 30000 z rs c i G I C hi ht g3 g1 (by omega)
    obtain ⟨l, z2, l1, l2, l3, l4⟩ := A z1 rs' c' I' C' hr
    exact ⟨k + l, z2, by omega, k2.tr l2, l3, Int.lt_of_lt_of_le l4 k3⟩
  obtain ⟨rs, c, I, C⟩ := h
  by_cases hr : rs = []
  · by_cases hq : z.qd = 0
    · -- the first turn skips
      obtain ⟨z1, t1, c1, rs1, e, B⟩ := body_ok ha ho I C hm
      have t1' := B.tl
      obtain ⟨hc, lt⟩ := B.sk hq hr
      have fn : tf z.tk c = none := C.nc c (Nat.le_refl _) hc
      have done : ∀ (z2 : Tz) (k : Nat), Rn a os k z z2 → z2.mn ≤ z.mn → k ≤ 30002 → (∃ rs' c', TI0 a os z2 rs' ∧ TC a os z2 c' ∧ (rs' ≠ [] ∨ ∃ i, i < c' ∧ tf z2.tk i = none)) → ∃ k z', k ≤ 75010 ∧ Rn a os k z z' ∧ TI a os z' ∧ z'.mn < z.mn := by
        rintro z2 k k2 k3 k4 ⟨rs', c', I', C', w⟩
        rcases w with w | ⟨i, hi, w⟩
        · obtain ⟨l, z3, l1, l2, l3, l4⟩ := A z2 rs' c' I' C' w
          exact ⟨k + l, z3, by omega, k2.tr l2, l3, Int.lt_of_lt_of_le l4 k3⟩
        · obtain ⟨l, z3, l1, l2, l3, l4⟩ := W z2 rs' c' i I' C' hi w
          exact ⟨k + l, z3, by omega, k2.tr l2, l3, Int.lt_of_lt_of_le l4 k3⟩
      by_cases q : c < c1
      · refine done z1 1 (Rn.one hm e) B.mn (by omega) ⟨rs1, c1, B.ti, B.tc, ?_⟩
        rcases B.wn c q fn with w | w
        · exact .inr ⟨c, q, w⟩
        · exact .inl w
      · have ec : c1 = c := by have := B.cc; omega
        subst ec
        obtain ⟨k, z2, k1, k2, k3, k4⟩ := come_on ha ho 30000 z1 rs1 c1 B.ti B.tc hc (by omega)
        exact done z2 (1 + k) ((Rn.one hm e).tr k2) (Int.le_trans k4 B.mn) (by omega) k3
    · have qp : 0 < qn (tf z.tk) c := by have := C.qd; omega
      obtain ⟨i, hi, w⟩ := countP_ex (show 0 < (List.range c).countP _ from qp)
      obtain ⟨k, z', k1, k2, k3, k4⟩ := W z rs c i I C (List.mem_range.mp hi) (Option.isNone_iff_eq_none.mp w)
      exact ⟨k, z', by omega, k2, k3, k4⟩
  · obtain ⟨k, z', k1, k2, k3, k4⟩ := A z rs c I C hr
    exact ⟨k, z', by omega, k2, k3, k4⟩
theorem all_homeT (ha : AOk a) (ho : OOk a.1.length os) : ∀ (M : Nat) (z : Tz), TI a os z → z.mn ≤ M → ∃ k z', k ≤ 75010 * M ∧ Rn a os k z z' ∧ TI a os z' ∧ z'.mn ≤ 0
  | 0, z, h, hm => ⟨0, z, Nat.le_refl _, fun R m => by rw [Nat.zero_add], h, by omega⟩
  | M + 1, z, h, hm => by
    by_cases q : 0 < z.mn
    · obtain ⟨k, z1, k1, k2, k3, k4⟩ := one_home ha ho h q
      obtain ⟨l, z2, l1, l2, l3, l4⟩ := all_homeT ha ho M z1 k3 (by omega)
      exact ⟨k + l, z2, by omega, k2.tr l2, l3, l4⟩
    · exact ⟨0, z, Nat.zero_le _, fun R m => by rw [Nat.zero_add], h, by omega⟩
/-- the start -/
def z0 (os : List Od) : Tz := ⟨List.replicate os.length none, List.replicate os.length none, (os.length : Int), 0, [], 0, [], 0, 0, true⟩
theorem tf_rep (n i : Nat) : tf (List.replicate n none) i = none := by
  unfold tf
  rw [List.getD_eq_getElem?_getD, List.getElem?_replicate]
  split <;> rfl
theorem TI.start (ha : AOk a) (ho : OOk a.1.length os) : TI a os (z0 os) := by
  have n1 := ha.n1
  have p0 : ph a.1 0 = 0 := by unfold ph; simp
  refine ⟨[], 0, ⟨.up (Int.le_refl _) (by show (0 : Int) < a.1.length; omega) (by show ph a.1 0 = spt a.1 0; rw [p0, spt_zero]), ⟨fun i _ τ e => ?_, fun i hi s h1 h2 => ?_, fun s hs => ?_⟩, List.length_replicate, List.length_replicate, fun i hi => ?_, ?_, rfl, List.nodup_nil, fun i => ⟨fun h => (nomatch h), fun ⟨_, τ, e, _⟩ => ?_⟩⟩,
    ⟨rfl, Nat.zero_le _, ⟨⟨List.nodup_nil, fun x hx => (nomatch hx)⟩, fun k => rfl⟩, rfl, fun i hi => absurd hi (Nat.not_lt_zero _), fun i _ _ => tf_rep _ _⟩⟩
  · rw [show tf (z0 os).tk i = none from tf_rep _ _] at e; cases e
  · have h2 : s < 0 := h2
    have h1 : (oat os i).2.1 ≤ s := h1
    have := (ho.tk _ (oat_mem hi)).1
    omega
  · have : cnt (ySy a os) (tf (z0 os).tk) s = 0 := by
      unfold cnt
      rw [List.countP_eq_zero]
      intro i _ e
      unfold rid at e
      rw [show tf (z0 os).tk i = none from tf_rep _ _] at e
      cases e
    omega
  · rw [show tf (z0 os).hm i = none from tf_rep _ _]
    unfold hmv
    rw [show tf (z0 os).tk i = none from tf_rep _ _]
  · have : (List.range os.length).countP (fun i => (tf (z0 os).hm i).isNone) = (List.range os.length).length := by
      rw [List.countP_eq_length]
      intro i _
      rw [show tf (z0 os).hm i = none from tf_rep _ _]; rfl
    rw [this, List.length_range]; rfl
  · rw [show tf (z0 os).tk i = none from tf_rep _ _] at e; cases e
theorem tour_make (ho : os.length ≤ 60) : f_Tour (a, os) = some (mkT a os (z0 os)) := by
  unfold f_Tour
  dsimp only
  rw [bo (repM_one (by omega) (by omega)), bo (repM_one (by omega) (by omega)), letM_eq, letM_eq, Int.toNat_natCast]
  rfl
/-- what homes_of finds -/
theorem tour_ok (ha : AOk a) (ho : OOk a.1.length os) : ∃ tk : Nat → Int, Spec (ySy a os) tk ∧ ∃ z, (∀ R : Type, whileF cdT (bdT (R := R)) fuel (mkT a os (z0 os)) = some (.nx (mkT a os z))) ∧ z.tk = (List.range os.length).map (fun i => some (tk i)) ∧ z.hm = (List.range os.length).map (fun i => some (tk i + dst a.1 (oat os i))) := by
  have l60 := ho.l60
  obtain ⟨k, z, k1, k2, ⟨rs, c, I, C⟩, k3⟩ := all_homeT ha ho 60 (z0 os) (TI.start ha ho) (by show (os.length : Int) ≤ 60; omega)
  have all : ∀ i, i < os.length → ∃ τ, tf z.tk i = some τ ∧ tf z.hm i = some (τ + (ySy a os).dist i) ∧ τ + (ySy a os).dist i < z.t := fun i hi => by
    cases e : tf z.hm i with
    | none => have := I.left hi e; omega
    | some v =>
      rw [I.hm i hi] at e
      unfold hmv at e
      cases e2 : tf z.tk i with
      | none => rw [e2] at e; cases e
      | some τ =>
        rw [e2] at e
        dsimp only at e
        by_cases q : τ + (ySy a os).dist i < z.t
        · rw [if_pos q] at e; exact ⟨τ, rfl, e.symm ▸ rfl, q⟩
        · rw [if_neg q] at e; cases e
  have ht : ∀ i, i < os.length → tf z.tk i = some ((tf z.tk i).getD 0) := fun i hi => by obtain ⟨τ, e, _⟩ := all i hi; rw [e]; rfl
  refine ⟨fun i => (tf z.tk i).getD 0, I.hi.all ht (fun i hi => ?_), z, ?_, ?_, ?_⟩
  · obtain ⟨τ, e, _, q⟩ := all i hi
    show (tf z.tk i).getD 0 + _ ≤ _
    rw [e]
    show τ + _ ≤ _
    omega
  · intro R
    have e := k2 R (fuel - k)
    rw [show k + (fuel - k) = fuel by unfold fuel; omega] at e
    rw [e]
    have : fuel - k = (fuel - k - 1) + 1 := by unfold fuel; omega
    rw [this]
    conv => lhs; unfold whileF
    have e2 : cdT (mkT a os z) = some false := by unfold cdT mkT; dsimp only; rw [decide_eq_false (by omega)]
    rw [bo e2, if_neg (by decide)]
  · refine List.ext_getElem? fun i => ?_
    rw [List.getElem?_map]
    by_cases hi : i < os.length
    · rw [List.getElem?_range hi, List.getElem?_eq_getElem (by rw [I.lt]; exact hi)]
      have : tf z.tk i = z.tk[i]'(by rw [I.lt]; exact hi) := by unfold tf; rw [List.getD_eq_getElem?_getD, List.getElem?_eq_getElem (by rw [I.lt]; exact hi)]; rfl
      rw [← this]
      exact congrArg some (ht i hi)
    · rw [List.getElem?_eq_none (by rw [I.lt]; omega), List.getElem?_eq_none (by rw [List.length_range]; omega)]; rfl
  · refine List.ext_getElem? fun i => ?_
    rw [List.getElem?_map]
    by_cases hi : i < os.length
    · rw [List.getElem?_range hi, List.getElem?_eq_getElem (by rw [I.lh]; exact hi)]
      have : tf z.hm i = z.hm[i]'(by rw [I.lh]; exact hi) := by unfold tf; rw [List.getD_eq_getElem?_getD, List.getElem?_eq_getElem (by rw [I.lh]; exact hi)]; rfl
      rw [← this]
      obtain ⟨τ, e1, e2, _⟩ := all i hi
      rw [e2]
      show some (some _) = some (some ((tf z.tk i).getD 0 + _))
      rw [e1]; rfl
    · rw [List.getElem?_eq_none (by rw [I.lh]; omega), List.getElem?_eq_none (by rw [List.length_range]; omega)]; rfl
end
end Bw

namespace Bw
open PySem L2 TL
/-! what homes_of and end_of tell -/
def hml (a : Ai) (os : List Od) (tk : Nat → Int) : List (Option Int × Option Int) := (List.range os.length).map fun i => (some (tk i), some (tk i + dst a.1 (oat os i)))
def hms (a : Ai) (os : List Od) (tk : Nat → Int) : List Int := (List.range os.length).map fun i => tk i + dst a.1 (oat os i)
def maxV : List Int → Int
  | [] => 0
  | x :: xs => xs.foldl max x
theorem maxD_ok (xs : List Int) : maxD xs 0 = some (maxV xs) := by cases xs <;> rfl
theorem maxV_mem {xs : List Int} (h : xs ≠ []) : maxV xs ∈ xs ∧ ∀ x ∈ xs, x ≤ maxV xs := by
  cases xs with
  | nil => exact absurd rfl h
  | cons x xs =>
    obtain ⟨a1, a2, a3⟩ := foldl_max xs x
    refine ⟨?_, fun b hb => ?_⟩
    · rcases a1 with h | h
      · show xs.foldl max x ∈ _; rw [h]; exact List.mem_cons_self
      · exact List.mem_cons_of_mem _ h
    · rcases List.mem_cons.mp hb with rfl | hb
      · exact a2
      · exact a3 b hb
theorem maxV_eq {xs : List Int} {m : Int} (h : m ∈ xs) (k : ∀ x ∈ xs, x ≤ m) : maxV xs = m := by
  have ne : xs ≠ [] := fun e => by rw [e] at h; cases h
  obtain ⟨h1, h2⟩ := maxV_mem ne
  exact Int.le_antisymm (k _ h1) (h2 _ h)
theorem tour_homes {a : Ai} (ha : AOk a) {os : List Od} (ho : OOk a.1.length os) : ∃ tk, Spec (ySy a os) tk ∧ ∃ r z : T_Tour, f_Tour (a, os) = some r ∧ (∀ R : Type, whileF cdT (bdT (R := R)) fuel r = some (.nx z)) ∧ mapC (fun (x : Option Int × Option Int) => (x.1, x.2)) ((z.2.2.1).zip z.2.2.2.1) = some (hml a os tk) := by
  have l60 := ho.l60
  obtain ⟨tk, S, z, e, e1, e2⟩ := tour_ok ha ho
  refine ⟨tk, S, mkT a os (z0 os), mkT a os z, tour_make l60, e, ?_⟩
  show (mapC _ (z.tk.zip z.hm)) = _
  rw [e1, e2]
  have ez : ((List.range os.length).map fun i => some (tk i)).zip ((List.range os.length).map fun i => some (tk i + dst a.1 (oat os i))) = hml a os tk := by
    unfold hml
    rw [List.zip_map']
  rw [ez]
  have hl : (hml a os tk).length ≤ 100000 := by unfold hml; rw [List.length_map, List.length_range]; omega
  rw [mapC_ok hl]
  congr 1
  conv => rhs; rw [← List.map_id (hml a os tk)]
  rfl
theorem homes_lc {a : Ai} {os : List Od} {tk : Nat → Int} (l60 : os.length ≤ 60) : lcC (fun (x : Option Int × Option Int) => (x.2.bind fun x23 => some (some x23))) (hml a os tk) = some (hms a os tk) := by
  have hl : (hml a os tk).length ≤ 100000 := by unfold hml; rw [List.length_map, List.length_range]; omega
  rw [lcC_ok hl]
  rw [lcM_all (g := fun x => x.2.getD 0) fun x hx => ?_]
  · unfold hml hms; rw [List.map_map]; rfl
  · obtain ⟨i, _, rfl⟩ := List.mem_map.mp hx
    rfl
theorem hml_len {a : Ai} {os : List Od} {tk : Nat → Int} : (hml a os tk).length = os.length := by unfold hml; rw [List.length_map, List.length_range]
theorem hml_at {a : Ai} {os : List Od} {tk : Nat → Int} {i : Nat} (h : i < os.length) : (hml a os tk)[i]? = some (some (tk i), some (tk i + dst a.1 (oat os i))) := by
  unfold hml; rw [List.getElem?_map, List.getElem?_range h]; rfl
theorem spec_uniq {y : Sy} {tk tz : Nat → Int} (S : Spec y tk) (Z : Spec y tz) (dp : ∀ i, i < y.n → 0 < y.dist i) {i : Nat} (hi : i < y.n) : tz i = tk i := by
  have := agree_all (d := 0) (y := y) (z := y) (fun c => ⟨Nat.le_refl _, Nat.le_refl _, rfl, fun i _ => by omega, fun i _ => rfl, dp, fun i _ s => by rw [Int.add_zero], fun i h1 h2 => by omega, fun i h1 h2 => by omega⟩) S Z hi
  omega
theorem hml_uniq {a : Ai} (ha : AOk a) {os : List Od} (ho : OOk a.1.length os) {tk tz : Nat → Int} (S : Spec (ySy a os) tk) (Z : Spec (ySy a os) tz) : hml a os tk = hml a os tz := by
  unfold hml
  refine List.map_congr_left fun i hi => ?_
  have hi := List.mem_range.mp hi
  rw [spec_uniq S Z (fun i hi => by have := ySy_dist ha ho hi; omega) (show i < (ySy a os).n from hi)]
end Bw

namespace Bw
open PySem L2 TL
/-! where nothing is raised -/
theorem homes1_ok {a : Ai} (ha : AOk a) {os : List Od} (ho : OOk a.1.length os) : ∃ tk, Spec (ySy a os) tk ∧ f_homes_of (a, os) = some (hml a os tk) := by
  obtain ⟨tk, S, r, z, e1, e2, e3⟩ := tour_homes ha ho
  refine ⟨tk, S, ?_⟩
  unfold f_homes_of
  dsimp only
  rw [bo (look_orders_ok ha ho)]
  rw [show f_homes_of_t51 = cdT from rfl, show f_homes_of_w51 = bdT from rfl, bo e1, bo (e2 _)]
  dsimp only
  rw [bo e3]
end Bw

namespace Bw
open PySem L2 TL
theorem homes_ok {a : Ai} (ha : AOk a) {os : List Od} (ho : OOk a.1.length os) : ∃ tk, Spec (ySy a os) tk ∧ f_homes_of (a, os) = some (hml a os tk) ∧ f_end_of (a, os) = some (maxV (hms a os tk)) := by
  obtain ⟨tk, S, e1⟩ := homes1_ok ha ho
  refine ⟨tk, S, e1, ?_⟩
  unfold f_end_of
  dsimp only
  rw [bo e1, bo (homes_lc ho.l60), bo (maxD_ok _)]
end Bw

namespace Bw
open PySem L2 TL
def turnO (n : Nat) (d : Int) (b : Bool) (o : Od) : Od := if b = true then (o.1, o.2.1 + d, (n : Int) - o.2.2.1, (n : Int) - o.2.2.2) else (o.1, o.2.1 + d, o.2.2.1, o.2.2.2)
theorem later_ok {n : Nat} {d : Int} {b : Bool} : ∀ (os acc : List Od), acc.length + os.length ≤ 1000 → os.foldlM (f_later_b14 (n : Int) d b) acc = some (acc ++ os.map (turnO n d b))
  | [], acc, _ => by show some acc = _; simp
  | o :: os, acc, h => by
    obtain ⟨nm, t, x, y⟩ := o
    rw [List.length_cons] at h
    have e : f_later_b14 (n : Int) d b acc (nm, t, x, y) = some (acc ++ [turnO n d b (nm, t, x, y)]) := by
      unfold f_later_b14 turnO
      dsimp only
      cases b with
      | true => rw [if_pos rfl, bo (appM_ok (by omega)), if_pos rfl]
      | false => rw [if_neg (by decide), bo (appM_ok (by omega)), if_neg (by decide)]
    rw [List.foldlM_cons]
    refine (bo e _).trans ?_
    rw [later_ok os _ (by rw [List.length_append, List.length_singleton]; omega), List.map_cons, List.append_assoc]
    rfl
def turnG (b : Bool) (g : List Int) : List Int := if b = true then g.reverse else g
theorem turnG_len (b : Bool) (g : List Int) : (turnG b g).length = g.length := by unfold turnG; split <;> simp
theorem sum_rev (g : List Int) : g.reverse.sum = g.sum := by
  induction g with
  | nil => rfl
  | cons x g ih => rw [List.reverse_cons, List.sum_append, ih, List.sum_cons, List.sum_cons, List.sum_nil]; omega
theorem turnG_sum (b : Bool) (g : List Int) : (turnG b g).sum = g.sum := by unfold turnG; split; exact sum_rev g; rfl
theorem turn_gp {g : List Int} (h : Gp g) (b : Bool) : Gp (turnG b g) := by
  refine ⟨by rw [turnG_len]; exact h.n1, by rw [turnG_len]; exact h.n15, fun x hx => h.gm x ?_⟩
  unfold turnG at hx
  split at hx
  · exact List.mem_reverse.mp hx
  · exact hx
theorem spt_rev (g : List Int) {b : Nat} (hb : b ≤ g.length) : spt g.reverse (g.length - b) = g.sum - spt g b := by
  unfold spt
  rw [List.take_reverse, show g.length - (g.length - b) = b by omega, sum_rev]
  have := congrArg List.sum (List.take_append_drop b g)
  rw [List.sum_append] at this
  omega
theorem bok_turn {n : Nat} {d : Int} {b : Bool} {o : Od} (h : Bok n o) : Bok n (turnO n d b o) := by
  obtain ⟨a0, a1, b0, b1, ne⟩ := h
  unfold turnO
  split
  · refine ⟨?_, ?_, ?_, ?_, ?_⟩ <;> dsimp only <;> omega
  · exact ⟨a0, a1, b0, b1, ne⟩
theorem dst_turn {g : List Int} {d : Int} {b : Bool} {o : Od} (h : Bok g.length o) : dst (turnG b g) (turnO g.length d b o) = dst g o := by
  obtain ⟨a0, a1, b0, b1, ne⟩ := h
  unfold dst turnG turnO
  cases b with
  | false => rfl
  | true =>
    rw [if_pos rfl, if_pos rfl]
    dsimp only
    rw [show ((g.length : Int) - o.2.2.2).toNat = g.length - o.2.2.2.toNat by omega, show ((g.length : Int) - o.2.2.1).toNat = g.length - o.2.2.1.toNat by omega, spt_rev g (by omega), spt_rev g (by omega)]
    unfold absI
    split <;> split <;> omega
theorem go_turn {g : List Int} (h : Gp g) {k : Int} {b : Bool} (hb : (b = true ∧ k % 2 = 1) ∨ (b = false ∧ k % 2 = 0)) {d : Int} {o : Od} (ok : Bok g.length o) (s : Int) : ph (turnG b g) (s + k * g.sum) = phs (turnG b g) (turnO g.length d b o) ↔ ph g s = phs g o := by
  have T := tot h
  have pb := phs_bd h ok
  have tb := ph_bd h s
  have e := dst_eq h ok
  rcases hb with ⟨rfl, hk⟩ | ⟨rfl, hk⟩
  · have ek : s + k * g.sum = (s + g.sum) + (k / 2) * (2 * g.sum) := by
      have : k = 2 * (k / 2) + 1 := by omega
      have e2 : k * g.sum = (2 * (k / 2) + 1) * g.sum := by rw [← this]
      rw [e2, Int.add_mul, Int.one_mul, Int.mul_comm 2, Int.mul_assoc]; omega
    have p1 : ph (turnG true g) (s + k * g.sum) = ph g (s + g.sum) := by
      rw [ek]
      have : ph (turnG true g) ((s + g.sum) + (k / 2) * (2 * g.sum)) = ph g ((s + g.sum) + (k / 2) * (2 * g.sum)) := by unfold ph; rw [turnG_sum]
      rw [this, phR]
    rw [p1, phA h s (by omega) (by omega)]
    obtain ⟨a0, a1, b0, b1, ne⟩ := ok
    have sa := spt_nn h (show o.2.2.1.toNat ≤ g.length by omega)
    have sb := spt_nn h (show o.2.2.2.toNat ≤ g.length by omega)
    have p2 : phs (turnG true g) (turnO g.length d true o) = if phs g o < g.sum then phs g o + g.sum else phs g o - g.sum := by
      unfold phs turnO
      rw [if_pos rfl, turnG_sum]
      dsimp only
      unfold turnG
      rw [if_pos rfl, show ((g.length : Int) - o.2.2.1).toNat = g.length - o.2.2.1.toNat by omega, spt_rev g (by omega)]
      by_cases q : o.2.2.1 < o.2.2.2
      · have := e.1 q
        rw [if_neg (by omega), if_pos q, if_pos (by omega)]; omega
      · have := e.2 q
        rw [if_pos (by omega), if_neg q, if_neg (by omega)]; omega
    rw [p2]
    split <;> split <;> constructor <;> intro z <;> omega
  · have ek : s + k * g.sum = s + (k / 2) * (2 * g.sum) := by
      have : k = 2 * (k / 2) := by omega
      have e2 : k * g.sum = (2 * (k / 2)) * g.sum := by rw [← this]
      rw [e2, Int.mul_comm 2, Int.mul_assoc]
    rw [ek]
    show ph g _ = phs g (turnO g.length d false o) ↔ _
    rw [phR]
    rfl
theorem oat_map {os : List Od} {f : Od → Od} {i : Nat} (h : i < os.length) : oat (os.map f) i = f (oat os i) := by
  have e1 := oat_get (os := os.map f) (i := i) (by rw [List.length_map]; exact h)
  rw [List.getElem?_map, oat_get h] at e1
  exact (Option.some.inj e1).symm
theorem OOk.turn {n : Nat} {os : List Od} (ho : OOk n os) {d : Int} (d0 : 0 ≤ d) (dm : ∀ o ∈ os, o.2.1 + d ≤ 1000000000) (b : Bool) : OOk n (os.map (turnO n d b)) := by
  have nm : ∀ o, (turnO n d b o).1 = o.1 := fun o => by unfold turnO; split <;> rfl
  have tk : ∀ o, (turnO n d b o).2.1 = o.2.1 + d := fun o => by unfold turnO; split <;> rfl
  refine ⟨by rw [List.length_map]; exact ho.l60, fun x hx => ?_, ?_, fun x hx => ?_, fun x hx => ?_, ?_⟩
  · obtain ⟨o, h, rfl⟩ := List.mem_map.mp hx; rw [nm]; exact ho.nm o h
  · rw [List.map_map, show ((fun x : Od => x.1) ∘ turnO n d b) = (fun x => x.1) from funext nm]; exact ho.nd
  · obtain ⟨o, h, rfl⟩ := List.mem_map.mp hx
    rw [tk]; have := ho.tk o h; have := dm o h; omega
  · obtain ⟨o, h, rfl⟩ := List.mem_map.mp hx; exact bok_turn (ho.by_ o h)
  · rw [List.pairwise_map]; exact ho.so.imp fun h => by rw [tk, tk]; omega
theorem turn_spec {a : Ai} (ha : AOk a) {os : List Od} (ho : OOk a.1.length os) {k : Int} {b : Bool} (hb : (b = true ∧ k % 2 = 1) ∨ (b = false ∧ k % 2 = 0)) {tk tz : Nat → Int} (S : Spec (ySy a os) tk) (Z : Spec (ySy (turnG b a.1, a.2) (os.map (turnO a.1.length (k * a.1.sum) b))) tz) {i : Nat} (hi : i < os.length) : tz i = tk i + k * a.1.sum := by
  have G := gpA ha
  refine agree_all (y := ySy a os) (z := ySy (turnG b a.1, a.2) (os.map (turnO a.1.length (k * a.1.sum) b))) (fun c => ⟨Nat.le_refl _, by show os.length ≤ (os.map _).length; rw [List.length_map]; exact Nat.le_refl _, rfl, fun i hi => ?_, fun i hi => ?_, fun i hi => ?_, fun i hi s => ?_, fun i h1 h2 => ?_, fun i h1 h2 => ?_⟩) S Z hi
  · have hi : i < os.length := hi
    show (oat (os.map _) i).2.1 = (oat os i).2.1 + _
    rw [oat_map hi]; unfold turnO; split <;> rfl
  · have hi : i < os.length := hi
    show dst (turnG b a.1) (oat (os.map _) i) = dst a.1 (oat os i)
    rw [oat_map hi]; exact dst_turn (oat_bok ho hi)
  · have := ySy_dist ha ho (show i < os.length from hi); omega
  · have hi : i < os.length := hi
    show ph (turnG b a.1) _ = phs (turnG b a.1) (oat (os.map _) i) ↔ ph a.1 s = phs a.1 (oat os i)
    rw [oat_map hi]; exact go_turn G hb (oat_bok ho hi) s
  · have h1 : os.length ≤ i := h1; have h2 : i < os.length := h2; omega
  · have h1 : os.length ≤ i := h1; have h2 : i < (os.map (turnO a.1.length (k * a.1.sum) b)).length := h2; rw [List.length_map] at h2; omega
theorem maxV_add {xs : List Int} (h : xs ≠ []) (d : Int) : maxV (xs.map (· + d)) = maxV xs + d := by
  obtain ⟨h1, h2⟩ := maxV_mem h
  refine maxV_eq (List.mem_map.mpr ⟨_, h1, rfl⟩) fun x hx => ?_
  obtain ⟨y, hy, rfl⟩ := List.mem_map.mp hx
  have := h2 y hy; omega
theorem law_true (ns : List Int) (hns : ns.length ≤ 63) : f_law ns = some true := by
  obtain ⟨p0, a0, P0⟩ := pool_ok ns 0 (by omega) (by omega)
  obtain ⟨⟨ai, p1⟩, a1, A1, P1⟩ := aisle_ok P0 15 1000 (by omega) (by omega) (by omega) (by omega)
  dsimp only at A1 P1
  have G := gpA A1
  have T := tot G
  obtain ⟨salt, p2, a2, s0, s1, P2⟩ := take_ok P1 9516 (by omega) (by omega)
  obtain ⟨sty, p3, a3, y0, y1, P3⟩ := take_ok P2 4 (by omega) (by omega)
  obtain ⟨h, p4, a4, h0, h1, P4⟩ := take_ok P3 2 (by omega) (by omega)
  have pick : ∃ hops, atI ([[1, 2, 30], [1, 40, 4 * ai.1.sum, 10000000]] : List (List Int)) h = some hops ∧ 1 ≤ hops.length ∧ hops.length ≤ 100 ∧ ∀ x ∈ hops, 1 ≤ x ∧ x ≤ 10000000 := by
    have : h = 0 ∨ h = 1 := by omega
    rcases this with rfl | rfl
    · exact ⟨_, rfl, by decide, by decide, by decide⟩
    · refine ⟨[1, 40, 4 * ai.1.sum, 10000000], rfl, by simp, by simp, fun x hx => ?_⟩
      simp only [List.mem_cons, List.not_mem_nil, or_false] at hx
      rcases hx with rfl | rfl | rfl | rfl <;> omega
  obtain ⟨hops, a5, l0, l1, hh⟩ := pick
  obtain ⟨w, p5, b1, w0, w1, P5⟩ := take_ok P4 2 (by omega) (by omega)
  have pick2 : ∃ y, atI ([4, 20000] : List Int) w = some y ∧ 1 ≤ y ∧ y ≤ 20000 := by
    have : w = 0 ∨ w = 1 := by omega
    rcases this with rfl | rfl
    · exact ⟨_, rfl, by omega, by omega⟩
    · exact ⟨_, rfl, by omega, by omega⟩
  obtain ⟨y, b2, v0, v1⟩ := pick2
  obtain ⟨hv, p6, b3, hv0, hv1, P6⟩ := take_ok P5 y (by omega) (by omega)
  obtain ⟨os, a6, ⟨ho, hf⟩, tb⟩ := orders_ok2 ns ai.1.length salt sty hops 2 G.n1 G.n15 y0 y1 l0 l1 10000000 (Nat.le_refl _) hh (by omega) (by omega)
  have l60 := ho.l60
  have hl : 0 < os.length := by omega
  -- the turned aisle and orders
  obtain ⟨b, eb, hb⟩ : ∃ b : Bool, decide ((1 + hv) % 2 = 1) = b ∧ ((b = true ∧ (1 + hv) % 2 = 1) ∨ (b = false ∧ (1 + hv) % 2 = 0)) := by
    by_cases q : (1 + hv) % 2 = 1
    · exact ⟨true, decide_eq_true q, .inl ⟨rfl, q⟩⟩
    · exact ⟨false, decide_eq_false q, .inr ⟨rfl, by omega⟩⟩
  have d0 : 0 ≤ (1 + hv) * ai.1.sum := Int.mul_nonneg (by omega) (by omega)
  have d1 : (1 + hv) * ai.1.sum ≤ 20000 * 15000 := Int.mul_le_mul (by omega) (by omega) (by omega) (by omega)
  have A2 : AOk (turnG b ai.1, ai.2) := ⟨(turn_gp G b).n1, (turn_gp G b).n15, (turn_gp G b).gm, A1.mo⟩
  have ho2 : OOk (turnG b ai.1).length (os.map (turnO ai.1.length ((1 + hv) * ai.1.sum) b)) := by
    rw [turnG_len]
    exact ho.turn d0 (fun o hoo => by have := tb o hoo; omega) b
  have eg : (if decide ((1 + hv) % 2 = 1) = true then (letM (ai.1).reverse fun gaps_211 => some gaps_211) else some ai.1) = some (turnG b ai.1) := by
    rw [eb]; unfold turnG
    cases b with
    | true => rw [if_pos rfl, if_pos rfl, letM_eq]
    | false => rw [if_neg (by decide), if_neg (by decide)]
  have el : f_later (os, (ai.1.length : Int), (1 + hv) * ai.1.sum, b) = some (os.map (turnO ai.1.length ((1 + hv) * ai.1.sum) b)) := by
    unfold f_later
    dsimp only
    rw [letM_eq, bo (later_ok os [] (by rw [List.length_nil]; omega))]
    rfl
  obtain ⟨tk, S, e1, e2⟩ := homes_ok A1 ho
  obtain ⟨tz, Z, f1, f2⟩ := homes_ok A2 ho2
  have te : ∀ i, i < os.length → tz i = tk i + (1 + hv) * ai.1.sum := fun i hi => turn_spec A1 ho hb S Z hi
  have dt : ∀ i, i < os.length → dst (turnG b ai.1) (oat (os.map (turnO ai.1.length ((1 + hv) * ai.1.sum) b)) i) = dst ai.1 (oat os i) := fun i hi => by rw [oat_map hi]; exact dst_turn (oat_bok ho hi)
  generalize hdd : (1 + hv) * ai.1.sum = d at *
  have eh : hml (turnG b ai.1, ai.2) (os.map (turnO ai.1.length d b)) tz = (List.range os.length).map fun i => (some (tk i + d), some (tk i + dst ai.1 (oat os i) + d)) := by
    unfold hml
    rw [List.length_map]
    refine List.map_congr_left fun i hi => ?_
    have hi := List.mem_range.mp hi
    rw [te i hi, dt i hi]
    congr 2; omega
  have es : hms (turnG b ai.1, ai.2) (os.map (turnO ai.1.length d b)) tz = (hms ai os tk).map (· + d) := by
    unfold hms
    rw [List.length_map, List.map_map]
    refine List.map_congr_left fun i hi => ?_
    have hi := List.mem_range.mp hi
    show tz i + _ = tk i + _ + d
    rw [te i hi, dt i hi]; omega
  have lc : lcC (fun (x : Option Int × Option Int) => (x.1.bind fun x157 => x.2.bind fun x159 => some (some (x157 + d, x159 + d)))) (hml ai os tk) = some ((List.range os.length).map fun i => (tk i + d, tk i + dst ai.1 (oat os i) + d)) := by
    rw [lcC_ok (by rw [hml_len]; omega), lcM_all (g := fun x => (x.1.getD 0 + d, x.2.getD 0 + d)) fun x hx => ?_]
    · unfold hml; rw [List.map_map]; rfl
    · obtain ⟨i, _, rfl⟩ := List.mem_map.mp hx; rfl
  have nn : hms ai os tk ≠ [] := fun z => by have := congrArg List.length z; unfold hms at this; rw [List.length_map, List.length_range, List.length_nil] at this; omega
  unfold f_law
  rw [bo a0, bo a1]
  dsimp only
  rw [letM_eq, bo a2]
  dsimp only
  rw [bo a3]
  dsimp only
  rw [bo a4]
  dsimp only
  rw [bo a5, bo b1]
  dsimp only
  rw [bo b2, bo b3]
  dsimp only
  rw [letM_eq, bo (show mulM (1 + hv) ai.1.sum = some d by rw [← hdd]; unfold mulM; rw [if_pos (.inl ⟨by omega, by omega⟩)]), bo a6, letM_eq, bo eg, eb, bo el, letM_eq, bo f1, bo e1, bo lc, bo e2, letM_eq]
  have dq : hml (turnG b ai.1, ai.2) (os.map (turnO ai.1.length d b)) tz = (fun xs => List.map (fun x : Int × Int => ((fun x => some ((fun x => x) x)) x.1, (fun x => some ((fun x => x) x)) x.2)) xs) ((List.range os.length).map fun i => (tk i + d, tk i + dst ai.1 (oat os i) + d)) := by
    rw [eh]; show _ = List.map _ (List.map _ _); rw [List.map_map]; rfl
  have e9 : (if (!decide (hml (turnG b ai.1, ai.2) (os.map (turnO ai.1.length d b)) tz = (fun xs => List.map (fun x : Int × Int => ((fun x => some ((fun x => x) x)) x.1, (fun x => some ((fun x => x) x)) x.2)) xs) ((List.range os.length).map fun i => (tk i + d, tk i + dst ai.1 (oat os i) + d)))) = true then some true else ((f_end_of ((turnG b ai.1, ai.2), os.map (turnO ai.1.length d b))).bind fun x177 => some (!decide (x177 = maxV (hms ai os tk) + d)))) = some false := by
    rw [decide_eq_true dq, if_neg (by decide), bo f2, es, maxV_add nn, decide_eq_true rfl]; rfl
  rw [bo e9, if_neg (by decide)]
  have sh : Shp 4 (eL eD [eT2 (eL eI) eI ai, eL (eT4 eS eI eI eI) os, eL eI (turnG b ai.1), eL (eT4 eS eI eI eI) (os.map (turnO ai.1.length d b))]) := shp_list fun x hx => by
    rcases List.mem_cons.mp hx with rfl | hx
    · exact (shp_aisle ai).mono (by omega)
    · rcases List.mem_cons.mp hx with rfl | hx
      · exact (shp_orders ho).mono (by omega)
      · rcases List.mem_cons.mp hx with rfl | hx
        · exact (shp_list (n := 0) fun x hx => by obtain ⟨i, _, rfl⟩ := List.mem_map.mp hx; exact shp_int i).mono (by omega)
        · rcases List.mem_cons.mp hx with rfl | hx
          · exact (shp_orders ho2).mono (by omega)
          · cases hx
  rw [bo (eqD_self sh (by omega))]
end Bw

set_option maxHeartbeats 0
namespace Bw
open PySem L2
def de0 : He.DefD := ⟨("is_whole", none), "is_whole", "is_whole", defArgs s_is_whole, defBody s_is_whole, defScope s_is_whole, [], []⟩
def de1 : He.DefD := ⟨("is_name", none), "is_name", "is_name", defArgs s_is_name, defBody s_is_name, defScope s_is_name, [], []⟩
def de2 : He.DefD := ⟨("is_between", none), "is_between", "is_between", defArgs s_is_between, defBody s_is_between, defScope s_is_between, [], []⟩
def de3 : He.DefD := ⟨("look_at_aisle", none), "look_at_aisle", "look_at_aisle", defArgs s_look_at_aisle, defBody s_look_at_aisle, defScope s_look_at_aisle, [], []⟩
def de4 : He.DefD := ⟨("is_order", none), "is_order", "is_order", defArgs s_is_order, defBody s_is_order, defScope s_is_order, [], []⟩
def de5 : He.DefD := ⟨("look_at_orders", none), "look_at_orders", "look_at_orders", defArgs s_look_at_orders, defBody s_look_at_orders, defScope s_look_at_orders, [], []⟩
def de6 : He.DefD := ⟨("is_upward", none), "is_upward", "is_upward", defArgs s_is_upward, defBody s_is_upward, defScope s_is_upward, [], []⟩
def de7 : He.DefD := ⟨("round_of", none), "round_of", "round_of", defArgs s_round_of, defBody s_round_of, defScope s_round_of, [], []⟩
def de8 : He.DefD := ⟨("homes_of", none), "homes_of", "homes_of", defArgs s_homes_of, defBody s_homes_of, defScope s_homes_of, [], []⟩
def de9 : He.DefD := ⟨("end_of", none), "end_of", "end_of", defArgs s_end_of, defBody s_end_of, defScope s_end_of, [], []⟩
def de10 : He.DefD := ⟨("_law_pool", none), "_law_pool", "_law_pool", defArgs s_pool, defBody s_pool, defScope s_pool, [], []⟩
def de11 : He.DefD := ⟨("_law_take", none), "_law_take", "_law_take", defArgs s_take, defBody s_take, defScope s_take, [], []⟩
def de12 : He.DefD := ⟨("_law_aisle", none), "_law_aisle", "_law_aisle", defArgs s_aisle, defBody s_aisle, defScope s_aisle, [], []⟩
def de13 : He.DefD := ⟨("_law_name", none), "_law_name", "_law_name", defArgs s_name, defBody s_name, defScope s_name, [], []⟩
def de14 : He.DefD := ⟨("_law_orders", none), "_law_orders", "_law_orders", defArgs s_orders, defBody s_orders, defScope s_orders, [], []⟩
def de15 : He.DefD := ⟨("_law_later", none), "_law_later", "_law_later", defArgs s_later, defBody s_later, defScope s_later, [], []⟩
def de16 : He.DefD := ⟨("law", none), "law", "law", defArgs s_law, defBody s_law, defScope s_law, [], []⟩
def de17 : He.DefD := ⟨("Tour", some "__init__"), "__init__", "Tour.__init__", defArgs s_Tour, defBody s_Tour, defScope s_Tour, [], []⟩
def de18 : He.DefD := ⟨("Tour", some "leave"), "leave", "Tour.leave", defArgs s_Tour_leave, defBody s_Tour_leave, defScope s_Tour_leave, [], []⟩
def de19 : He.DefD := ⟨("Tour", some "lie_down"), "lie_down", "Tour.lie_down", defArgs s_Tour_lie_down, defBody s_Tour_lie_down, defScope s_Tour_lie_down, [], []⟩
def de20 : He.DefD := ⟨("Tour", some "skip"), "skip", "Tour.skip", defArgs s_Tour_skip, defBody s_Tour_skip, defScope s_Tour_skip, [], []⟩
def de21 : He.DefD := ⟨("Tour", some "stop"), "stop", "Tour.stop", defArgs s_Tour_stop, defBody s_Tour_stop, defScope s_Tour_stop, [], []⟩
def fnL : List He.DefD := [de0, de1, de2, de3, de4, de5, de6, de7, de8, de9, de10, de11, de12, de13, de14, de15, de16, de17, de18, de19, de20, de21]
def faL : List He.Fa := [.glo "is_whole", .glo "is_name", .glo "is_between", .glo "look_at_aisle", .glo "is_order", .glo "look_at_orders", .glo "is_upward", .glo "round_of", .glo "homes_of", .glo "end_of", .glo "_law_pool", .glo "_law_take", .glo "_law_aisle", .glo "_law_name", .glo "_law_orders", .glo "_law_later", .glo "law", .free "all", .free "bool", .free "int", .free "isinstance", .free "len", .free "list", .free "max", .free "min", .free "range", .free "str", .free "sum", .free "tuple", .free "zip", .int "LATEST" 1000000000, .str "LETTERS" "abcdefghijklmnopqrstuvwxyz", .int "LONGEST" 8, .int "LONGEST_GAP" 1000, .int "MOST_GAPS" 15, .int "MOST_LOAD" 20, .int "MOST_ORDERS" 60, .glo "Tour", .mkr "Tour", .cls "Tour", .noat "Tour" "aisle", .noat "Tour" "bay", .noat "Tour" "come", .noat "Tour" "homes", .noat "Tour" "lines", .noat "Tour" "many", .noat "Tour" "orders", .noat "Tour" "queued", .noat "Tour" "riding", .noat "Tour" "taken", .noat "Tour" "tick", .noat "Tour" "upward", .meth "Tour" "leave", .meth "Tour" "lie_down", .meth "Tour" "skip", .meth "Tour" "stop"]
def lo0 : List Str := ["CartError", "NoAisle", "NoOrders", "LETTERS", "LONGEST", "is_whole", "is_name", "MOST_GAPS", "LONGEST_GAP", "MOST_LOAD", "MOST_ORDERS", "LATEST", "is_between", "look_at_aisle", "is_order", "look_at_orders", "is_upward", "round_of", "Tour", "homes_of", "end_of", "_law_pool", "_law_take", "_law_aisle", "_law_name", "_law_orders", "_law_later"]
def looseL : List Str := lo0
abbrev RowL : PySem.W.OpenRow := PySem.W.OpenLaw.row PySem.Challenge.rw_baycart_k58_whole_later_and_turned_about
abbrev hkL : PySem.W.Hook := He.hookD 4 faL fnL
def obL (s : PySem.W.SharedT) : He.AlD := He.obsDG 4 faL fnL (HandSHeadRun.getT s)
theorem obL_eq (s : PySem.W.SharedT) : obL s = hkL.obs s.abs := He.obsDG_eq (HandSHeadRun.getT_eq s)
theorem runL (w : World) : HandSHeadRun.RunEq RowL (PySem.W.view RowL.prog [33]) hkL obL 20000 looseL w := by
  intro os
  kernel_rfl
theorem all_ok {P : Program} {w : World} {K : PySem.W.Frag} {h : Heap} {mg : Str → Option Value} {base : Heap} (X : K.In h) (G : h.Ns mainGlobals mg) (c : He.SaysD faL fnL K) : Ok P w K mg base 7 "law" ["_law_script"] (sp_law K) := by
  have m_all : mg "all" = none := He.free_ok X G (c.fact 17 (f := .free "all") rfl)
  have m_bool : mg "bool" = none := He.free_ok X G (c.fact 18 (f := .free "bool") rfl)
  have m_int : mg "int" = none := He.free_ok X G (c.fact 19 (f := .free "int") rfl)
  have m_isinstance : mg "isinstance" = none := He.free_ok X G (c.fact 20 (f := .free "isinstance") rfl)
  have m_len : mg "len" = none := He.free_ok X G (c.fact 21 (f := .free "len") rfl)
  have m_list : mg "list" = none := He.free_ok X G (c.fact 22 (f := .free "list") rfl)
  have m_max : mg "max" = none := He.free_ok X G (c.fact 23 (f := .free "max") rfl)
  have m_min : mg "min" = none := He.free_ok X G (c.fact 24 (f := .free "min") rfl)
  have m_range : mg "range" = none := He.free_ok X G (c.fact 25 (f := .free "range") rfl)
  have m_str : mg "str" = none := He.free_ok X G (c.fact 26 (f := .free "str") rfl)
  have m_sum : mg "sum" = none := He.free_ok X G (c.fact 27 (f := .free "sum") rfl)
  have m_tuple : mg "tuple" = none := He.free_ok X G (c.fact 28 (f := .free "tuple") rfl)
  have m_zip : mg "zip" = none := He.free_ok X G (c.fact 29 (f := .free "zip") rfl)
  have c_LATEST : ∃ t, mg "LATEST" = some (.int 1000000000 t) := He.int_ok X G (c.fact 30 (f := .int "LATEST" 1000000000) rfl)
  have c_LETTERS : ∃ t, mg "LETTERS" = some (.str "abcdefghijklmnopqrstuvwxyz" t) := He.str_ok X G (c.fact 31 (f := .str "LETTERS" "abcdefghijklmnopqrstuvwxyz") rfl)
  have c_LONGEST : ∃ t, mg "LONGEST" = some (.int 8 t) := He.int_ok X G (c.fact 32 (f := .int "LONGEST" 8) rfl)
  have c_LONGEST_GAP : ∃ t, mg "LONGEST_GAP" = some (.int 1000 t) := He.int_ok X G (c.fact 33 (f := .int "LONGEST_GAP" 1000) rfl)
  have c_MOST_GAPS : ∃ t, mg "MOST_GAPS" = some (.int 15 t) := He.int_ok X G (c.fact 34 (f := .int "MOST_GAPS" 15) rfl)
  have c_MOST_LOAD : ∃ t, mg "MOST_LOAD" = some (.int 20 t) := He.int_ok X G (c.fact 35 (f := .int "MOST_LOAD" 20) rfl)
  have c_MOST_ORDERS : ∃ t, mg "MOST_ORDERS" = some (.int 60 t) := He.int_ok X G (c.fact 36 (f := .int "MOST_ORDERS" 60) rfl)
  have d_is_whole : Df K mg "is_whole" s_is_whole := ⟨c.def_ 0 (d := de0) rfl, He.glo_ok X G (c.fact 0 (f := .glo "is_whole") rfl)⟩
  have d_is_name : Df K mg "is_name" s_is_name := ⟨c.def_ 1 (d := de1) rfl, He.glo_ok X G (c.fact 1 (f := .glo "is_name") rfl)⟩
  have d_is_between : Df K mg "is_between" s_is_between := ⟨c.def_ 2 (d := de2) rfl, He.glo_ok X G (c.fact 2 (f := .glo "is_between") rfl)⟩
  have d_look_at_aisle : Df K mg "look_at_aisle" s_look_at_aisle := ⟨c.def_ 3 (d := de3) rfl, He.glo_ok X G (c.fact 3 (f := .glo "look_at_aisle") rfl)⟩
  have d_is_order : Df K mg "is_order" s_is_order := ⟨c.def_ 4 (d := de4) rfl, He.glo_ok X G (c.fact 4 (f := .glo "is_order") rfl)⟩
  have d_look_at_orders : Df K mg "look_at_orders" s_look_at_orders := ⟨c.def_ 5 (d := de5) rfl, He.glo_ok X G (c.fact 5 (f := .glo "look_at_orders") rfl)⟩
  have d_is_upward : Df K mg "is_upward" s_is_upward := ⟨c.def_ 6 (d := de6) rfl, He.glo_ok X G (c.fact 6 (f := .glo "is_upward") rfl)⟩
  have d_round_of : Df K mg "round_of" s_round_of := ⟨c.def_ 7 (d := de7) rfl, He.glo_ok X G (c.fact 7 (f := .glo "round_of") rfl)⟩
  have d_homes_of : Df K mg "homes_of" s_homes_of := ⟨c.def_ 8 (d := de8) rfl, He.glo_ok X G (c.fact 8 (f := .glo "homes_of") rfl)⟩
  have d_end_of : Df K mg "end_of" s_end_of := ⟨c.def_ 9 (d := de9) rfl, He.glo_ok X G (c.fact 9 (f := .glo "end_of") rfl)⟩
  have d_pool : Df K mg "_law_pool" s_pool := ⟨c.def_ 10 (d := de10) rfl, He.glo_ok X G (c.fact 10 (f := .glo "_law_pool") rfl)⟩
  have d_take : Df K mg "_law_take" s_take := ⟨c.def_ 11 (d := de11) rfl, He.glo_ok X G (c.fact 11 (f := .glo "_law_take") rfl)⟩
  have d_aisle : Df K mg "_law_aisle" s_aisle := ⟨c.def_ 12 (d := de12) rfl, He.glo_ok X G (c.fact 12 (f := .glo "_law_aisle") rfl)⟩
  have d_name : Df K mg "_law_name" s_name := ⟨c.def_ 13 (d := de13) rfl, He.glo_ok X G (c.fact 13 (f := .glo "_law_name") rfl)⟩
  have d_orders : Df K mg "_law_orders" s_orders := ⟨c.def_ 14 (d := de14) rfl, He.glo_ok X G (c.fact 14 (f := .glo "_law_orders") rfl)⟩
  have d_later : Df K mg "_law_later" s_later := ⟨c.def_ 15 (d := de15) rfl, He.glo_ok X G (c.fact 15 (f := .glo "_law_later") rfl)⟩
  have d_law : Df K mg "law" s_law := ⟨c.def_ 16 (d := de16) rfl, He.glo_ok X G (c.fact 16 (f := .glo "law") rfl)⟩
  have d_Tour : DfM K "Tour" "__init__" "Tour.__init__" s_Tour := c.def_ 17 (d := de17) rfl
  have gc_Tour : mg "Tour" = some (.ref (He.ga K "Tour")) := He.glo_ok X G (c.fact 37 (f := .glo "Tour") rfl)
  have mkr_Tour := He.mkr_ok (K := K) (c.fact 38 (f := .mkr "Tour") rfl)
  have cl_Tour := He.cls_ok (K := K) (c.fact 39 (f := .cls "Tour") rfl)
  have na_Tour_aisle := He.noat_ok (K := K) (c.fact 40 (f := .noat "Tour" "aisle") rfl)
  have na_Tour_bay := He.noat_ok (K := K) (c.fact 41 (f := .noat "Tour" "bay") rfl)
  have na_Tour_come := He.noat_ok (K := K) (c.fact 42 (f := .noat "Tour" "come") rfl)
  have na_Tour_homes := He.noat_ok (K := K) (c.fact 43 (f := .noat "Tour" "homes") rfl)
  have na_Tour_lines := He.noat_ok (K := K) (c.fact 44 (f := .noat "Tour" "lines") rfl)
  have na_Tour_many := He.noat_ok (K := K) (c.fact 45 (f := .noat "Tour" "many") rfl)
  have na_Tour_orders := He.noat_ok (K := K) (c.fact 46 (f := .noat "Tour" "orders") rfl)
  have na_Tour_queued := He.noat_ok (K := K) (c.fact 47 (f := .noat "Tour" "queued") rfl)
  have na_Tour_riding := He.noat_ok (K := K) (c.fact 48 (f := .noat "Tour" "riding") rfl)
  have na_Tour_taken := He.noat_ok (K := K) (c.fact 49 (f := .noat "Tour" "taken") rfl)
  have na_Tour_tick := He.noat_ok (K := K) (c.fact 50 (f := .noat "Tour" "tick") rfl)
  have na_Tour_upward := He.noat_ok (K := K) (c.fact 51 (f := .noat "Tour" "upward") rfl)
  have d_Tour_leave : DfM K "Tour" "leave" "Tour.leave" s_Tour_leave := c.def_ 18 (d := de18) rfl
  have me_Tour_leave := He.meth_ok (K := K) (c.fact 52 (f := .meth "Tour" "leave") rfl)
  have d_Tour_lie_down : DfM K "Tour" "lie_down" "Tour.lie_down" s_Tour_lie_down := c.def_ 19 (d := de19) rfl
  have me_Tour_lie_down := He.meth_ok (K := K) (c.fact 53 (f := .meth "Tour" "lie_down") rfl)
  have d_Tour_skip : DfM K "Tour" "skip" "Tour.skip" s_Tour_skip := c.def_ 20 (d := de20) rfl
  have me_Tour_skip := He.meth_ok (K := K) (c.fact 54 (f := .meth "Tour" "skip") rfl)
  have d_Tour_stop : DfM K "Tour" "stop" "Tour.stop" s_Tour_stop := c.def_ 21 (d := de21) rfl
  have me_Tour_stop := He.meth_ok (K := K) (c.fact 55 (f := .meth "Tour" "stop") rfl)
  have o_pool := ok_pool (P := P) (w := w) (mg := mg) (base := base) d_pool m_len
  have o_take := ok_take (P := P) (w := w) (mg := mg) (base := base) d_take 
  have o_aisle := ok_aisle (P := P) (w := w) (mg := mg) (base := base) d_aisle m_range o_take
  have o_name := ok_name (P := P) (w := w) (mg := mg) (base := base) d_name 
  have o_orders := ok_orders (P := P) (w := w) (mg := mg) (base := base) d_orders m_len m_max m_min m_range o_take o_name o_pool
  have o_later := ok_later (P := P) (w := w) (mg := mg) (base := base) d_later 
  have o_is_whole := ok_is_whole (P := P) (w := w) (mg := mg) (base := base) d_is_whole m_bool m_int m_isinstance
  have o_is_between := ok_is_between (P := P) (w := w) (mg := mg) (base := base) d_is_between o_is_whole
  have o_look_at_aisle := ok_look_at_aisle (P := P) (w := w) (mg := mg) (base := base) d_look_at_aisle m_all m_isinstance m_len m_list m_tuple c_LONGEST_GAP c_MOST_GAPS c_MOST_LOAD o_is_between
  have o_is_name := ok_is_name (P := P) (w := w) (mg := mg) (base := base) d_is_name m_all m_isinstance m_len m_str c_LETTERS c_LONGEST
  have o_is_order := ok_is_order (P := P) (w := w) (mg := mg) (base := base) d_is_order m_isinstance m_len m_tuple c_LATEST o_is_between o_is_name
  have o_look_at_orders := ok_look_at_orders (P := P) (w := w) (mg := mg) (base := base) d_look_at_orders m_isinstance m_len m_list c_MOST_ORDERS o_is_order o_look_at_aisle
  have o_Tour := ok_Tour (P := P) (w := w) (mg := mg) (base := base) d_Tour gc_Tour mkr_Tour m_len cl_Tour na_Tour_aisle na_Tour_bay na_Tour_come na_Tour_homes na_Tour_lines na_Tour_many na_Tour_orders na_Tour_queued na_Tour_riding na_Tour_taken na_Tour_tick na_Tour_upward
  have o_round_of := ok_round_of (P := P) (w := w) (mg := mg) (base := base) d_round_of m_sum
  have o_Tour_skip := ok_Tour_skip (P := P) (w := w) (mg := mg) (base := base) d_Tour_skip cl_Tour me_Tour_skip m_max o_round_of cl_Tour na_Tour_aisle na_Tour_come na_Tour_orders na_Tour_queued na_Tour_riding na_Tour_tick
  have o_is_upward := ok_is_upward (P := P) (w := w) (mg := mg) (base := base) d_is_upward 
  have o_Tour_lie_down := ok_Tour_lie_down (P := P) (w := w) (mg := mg) (base := base) d_Tour_lie_down cl_Tour me_Tour_lie_down m_len o_is_upward cl_Tour na_Tour_come na_Tour_lines na_Tour_orders na_Tour_queued na_Tour_tick
  have o_Tour_stop := ok_Tour_stop (P := P) (w := w) (mg := mg) (base := base) d_Tour_stop cl_Tour me_Tour_stop m_len cl_Tour na_Tour_aisle na_Tour_bay na_Tour_homes na_Tour_lines na_Tour_many na_Tour_orders na_Tour_queued na_Tour_riding na_Tour_taken na_Tour_tick na_Tour_upward
  have o_Tour_leave := ok_Tour_leave (P := P) (w := w) (mg := mg) (base := base) d_Tour_leave cl_Tour me_Tour_leave m_len cl_Tour na_Tour_aisle na_Tour_bay na_Tour_tick na_Tour_upward
  have o_homes_of := ok_homes_of (P := P) (w := w) (mg := mg) (base := base) d_homes_of m_zip o_Tour_leave o_Tour_stop o_Tour_lie_down o_Tour_skip o_Tour o_look_at_orders cl_Tour na_Tour_homes na_Tour_many na_Tour_taken
  have o_end_of := ok_end_of (P := P) (w := w) (mg := mg) (base := base) d_end_of m_max o_homes_of
  have o_law := ok_law (P := P) (w := w) (mg := mg) (base := base) d_law m_len m_list m_sum o_end_of o_homes_of o_later o_orders o_take o_aisle o_pool
  exact o_law
end Bw
open PySem PySem.W PySem.Calls PyProof.Rows
abbrev Bw.qL : Program := view Bw.RowL.prog [33]
abbrev Bw.dL : DefRec := HandSHeadRun.topDef Bw.RowL.prog 33
theorem Bw.o_e : opening Bw.RowL.prog = plainProg Bw.RowL.prog.main.scope.names := by kernel_rfl
theorem Bw.o_f : ∀ s, fenceModules? Bw.RowL.prog s = some s := fun s => by kernel_rfl
theorem Bw.o_def : defOf Bw.qL Bw.RowL.name = some (Bw.dL, []) := by kernel_rfl
theorem Bw.o_the : Bw.RowL.prog.theDef Bw.RowL.name = some (Bw.dL.params, Bw.dL.body, Bw.dL.scope) := by kernel_rfl
theorem Bw.o_kw : kwWritten? Bw.dL.params.kwonlyargs Bw.dL.params.kw_defaults = some [] := by kernel_rfl
theorem Bw.o_1 : chainsOk Bw.qL = true := by decide +kernel
theorem Bw.o_2 : opensWell Bw.RowL.prog = true := by decide +kernel
theorem Bw.o_3 : frees Bw.RowL.toRowW = true := by decide +kernel
theorem Bw.o_4 : Bw.RowL.within.isEmpty = true := by decide +kernel
theorem Bw.o_ok : (chainsOk Bw.qL && opensWell Bw.RowL.prog && (frees Bw.RowL.toRowW && Bw.RowL.within.isEmpty)) = true := by rw [Bw.o_1, Bw.o_2, Bw.o_3, Bw.o_4]; rfl
theorem Bw.o_bare : Bw.RowL.prog.bare := ⟨rfl, rfl, rfl, rfl, rfl, by decide +kernel⟩
theorem Bw.o_hw : Bw.RowL.toRowW.promised := by w_witness2
theorem PySem.Challenge.cw_baycart_k58_whole_later_and_turned_about_holds : PySem.Challenge.rw_baycart_k58_whole_later_and_turned_about.Holds := by
  w_on; o_law
  refine HandSHeadRun.head_any (r := Bw.RowL) (q := Bw.qL) (H := Bw.hkL) (ob := Bw.obL) (M := 20000) (loose := Bw.looseL) (d := Bw.dL) (kwd := []) Bw.obL_eq
    Bw.o_e Bw.o_f Bw.runL Bw.o_def Bw.o_the Bw.o_kw (by rfl) (by first | assumption | decide +kernel) Bw.o_ok Bw.o_bare Bw.o_hw ?hc
  case hc =>
    refine L2.walk_ofE (l := PySem.Challenge.rw_baycart_k58_whole_later_and_turned_about) (n := 63) (k := 7) (x := "_law_script") (CX := L2.CX0) rfl (by decide) (by kernel_rfl) ⟨rfl, by decide, by decide⟩ ?F (fun _ _ _ _ z => z)
    intro w mg fa h Y G hmg0
    obtain ⟨K, KX, c⟩ := Y
    have hmg : mg ("law" : PySem.Str) = some (.ref fa) := by
      have e : (HandSHeadRun.topDef Bw.RowL.prog 33).name = ("law" : PySem.Str) := by kernel_rfl
      rw [← e]
      exact hmg0
    have ok0 : ∀ base : Heap, Bw.Ok (PySem.Challenge.rw_baycart_k58_whole_later_and_turned_about).prog w K mg base 7 "law" ["_law_script"] (Bw.sp_law K) := fun base => Bw.all_ok KX G c
    have ef : fa = He.ga K "law" := Bw.ref_inj (hmg.symm.trans (ok0 h).gm)
    obtain ⟨fd, FF⟩ := c.def_ 16 (d := Bw.de16) rfl
    have bnd : ∀ (s : Shared) (u : Value), BindsTo s fd ⟨[u], []⟩ [("_law_script", u)] := fun s u => (L2.FunD.bindsA (ps := ["_law_script"]) FF fun _ _ _ _ _ _ us hl => match us, hl with | [_], _ => rfl) s [u] rfl
    refine ⟨K, fd, Bw.sp_law K, KX, bnd, fun H a ns hl _ hS => ⟨H, [], ns, true, .cons (.lst hS (Bw.Dts.of_ints ns)) .nil, Bw.sta0, Bw.law_true ns hl, fun v F2 H2 _ _ hv => hv.toBl⟩, fun base hb1 hb2 => ?_⟩
    obtain ⟨⟨fd2, F2, _, lk⟩, _, _⟩ := ok0 base
    rw [ef, (Bw.lk_of FF).one lk]
    exact F2
